import PyProof.Rows.All
import Wide.All
import OpenK.AllK
import Wide.FinOn
import HandS.ForMost
import HandS.Wide
import HandS.IsInst
import HandS.Deep
import HandS.Style
import HandS.Zip
import HandS.Defaults
import HandS.TryOnly
import HandS.Zip0
import KE.KDictZip
import KE.KItemsList
import HandS.ListItems
import HandS.TupAny
import HandS.ExcOwn
import HandS.Lambda
import HandS.ExcInit
import HandS.WordsExc
import HandS.MakeKwOnly
import HandS.ExcField
import HandS.HotCalls
import HandS.SetBool
import HandS.TupSets
import HandS.Flt
import KE.SortData
import HandS.SuiteRaise
import HandS.RaiseFrom
import PyProof.NsDelKeeps
import HandS.ExcIs
import KE.KTryMore
import HandS.Nested
import HandS.EndTab
import HandS.SortKw
import KE.SortKeyHeap
import KE.GoesEnumKw
import KE.DataCmp
import HandS.Conv
import HandS.Style
import KE.KNestM
import HandS.DictComp
import HandS.TryMany
import PyProof.StrOps2
import HandS.DictTup
import PyProof.TupleOfSeq
import KE.DataMinMax
import KE.GoesMore
import KE.GoesZip
import KE.GoesEnum
import HandS.TupMul
import PySem.Challenge.RW_rubberroutes_k16_reduced_alike
set_option Elab.async false
set_option linter.all false
set_option maxRecDepth 100000
set_option maxHeartbeats 4000000
namespace Z
open PySem L2
inductive D where
  | non | bl (b : Bool) | int (i : Int) | str (s : Str) | ty (n : String) | tup (ds : List D) | rol (ds : List D) | ref (a : Addr)
inductive MO where
  | lst (ds : List D) | dK (kvs : List (Key × D)) | dT (kvs : List (List Key × D)) | ins (C dx : Addr) (fs : List (Str × D)) | xd (fs : List (Str × D)) | fT (od : Obj) (vs : List (List Key × V)) (kvs : List (List Key × D)) | fK (od : Obj) (vs : List (Key × V)) (kvs : List (Key × D)) | fTp (od : Obj) (ds : List D) | xo (od : Obj) (C : Addr) | tab (q : Str)
abbrev M := Addr → Option MO
def M.set (μ : M) (a : Addr) (m : MO) : M := fun b => if b = a then some m else μ b
theorem set_same {μ : M} {a : Addr} {m : MO} : μ.set a m a = some m := by unfold M.set; rw [if_pos rfl]
theorem set_ne {μ : M} {a b : Addr} {m : MO} (h : b ≠ a) : μ.set a m b = μ b := by unfold M.set; rw [if_neg h]
theorem set_set {μ : M} {a : Addr} {m m' : MO} : (μ.set a m).set a m' = μ.set a m' := by
  funext b; unfold M.set; split <;> rfl
inductive TupAt (K : PySem.W.Frag) (H : Hp) (a : Addr) (xs : List V) : Prop
  | inl (h : H a = some (.tup xs)) : TupAt K H a xs
def RolAt (K : PySem.W.Frag) (H : Hp) (a : Addr) (xs : List V) : Prop :=
  (∃ o, H a = some (.frz o (.lst xs))) ∨ ∃ (o : Obj) (its : Array Value) (n : Nat), K.lookup a = some o ∧ o.cls = .type "list" ∧ o.dict = none ∧ o.data = .seq its n ∧ its.size ≤ sizeLine ∧ Vals xs its.toList
theorem TupAt.sq {K : PySem.W.Frag} {H : Hp} {a : Addr} {xs : List V} (h : TupAt K H a xs) : SqT K H a xs := by
  cases h with
  | inl h => exact .inl (.inl h)
theorem RolAt.sq {K : PySem.W.Frag} {H : Hp} {a : Addr} {xs : List V} (h : RolAt K H a xs) : SqL K H a xs := by
  rcases h with ⟨o, h⟩ | h
  · exact .inl (.inr ⟨o, h⟩)
  · exact .inr h
mutual
inductive Rel (K : PySem.W.Frag) (H : Hp) : V → D → Prop
  | non : Rel K H .non .non
  | bl (b : Bool) : Rel K H (.bl b) (.bl b)
  | int (i : Int) : Rel K H (.int i) (.int i)
  | str (s : Str) : Rel K H (.str s) (.str s)
  | ty (n : String) : Rel K H (.ty n) (.ty n)
  | ref (a : Addr) : Rel K H (.ref a) (.ref a)
  | tup {a : Addr} {xs : List V} {ds : List D} : TupAt K H a xs → Rels K H xs ds → Rel K H (.ref a) (.tup ds)
  | rol {a : Addr} {xs : List V} {ds : List D} : RolAt K H a xs → Rels K H xs ds → Rel K H (.ref a) (.rol ds)
inductive Rels (K : PySem.W.Frag) (H : Hp) : List V → List D → Prop
  | nil : Rels K H [] []
  | cons {v : V} {vs : List V} {d : D} {ds : List D} : Rel K H v d → Rels K H vs ds → Rels K H (v :: vs) (d :: ds)
end
/-- field lists, pair lists -/
def RelKV {κ : Type} (K : PySem.W.Frag) (H : Hp) : List (κ × V) → List (κ × D) → Prop := Paired fun p q => p.1 = q.1 ∧ Rel K H p.2 q.2
def MRel (K : PySem.W.Frag) (H : Hp) (a : Addr) : MO → Prop
  | .lst ds => ∃ vs, H a = some (.lst vs) ∧ Rels K H vs ds
  | .dK kvs => ∃ vs, H a = some (.dK vs) ∧ RelKV K H vs kvs
  | .dT kvs => ∃ vs, H a = some (.dT vs) ∧ RelKV K H vs kvs
  | .ins C dx fs => ∃ vs, H a = some (.ins C dx vs) ∧ RelKV K H vs fs
  | .xd fs => ∃ vs, H a = some (.xd vs) ∧ RelKV K H vs fs
  | .fT od us kvs => ∃ vs, H a = some (.frz od (.dT vs)) ∧ RelKV K H vs kvs ∧ vs = us
  | .fK od us kvs => ∃ vs, H a = some (.frz od (.dK vs)) ∧ RelKV K H vs kvs ∧ vs = us
  | .fTp od ds => ∃ vs, H a = some (.frz od (.tup vs)) ∧ Rels K H vs ds ∧ od.dict = none
  | .xo od C => ∃ z : Addr, H a = some (.frz od (.own z)) ∧ od.cls = .ref C ∧ ∃ vs, od.data = .fields vs
  | .tab q => ∃ ps : Array Value, H a = some (.tbl ps) ∧ TriplesOk ps.toList ∧ ∀ (pos : Pos) (cv : Value), codeAmong pos ps.toList = some cv → ∃ c, cv = .ref c ∧ H c = some (LamX.CodeO c q)
def Con (K : PySem.W.Frag) (H : Hp) (μ : M) : Prop := ∀ a m, μ a = some m → MRel K H a m
abbrev T := List (Option D)
def Slots (K : PySem.W.Frag) (H : Hp) (τ : T) (σ : St) : Prop := τ.length = σ.length ∧ ∀ (i : Nat) (d : D), τ[i]? = some (some d) → ∃ v, σ[i]? = some (some v) ∧ Rel K H v d
/-- what is tracked outside of the store stays, and stays outside -/
def Fr (μ μ' : M) (H H' : Hp) : Prop := ∀ a o, μ a = none → H a = some o → H' a = some o ∧ μ' a = none
section
variable {K : PySem.W.Frag} {H H' H1 H2 : Hp} {μ μ' μ1 μ2 : M} {τ : T} {σ : St}
theorem Fr.refl : Fr μ μ H H := fun _ _ h e => ⟨e, h⟩
theorem Fr.trans (a : Fr μ μ1 H H1) (b : Fr μ1 μ2 H1 H2) : Fr μ μ2 H H2 := fun x o h e => let ⟨e1, h1⟩ := a x o h e; b x o h1 e1
theorem Con.tn (c : Con K H μ) {a : Addr} {xs : List V} (e : H a = some (.tup xs)) : μ a = none := by
  cases q : μ a with
  | none => rfl
  | some m =>
    have r := c a m q
    cases m <;> (obtain ⟨vs, h, _⟩ := r; rw [e] at h; cases h)
theorem Con.fn (c : Con K H μ) {a : Addr} {o : Obj} {u : List V} (e : H a = some (.frz o (.lst u))) : μ a = none := by
  cases q : μ a with
  | none => rfl
  | some m =>
    have r := c a m q
    cases m <;> (obtain ⟨vs, h, _⟩ := r; rw [e] at h; cases h)
theorem Con.free (c : Con K H μ) {a : Addr} (e : H a = none) : μ a = none := by
  cases q : μ a with
  | none => rfl
  | some m =>
    have r := c a m q
    cases m <;> (obtain ⟨vs, h, _⟩ := r; rw [e] at h; cases h)
/-- tuples and read-only lists stay -/
structure Tx (H H' : Hp) : Prop where
  t : ∀ a xs, H a = some (.tup xs) → H' a = some (.tup xs)
  l : ∀ a o xs, H a = some (.frz o (.lst xs)) → H' a = some (.frz o (.lst xs))
  c : ∀ a q, H a = some (LamX.CodeO a q) → H' a = some (LamX.CodeO a q)
theorem Con.cn (c : Con K H μ) {a : Addr} {q : Str} (e : H a = some (LamX.CodeO a q)) : μ a = none := by
  cases h : μ a with
  | none => rfl
  | some m =>
    have r := c a m h
    unfold LamX.CodeO at e
    cases m <;> (obtain ⟨vs, h, _⟩ := r; rw [e] at h; cases h)
theorem Tx.refl : Tx H H := ⟨fun _ _ h => h, fun _ _ _ h => h, fun _ _ h => h⟩
theorem Tx.trans (a : Tx H H1) (b : Tx H1 H2) : Tx H H2 := ⟨fun x xs h => b.t x xs (a.t x xs h), fun x o xs h => b.l x o xs (a.l x o xs h), fun x q h => b.c x q (a.c x q h)⟩
theorem Fr.tx (f : Fr μ μ' H H') (c : Con K H μ) : Tx H H' := ⟨fun a xs e => (f a _ (c.tn e) e).1, fun a o xs e => (f a _ (c.fn e) e).1, fun a q e => (f a _ (c.cn e) e).1⟩
theorem TupAt.mono {a : Addr} {xs : List V} (t : Tx H H') (h : TupAt K H a xs) : TupAt K H' a xs := by
  cases h with
  | inl h => exact .inl (t.t _ _ h)
theorem RolAt.mono {a : Addr} {xs : List V} (t : Tx H H') (h : RolAt K H a xs) : RolAt K H' a xs := by
  rcases h with ⟨o, h⟩ | h
  · exact .inl ⟨o, t.l _ _ _ h⟩
  · exact .inr h
mutual
theorem Rel.mono (t : Tx H H') : ∀ (d : D) (v : V), Rel K H v d → Rel K H' v d
  | .non, _, .non => .non
  | .bl _, _, .bl b => .bl b
  | .int _, _, .int b => .int b
  | .str _, _, .str b => .str b
  | .ty _, _, .ty b => .ty b
  | .ref _, _, .ref b => .ref b
  | .tup ds, _, .tup h r => .tup (h.mono t) (Rels.mono t ds _ r)
  | .rol ds, _, .rol h r => .rol (h.mono t) (Rels.mono t ds _ r)
theorem Rels.mono (t : Tx H H') : ∀ (ds : List D) (vs : List V), Rels K H vs ds → Rels K H' vs ds
  | [], _, .nil => .nil
  | d :: ds, _, .cons a b => .cons (Rel.mono t d _ a) (Rels.mono t ds _ b)
end
theorem RelKV.mono {κ : Type} (t : Tx H H') : ∀ {xs : List (κ × V)} {ys : List (κ × D)}, RelKV K H xs ys → RelKV K H' xs ys
  | _, _, .nil => .nil
  | _, _, .cons a b => .cons ⟨a.1, Rel.mono t _ _ a.2⟩ (RelKV.mono t b)
theorem Slots.mono (t : Tx H H') (s : Slots K H τ σ) : Slots K H' τ σ := ⟨s.1, fun i d e => let ⟨v, h, r⟩ := s.2 i d e; ⟨v, h, Rel.mono t d v r⟩⟩
theorem Rels.length : ∀ {vs : List V} {ds : List D}, Rels K H vs ds → vs.length = ds.length
  | _, _, .nil => rfl
  | _, _, .cons _ b => by rw [List.length_cons, List.length_cons, Rels.length b]
theorem Rels.append : ∀ {vs ws : List V} {ds es : List D}, Rels K H vs ds → Rels K H ws es → Rels K H (vs ++ ws) (ds ++ es)
  | _, _, _, _, .nil, h => h
  | _, _, _, _, .cons a b, h => .cons a (Rels.append b h)
theorem Rels.get : ∀ {vs : List V} {ds : List D} {i : Nat} {d : D}, Rels K H vs ds → ds[i]? = some d → ∃ v, vs[i]? = some v ∧ Rel K H v d
  | _, _, i, d, .nil, e => by simp at e
  | _, _, 0, d, .cons a _, e => ⟨_, rfl, by simp at e; subst e; exact a⟩
  | _, _, i + 1, d, .cons _ b, e => by
    obtain ⟨v, h1, h2⟩ := Rels.get (i := i) (d := d) b (by simpa using e)
    exact ⟨v, by simpa using h1, h2⟩
theorem Rels.getV : ∀ {vs : List V} {ds : List D} {i : Nat} {v : V}, Rels K H vs ds → vs[i]? = some v → ∃ d, ds[i]? = some d ∧ Rel K H v d
  | _, _, i, d, .nil, e => by simp at e
  | _, _, 0, d, .cons a _, e => ⟨_, rfl, by simp at e; subst e; exact a⟩
  | _, _, i + 1, d, .cons _ b, e => by
    obtain ⟨v, h1, h2⟩ := Rels.getV (i := i) (v := d) b (by simpa using e)
    exact ⟨v, by simpa using h1, h2⟩
theorem Rels.set {v : V} {d : D} (r : Rel K H v d) : ∀ {vs : List V} {ds : List D} (i : Nat), Rels K H vs ds → Rels K H (vs.set i v) (ds.set i d)
  | _, _, _, .nil => .nil
  | _, _, 0, .cons _ b => .cons r b
  | _, _, i + 1, .cons a b => .cons a (Rels.set r i b)
theorem Rels.reverse : ∀ {vs : List V} {ds : List D}, Rels K H vs ds → Rels K H vs.reverse ds.reverse
  | _, _, .nil => .nil
  | _, _, .cons a b => by rw [List.reverse_cons, List.reverse_cons]; exact (Rels.reverse b).append (.cons a .nil)
theorem Rels.take : ∀ {vs : List V} {ds : List D} (n : Nat), Rels K H vs ds → Rels K H (vs.take n) (ds.take n)
  | _, _, 0, _ => .nil
  | _, _, _ + 1, .nil => .nil
  | _, _, n + 1, .cons a b => .cons a (Rels.take n b)
theorem Rels.drop : ∀ {vs : List V} {ds : List D} (n : Nat), Rels K H vs ds → Rels K H (vs.drop n) (ds.drop n)
  | _, _, 0, h => h
  | _, _, _ + 1, .nil => .nil
  | _, _, n + 1, .cons _ b => Rels.drop n b
theorem Slots.set {v : V} {d : D} (s : Slots K H τ σ) (r : Rel K H v d) (i : Nat) : Slots K H (τ.set i (some d)) (σ.set i (some v)) := by
  refine ⟨by rw [List.length_set, List.length_set]; exact s.1, fun j e h => ?_⟩
  by_cases hj : i = j
  · subst hj
    by_cases hi : i < τ.length
    · rw [List.getElem?_set_self hi] at h
      cases h
      exact ⟨v, by rw [List.getElem?_set_self (by rw [← s.1]; exact hi)], r⟩
    · rw [List.getElem?_eq_none (by rw [List.length_set]; omega)] at h; cases h
  · rw [List.getElem?_set_ne hj] at h
    obtain ⟨v', e', r'⟩ := s.2 j e h
    exact ⟨v', by rw [List.getElem?_set_ne hj]; exact e', r'⟩
/-- objects other than p are as they were: the store but p is borne again -/
theorem MRel.mono (t : Tx H H') {a : Addr} (e : H' a = H a) : ∀ {m : MO}, MRel K H a m → MRel K H' a m
  | .lst _, ⟨vs, h, r⟩ => ⟨vs, e.trans h, Rels.mono t _ _ r⟩
  | .dK _, ⟨vs, h, r⟩ => ⟨vs, e.trans h, RelKV.mono t r⟩
  | .dT _, ⟨vs, h, r⟩ => ⟨vs, e.trans h, RelKV.mono t r⟩
  | .ins _ _ _, ⟨vs, h, r⟩ => ⟨vs, e.trans h, RelKV.mono t r⟩
  | .xd _, ⟨vs, h, r⟩ => ⟨vs, e.trans h, RelKV.mono t r⟩
  | .fT _ _ _, ⟨vs, h, r, z⟩ => ⟨vs, e.trans h, RelKV.mono t r, z⟩
  | .fK _ _ _, ⟨vs, h, r, z⟩ => ⟨vs, e.trans h, RelKV.mono t r, z⟩
  | .fTp _ _, ⟨vs, h, r, z⟩ => ⟨vs, e.trans h, Rels.mono t _ _ r, z⟩
  | .xo _ _, ⟨u, h, r⟩ => ⟨u, e.trans h, r⟩
  | .tab _, ⟨ps, h, z, r⟩ => ⟨ps, e.trans h, z, fun pos cv q => let ⟨c, e1, e2⟩ := r pos cv q; ⟨c, e1, t.c _ _ e2⟩⟩
/-- a new untracked-by-the-store object -/
theorem tx_new {p : Addr} {o : HO} (n : H p = none) : Tx H (upd H p o) := ⟨fun a xs e => by rw [upd_ne (ne_of_none e n)]; exact e, fun a ob xs e => by rw [upd_ne (ne_of_none e n)]; exact e, fun a q e => by rw [upd_ne (ne_of_none e n)]; exact e⟩
theorem con_new {p : Addr} {o : HO} (n : H p = none) (c : Con K H μ) : Con K (upd H p o) μ := fun a m e => by
  have ha : a ≠ p := fun z => by subst z; rw [c.free n] at e; cases e
  exact (c a m e).mono (tx_new n) (upd_ne ha)
theorem fr_new {p : Addr} {o : HO} (n : H p = none) : Fr μ μ H (upd H p o) := fun a u h e => ⟨by rw [upd_ne (ne_of_none e n)]; exact e, h⟩
/-- .. and in the store -/
theorem con_put {p : Addr} {o : HO} {m : MO} (n : H p = none) (c : Con K H μ) (r : MRel K (upd H p o) p m) : Con K (upd H p o) (μ.set p m) := fun a m' e => by
  by_cases ha : a = p
  · subst ha; rw [set_same] at e; cases e; exact r
  · rw [set_ne ha] at e
    exact (c a m' e).mono (tx_new n) (upd_ne ha)
theorem fr_put {p : Addr} {o : HO} {m : MO} (n : H p = none) : Fr μ (μ.set p m) H (upd H p o) := fun a u h e => by
  have ha : a ≠ p := ne_of_none e n
  exact ⟨by rw [upd_ne ha]; exact e, by rw [set_ne ha]; exact h⟩
/-- an object of the store is changed -/
theorem tx_mut {p : Addr} {o : HO} {m : MO} (c : Con K H μ) (h : μ p = some m) : Tx H (upd H p o) :=
  ⟨fun a xs e => by rw [upd_ne (fun z => by subst z; rw [c.tn e] at h; cases h)]; exact e, fun a ob xs e => by rw [upd_ne (fun z => by subst z; rw [c.fn e] at h; cases h)]; exact e, fun a q e => by rw [upd_ne (fun z => by subst z; rw [c.cn e] at h; cases h)]; exact e⟩
theorem con_mut {p : Addr} {o : HO} {m m' : MO} (c : Con K H μ) (h : μ p = some m) (r : MRel K (upd H p o) p m') : Con K (upd H p o) (μ.set p m') := fun a u e => by
  by_cases ha : a = p
  · subst ha; rw [set_same] at e; cases e; exact r
  · rw [set_ne ha] at e
    exact (c a u e).mono (tx_mut c h) (upd_ne ha)
theorem fr_mut {p : Addr} {o : HO} {m m' : MO} (h : μ p = some m) : Fr μ (μ.set p m') H (upd H p o) := fun a u n e => by
  have ha : a ≠ p := fun z => by subst z; rw [n] at h; cases h
  exact ⟨by rw [upd_ne ha]; exact e, by rw [set_ne ha]; exact n⟩
/-- the store forgotten in part -/
def Sub (μ μ' : M) : Prop := ∀ a m, μ a = some m → μ' a = some m
theorem Sub.refl : Sub μ μ := fun _ _ h => h
theorem Sub.trans (a : Sub μ μ1) (b : Sub μ1 μ2) : Sub μ μ2 := fun x m h => b x m (a x m h)
theorem Sub.set {p : Addr} {m : MO} (h : μ p = none) : Sub μ (μ.set p m) := fun a m' e => by rw [set_ne (fun z => by subst z; rw [h] at e; cases e)]; exact e
theorem Con.sub (s : Sub μ μ') (c : Con K H μ') : Con K H μ := fun a m e => c a m (s a m e)
theorem Sub.none (s : Sub μ μ') {a : Addr} (h : μ' a = Option.none) : μ a = Option.none := by
  cases q : μ a with
  | none => rfl
  | some m => rw [s a m q] at h; cases h
theorem Fr.sub (f : Fr μ μ1 H H1) (s : Sub μ2 μ1) : Fr μ μ2 H H1 := fun a o n e => let ⟨e1, h1⟩ := f a o n e; ⟨e1, s.none h1⟩
end
def AE (K : PySem.W.Frag) (t : TE) (τ : T) (μ : M) (Φ : D → M → Prop) : Prop :=
  ∀ σ H, Slots K H τ σ → Con K H μ → ∀ Q : VK, (∀ d μ' v H', Fr μ μ' H H' → Con K H' μ' → Rel K H' v d → Φ d μ' → Q v H') → t σ H Q
def AA (K : PySem.W.Frag) (t : TA) (τ : T) (μ : M) (Φ : List D → M → Prop) : Prop :=
  ∀ σ H, Slots K H τ σ → Con K H μ → ∀ Q : List V → Hp → Prop, (∀ d μ' v H', Fr μ μ' H H' → Con K H' μ' → Rels K H' v d → Φ d μ' → Q v H') → t σ H Q
def AT (K : PySem.W.Frag) (t : TT) (τ : T) (μ : M) (Φ : Bool → M → Prop) : Prop :=
  ∀ σ H, Slots K H τ σ → Con K H μ → ∀ Q : Bool → Hp → Prop, (∀ b μ' H', Fr μ μ' H H' → Con K H' μ' → Φ b μ' → Q b H') → t σ H Q
structure AEnds where
  nx : T → M → Prop
  rt : D → M → Prop
  bk : T → M → Prop := fun _ _ => False
  ct : T → M → Prop := fun _ _ => False
  /-- what is wished of an exception; what the names of classes stand for; what holds where one is raised -/
  W : WX := fun _ _ _ _ => False
  cn : Str → Option Value := fun _ => none
  xs : Str → Option Addr → T → M → Prop := fun _ _ _ _ => False
/-- the concrete ends that follow from the abstract ones -/
structure EndsOk (K : PySem.W.Frag) (N : AEnds) (μ : M) (H : Hp) (E : Ends) : Prop where
  nx : ∀ τ' μ' σ' H', Fr μ μ' H H' → Con K H' μ' → Slots K H' τ' σ' → N.nx τ' μ' → E.nx σ' H'
  rt : ∀ d μ' v H', Fr μ μ' H H' → Con K H' μ' → Rel K H' v d → N.rt d μ' → E.rt v H'
  bk : ∀ τ' μ' σ' H', Fr μ μ' H H' → Con K H' μ' → Slots K H' τ' σ' → N.bk τ' μ' → E.bk σ' H'
  ct : ∀ τ' μ' σ' H', Fr μ μ' H H' → Con K H' μ' → Slots K H' τ' σ' → N.ct τ' μ' → E.ct σ' H'
  wx : ∀ x dx τ' μ' cls σ' H', N.cn x = some cls → Fr μ μ' H H' → Con K H' μ' → Slots K H' τ' σ' → N.xs x dx τ' μ' → N.W cls dx σ' H'
def AS (K : PySem.W.Frag) (t : TS) (τ : T) (μ : M) (N : AEnds) : Prop :=
  ∀ σ H, Slots K H τ σ → Con K H μ → ∀ E : Ends, EndsOk K N μ H E → t E σ H
/-- a target -/
def AG (K : PySem.W.Frag) (g : TG) (d : D) (τ : T) (μ : M) (Φ : T → M → Prop) : Prop :=
  ∀ σ H v, Slots K H τ σ → Con K H μ → Rel K H v d → ∀ Q : St → Hp → Prop, (∀ τ' μ' σ' H', Fr μ μ' H H' → Con K H' μ' → Slots K H' τ' σ' → Φ τ' μ' → Q σ' H') → g v σ H Q
def AGs (K : PySem.W.Frag) (g : TGs) (ds : List D) (τ : T) (μ : M) (Φ : T → M → Prop) : Prop :=
  ∀ σ H vs, Slots K H τ σ → Con K H μ → Rels K H vs ds → ∀ Q : St → Hp → Prop, (∀ τ' μ' σ' H', Fr μ μ' H H' → Con K H' μ' → Slots K H' τ' σ' → Φ τ' μ' → Q σ' H') → g vs σ H Q
/-- an operation on values -/
def RO (K : PySem.W.Frag) (r : R2) (d e : D) (μ : M) (Φ : D → M → Prop) : Prop :=
  ∀ H x y, Con K H μ → Rel K H x d → Rel K H y e → ∀ Q : VK, (∀ z μ' v H', Fr μ μ' H H' → Con K H' μ' → Rel K H' v z → Φ z μ' → Q v H') → r x y H Q
def RU (K : PySem.W.Frag) (r : V → Hp → VK → Prop) (d : D) (μ : M) (Φ : D → M → Prop) : Prop :=
  ∀ H x, Con K H μ → Rel K H x d → ∀ Q : VK, (∀ z μ' v H', Fr μ μ' H H' → Con K H' μ' → Rel K H' v z → Φ z μ' → Q v H') → r x H Q
def RC (K : PySem.W.Frag) (r : List V → Hp → VK → Prop) (ds : List D) (μ : M) (Φ : D → M → Prop) : Prop :=
  ∀ H xs, Con K H μ → Rels K H xs ds → ∀ Q : VK, (∀ z μ' v H', Fr μ μ' H H' → Con K H' μ' → Rel K H' v z → Φ z μ' → Q v H') → r xs H Q
section
variable {K : PySem.W.Frag} {τ : T} {μ : M} {Φ Ψ : D → M → Prop} {ta tb te : TE} {r : R2} {t u : TT} {x y z d e : D}
theorem AE.imp (h : AE K te τ μ Φ) (k : ∀ d μ', Φ d μ' → Ψ d μ') : AE K te τ μ Ψ := fun σ H s c Q q => h σ H s c Q fun d μ' v H' f c' r p => q d μ' v H' f c' r (k d μ' p)
theorem AT.imp {Φ Ψ : Bool → M → Prop} (h : AT K t τ μ Φ) (k : ∀ d μ', Φ d μ' → Ψ d μ') : AT K t τ μ Ψ := fun σ H s c Q q => h σ H s c Q fun d μ' H' f c' p => q d μ' H' f c' (k d μ' p)
theorem a_var {i : Nat} (h : τ[i]? = some (some d)) (q : Φ d μ) : AE K (tVar i) τ μ Φ := fun σ H s c Q k => by
  obtain ⟨v, e, r⟩ := s.2 i d h
  exact ⟨v, e, k d μ v H Fr.refl c r q⟩
theorem a_int {n : Int} (q : Φ (.int n) μ) : AE K (tC (.int n)) τ μ Φ := fun σ H s c Q k => k _ μ _ H Fr.refl c (.int n) q
theorem a_bl {n : Bool} (q : Φ (.bl n) μ) : AE K (tC (.bl n)) τ μ Φ := fun σ H s c Q k => k _ μ _ H Fr.refl c (.bl n) q
theorem a_str {n : Str} (q : Φ (.str n) μ) : AE K (tC (.str n)) τ μ Φ := fun σ H s c Q k => k _ μ _ H Fr.refl c (.str n) q
theorem a_non (q : Φ .non μ) : AE K (tC .non) τ μ Φ := fun σ H s c Q k => k _ μ _ H Fr.refl c .non q
theorem a_ty {n : String} (q : Φ (.ty n) μ) : AE K (tC (.ty n)) τ μ Φ := fun σ H s c Q k => k _ μ _ H Fr.refl c (.ty n) q
theorem a_op (h : AE K ta τ μ fun d μ1 => AE K tb τ μ1 fun e μ2 => RO K r d e μ2 Φ) : AE K (tOp r ta tb) τ μ Φ := fun σ H s c Q k =>
  h σ H s c _ fun d μ1 v H1 f1 c1 r1 p1 => p1 σ H1 (s.mono (f1.tx c)) c1 _ fun e μ2 u H2 f2 c2 r2 p2 =>
    p2 H2 v u c2 (Rel.mono (f2.tx c1) _ _ r1) r2 Q fun z μ' w H' f c' rz pz => k z μ' w H' ((f1.trans f2).trans f) c' rz pz
theorem a_un {r : V → Hp → VK → Prop} (h : AE K ta τ μ fun d μ1 => RU K r d μ1 Φ) : AE K (tUn r ta) τ μ Φ := fun σ H s c Q k =>
  h σ H s c _ fun d μ1 v H1 f1 c1 r1 p1 => p1 H1 v c1 r1 Q fun z μ' w H' f c' rz pz => k z μ' w H' (f1.trans f) c' rz pz
theorem aa_nil {Φ : List D → M → Prop} (q : Φ [] μ) : AA K tNil τ μ Φ := fun σ H s c Q k => k _ μ _ H Fr.refl c .nil q
theorem aa_cons {Φ : List D → M → Prop} {tr : TA} (h : AE K ta τ μ fun d μ1 => AA K tr τ μ1 fun ds μ2 => Φ (d :: ds) μ2) : AA K (tCons ta tr) τ μ Φ := fun σ H s c Q k =>
  h σ H s c _ fun d μ1 v H1 f1 c1 r1 p1 => p1 σ H1 (s.mono (f1.tx c)) c1 _ fun ds μ2 us H2 f2 c2 r2 p2 => k _ μ2 _ H2 (f1.trans f2) c2 (.cons (Rel.mono (f2.tx c1) _ _ r1) r2) p2
theorem a_tup {ta : TA} (h : AA K ta τ μ fun ds μ1 => ds.length ≤ sizeLine ∧ Φ (.tup ds) μ1) : AE K (tTup ta) τ μ Φ := fun σ H s c Q k =>
  h σ H s c _ fun ds μ1 vs H1 f1 c1 r1 ⟨hz, p1⟩ => ⟨by rw [r1.length]; exact hz, fun p hp => k _ μ1 _ _ (f1.trans (fr_new hp)) (con_new hp c1) (.tup (.inl upd_same) (Rels.mono (tx_new hp) _ _ r1)) p1⟩
theorem a_lst {ta : TA} (h : AA K ta τ μ fun ds μ1 => ds.length ≤ sizeLine ∧ ∀ p, μ1 p = none → Φ (.ref p) (μ1.set p (.lst ds))) : AE K (tLst ta) τ μ Φ := fun σ H s c Q k =>
  h σ H s c _ fun ds μ1 vs H1 f1 c1 r1 ⟨hz, p1⟩ => ⟨by rw [r1.length]; exact hz, fun p hp => k _ _ _ _ (f1.trans (fr_put hp)) (con_put (m := .lst ds) hp c1 ⟨vs, upd_same, Rels.mono (tx_new hp) _ _ r1⟩) (.ref p) (p1 p (c1.free hp))⟩
theorem a_cb {r : List V → Hp → VK → Prop} {ta : TA} (h : AA K ta τ μ fun ds μ1 => RC K r ds μ1 Φ) : AE K (tCB r ta) τ μ Φ := fun σ H s c Q k =>
  h σ H s c _ fun ds μ1 vs H1 f1 c1 r1 p1 => p1 H1 vs c1 r1 Q fun z μ' w H' f c' rz pz => k z μ' w H' (f1.trans f) c' rz pz
theorem a_if (h : AT K t τ μ fun b μ1 => if b = true then AE K ta τ μ1 Φ else AE K tb τ μ1 Φ) : AE K (tIf t ta tb) τ μ Φ := fun σ H s c Q k =>
  h σ H s c _ fun b μ1 H1 f1 c1 p1 => by
    cases b with
    | true => exact (show AE K ta τ μ1 Φ from p1) σ H1 (s.mono (f1.tx c)) c1 Q fun z μ' w H' f c' rz pz => k z μ' w H' (f1.trans f) c' rz pz
    | false => exact (show AE K tb τ μ1 Φ from p1) σ H1 (s.mono (f1.tx c)) c1 Q fun z μ' w H' f c' rz pz => k z μ' w H' (f1.trans f) c' rz pz
theorem a_andV (h : AE K ta τ μ fun d μ1 => ∃ b, d = .bl b ∧ if b = true then AE K tb τ μ1 Φ else Φ (.bl false) μ1) : AE K (tAndV ta tb) τ μ Φ := fun σ H s c Q k =>
  h σ H s c _ fun d μ1 v H1 f1 c1 r1 ⟨b, e, p1⟩ => by
    subst e
    cases r1
    refine ⟨b, rfl, ?_⟩
    cases b with
    | true => exact (show AE K tb τ μ1 Φ from p1) σ H1 (s.mono (f1.tx c)) c1 Q fun z μ' w H' f c' rz pz => k z μ' w H' (f1.trans f) c' rz pz
    | false => exact k _ μ1 _ H1 f1 c1 (.bl false) (show Φ (.bl false) μ1 from p1)
theorem a_orV (h : AE K ta τ μ fun d μ1 => ∃ b, d = .bl b ∧ if b = true then Φ (.bl true) μ1 else AE K tb τ μ1 Φ) : AE K (tOrV ta tb) τ μ Φ := fun σ H s c Q k =>
  h σ H s c _ fun d μ1 v H1 f1 c1 r1 ⟨b, e, p1⟩ => by
    subst e
    cases r1
    refine ⟨b, rfl, ?_⟩
    cases b with
    | true => exact k _ μ1 _ H1 f1 c1 (.bl true) (show Φ (.bl true) μ1 from p1)
    | false => exact (show AE K tb τ μ1 Φ from p1) σ H1 (s.mono (f1.tx c)) c1 Q fun z μ' w H' f c' rz pz => k z μ' w H' (f1.trans f) c' rz pz
theorem a_notV (h : AE K ta τ μ fun d μ1 => ∃ b, d = .bl b ∧ Φ (.bl (!b)) μ1) : AE K (tNotV ta) τ μ Φ := fun σ H s c Q k =>
  h σ H s c _ fun d μ1 v H1 f1 c1 r1 ⟨b, e, p1⟩ => by
    subst e
    cases r1
    exact ⟨b, rfl, k _ μ1 _ H1 f1 c1 (.bl _) p1⟩
variable {Θ : Bool → M → Prop}
theorem at_test (h : AE K te τ μ fun d μ1 => ∃ b, d = .bl b ∧ Θ b μ1) : AT K (tTest te) τ μ Θ := fun σ H s c Q k =>
  h σ H s c _ fun d μ1 v H1 f1 c1 r1 ⟨b, e, p1⟩ => by
    subst e
    cases r1
    exact ⟨b, rfl, k b μ1 H1 f1 c1 p1⟩
theorem at_B (h : AE K te τ μ fun d μ1 => ∃ b, d = .bl b ∧ Θ b μ1) : AT K (tB te) τ μ Θ := fun σ H s c Q k =>
  h σ H s c _ fun d μ1 v H1 f1 c1 r1 ⟨b, e, p1⟩ => by
    subst e
    cases r1
    exact ⟨b, rfl, k b μ1 H1 f1 c1 p1⟩
theorem at_and (h : AT K t τ μ fun b μ1 => if b = true then AT K u τ μ1 Θ else Θ false μ1) : AT K (tAnd t u) τ μ Θ := fun σ H s c Q k =>
  h σ H s c _ fun b μ1 H1 f1 c1 p1 => by
    cases b with
    | true => exact (show AT K u τ μ1 Θ from p1) σ H1 (s.mono (f1.tx c)) c1 Q fun z μ' H' f c' pz => k z μ' H' (f1.trans f) c' pz
    | false => exact k false μ1 H1 f1 c1 (show Θ false μ1 from p1)
theorem at_or (h : AT K t τ μ fun b μ1 => if b = true then Θ true μ1 else AT K u τ μ1 Θ) : AT K (tOr t u) τ μ Θ := fun σ H s c Q k =>
  h σ H s c _ fun b μ1 H1 f1 c1 p1 => by
    cases b with
    | true => exact k true μ1 H1 f1 c1 (show Θ true μ1 from p1)
    | false => exact (show AT K u τ μ1 Θ from p1) σ H1 (s.mono (f1.tx c)) c1 Q fun z μ' H' f c' pz => k z μ' H' (f1.trans f) c' pz
theorem at_not (h : AT K t τ μ fun b μ1 => Θ (!b) μ1) : AT K (tNot t) τ μ Θ := fun σ H s c Q k => h σ H s c _ fun b μ1 H1 f1 c1 p1 => k (!b) μ1 H1 f1 c1 p1
end
end Z
namespace Z
open PySem L2
section
variable {K : PySem.W.Frag} {τ : T} {μ μ1 μ2 : M} {H H1 H2 : Hp} {σ : L2.St} {Φ Ψ : D → M → Prop} {ta tb tc te : TE} {r r' : R2} {t u : TT} {x y z d e : D} {N : AEnds} {ts us : TS} {g : TG} {D0 E : Ends}
theorem EndsOk.step {μ' : M} {H' : Hp} (k : EndsOk K N μ H E) (f : Fr μ μ' H H') : EndsOk K N μ' H' E :=
  ⟨fun a b c d' f' => k.nx a b c d' (f.trans f'), fun a b c d' f' => k.rt a b c d' (f.trans f'), fun a b c d' f' => k.bk a b c d' (f.trans f'), fun a b c d' f' => k.ct a b c d' (f.trans f'), fun x1 x2 x3 x4 x5 x6 x7 x8 f' => k.wx x1 x2 x3 x4 x5 x6 x7 x8 (f.trans f')⟩
theorem s_seq (h : AS K ts τ μ { N with nx := fun τ' μ' => AS K us τ' μ' N }) : AS K (tSeq ts us) τ μ N := fun σ H s c E k =>
  h σ H s c _ ⟨fun τ' μ' σ' H' f c' s' p => p σ' H' s' c' E (k.step f), k.rt, k.bk, k.ct, k.wx⟩
theorem s_next (h : N.nx τ μ) : AS K tNext τ μ N := fun σ H s c E k => k.nx τ μ σ H Fr.refl c s h
theorem s_drop (h : AE K te τ μ fun _ μ' => N.nx τ μ') : AS K (tDrop te) τ μ N := fun σ H s c E k =>
  h σ H s c _ fun d μ' v H' f c' r p => k.nx τ μ' σ H' f c' (s.mono (f.tx c)) p
theorem s_ret (h : AE K te τ μ N.rt) : AS K (tRet te) τ μ N := fun σ H s c E k => h σ H s c _ fun d μ' v H' f c' r p => k.rt d μ' v H' f c' r p
theorem s_retN (h : N.rt .non μ) : AS K tRetN τ μ N := fun σ H s c E k => k.rt .non μ .non H Fr.refl c .non h
theorem s_if (h : AT K t τ μ fun b μ' => if b = true then AS K ts τ μ' N else AS K us τ μ' N) : AS K (tIfS t ts us) τ μ N := fun σ H s c E k =>
  h σ H s c _ fun b μ' H' f c' p => by
    cases b with
    | true => exact (show AS K ts τ μ' N from p) σ H' (s.mono (f.tx c)) c' E (k.step f)
    | false => exact (show AS K us τ μ' N from p) σ H' (s.mono (f.tx c)) c' E (k.step f)
theorem s_asg (h : AE K te τ μ fun d μ' => AG K g d τ μ' N.nx) : AS K (tAsg te g) τ μ N := fun σ H s c E k =>
  h σ H s c _ fun d μ' v H' f c' r p => p σ H' v (s.mono (f.tx c)) c' r _ fun τ2 μ2 σ2 H2 f2 c2 s2 q => k.nx τ2 μ2 σ2 H2 (f.trans f2) c2 s2 q
theorem g_name {i : Nat} {Θ : T → M → Prop} (h : Θ (τ.set i (some d)) μ) : AG K (gName i) d τ μ Θ := fun σ H v s c r Q k => k _ μ _ H Fr.refl c (s.set r i) h
theorem gs_nil {Θ : T → M → Prop} (h : Θ τ μ) : AGs K gNil [] τ μ Θ := fun σ H vs s c r Q k => by
  cases r
  exact ⟨rfl, k τ μ σ H Fr.refl c s h⟩
theorem gs_cons {gs : TGs} {ds : List D} {Θ : T → M → Prop} (h : AG K g d τ μ fun τ' μ' => AGs K gs ds τ' μ' Θ) : AGs K (gCons g gs) (d :: ds) τ μ Θ := fun σ H vs s c r Q k => by
  cases r with
  | cons r1 r2 =>
    rename_i v vs'
    exact ⟨v, vs', rfl, h σ H v s c r1 _ fun τ' μ' σ' H' f c' s' p => p σ' H' vs' s' c' (Rels.mono (f.tx c) _ _ r2) Q fun τ2 μ2 σ2 H2 f2 c2 s2 q => k τ2 μ2 σ2 H2 (f.trans f2) c2 s2 q⟩
theorem g_tup {n : Nat} {gs : TGs} {ds : List D} {Θ : T → M → Prop} (hn : ds.length = n) (h : AGs K gs ds τ μ Θ) : AG K (gTup K n gs) (.tup ds) τ μ Θ := fun σ H v s c r Q k => by
  cases r with
  | tup ht hr => exact ⟨_, _, rfl, ht.sq, by rw [hr.length]; exact hn, h σ H _ s c hr Q k⟩
/-- o[i] = v -/
def ASet (K : PySem.W.Frag) (t : TSet) (o i d : D) (μ : M) (Θ : M → Prop) : Prop :=
  ∀ H a b v, Con K H μ → Rel K H a o → Rel K H b i → Rel K H v d → ∀ Q : Hp → Prop, (∀ μ' H', Fr μ μ' H H' → Con K H' μ' → Θ μ' → Q H') → t a b v H Q
theorem g_sub {to ti : TE} {tset : TSet} {Θ : T → M → Prop} (h : AE K to τ μ fun o μ1 => AE K ti τ μ1 fun i μ2 => ASet K tset o i d μ2 fun μ3 => Θ τ μ3) : AG K (gSub to ti tset) d τ μ Θ := fun σ H v s c r Q k =>
  h σ H s c _ fun o μ1 a H1 f1 c1 r1 p1 => p1 σ H1 (s.mono (f1.tx c)) c1 _ fun i μ2 b H2 f2 c2 r2 p2 =>
    p2 H2 a b v c2 (Rel.mono (f2.tx c1) _ _ r1) r2 (Rel.mono ((f1.trans f2).tx c) _ _ r) _ fun μ3 H3 f3 c3 p3 => k τ μ3 σ H3 ((f1.trans f2).trans f3) c3 (s.mono (((f1.trans f2).trans f3).tx c)) p3
theorem s_par {i j : Nat} {ta : TA} (h : AA K ta τ μ fun ds μ' => ∃ d e, ds = [d, e] ∧ N.nx ((τ.set i (some d)).set j (some e)) μ') : AS K (tPar i j ta) τ μ N := fun σ H s c E k =>
  h σ H s c _ fun ds μ' vs H' f c' r ⟨d, e, q, p⟩ => by
    subst q
    cases r with
    | cons r1 r2 =>
      cases r2 with
      | cons r2 r3 =>
        cases r3
        exact ⟨_, _, rfl, k.nx _ μ' _ H' f c' (((s.mono (f.tx c)).set r1 i).set r2 j) p⟩
/-- a op= b, by values -/
theorem s_aug {i : Nat} {ti : TIp} (hx : τ[i]? = some (some d)) (h : AE K te τ μ fun e μ1 => RO K ti d e μ1 fun z μ2 => N.nx (τ.set i (some z)) μ2) : AS K (tAug i te ti) τ μ N := fun σ H s c E k => by
  obtain ⟨v, e1, r1⟩ := s.2 i d hx
  exact ⟨v, e1, h σ H s c _ fun e μ1 u H1 f1 c1 r2 p1 => p1 H1 v u c1 (Rel.mono (f1.tx c) _ _ r1) r2 _ fun z μ2 w H2 f2 c2 rz p2 =>
    k.nx _ μ2 _ H2 (f1.trans f2) c2 ((s.mono ((f1.trans f2).tx c)).set rz i) p2⟩
/-- a statement, then the rest, with a word between -/
theorem s_cut {M0 : T → M → Prop} (h : AS K ts τ μ { N with nx := M0 }) (k : ∀ τ' μ', M0 τ' μ' → AS K us τ' μ' N) : AS K (tSeq ts us) τ μ N := s_seq fun σ H s c E q => h σ H s c E ⟨fun τ' μ' σ' H' f c' s' p => q.nx τ' μ' σ' H' f c' s' (k τ' μ' p), q.rt, q.bk, q.ct, q.wx⟩
theorem AS.imp {nx' bk' ct' : T → M → Prop} {rt' : D → M → Prop} (h : AS K ts τ μ N) (h1 : ∀ a b, N.nx a b → nx' a b) (h2 : ∀ a b, N.rt a b → rt' a b) (h3 : ∀ a b, N.bk a b → bk' a b) (h4 : ∀ a b, N.ct a b → ct' a b) : AS K ts τ μ { N with nx := nx', rt := rt', bk := bk', ct := ct' } := fun σ H s c E q =>
  h σ H s c E ⟨fun a b c' d' f x y p => q.nx a b c' d' f x y (h1 _ _ p), fun a b c' d' f x y p => q.rt a b c' d' f x y (h2 _ _ p), fun a b c' d' f x y p => q.bk a b c' d' f x y (h3 _ _ p), fun a b c' d' f x y p => q.ct a b c' d' f x y (h4 _ _ p), q.wx⟩
theorem s_while {tt : TT} {tb : TS} (W : Nat → T → M → Prop) (m0 : Nat) (h0 : W m0 τ μ)
    (hs : ∀ m τ' μ', W m τ' μ' → AT K tt τ' μ' fun b μ1 => if b = true then AS K tb τ' μ1 { N with nx := fun τ2 μ2 => ∃ m', m' < m ∧ W m' τ2 μ2, ct := fun τ2 μ2 => ∃ m', m' < m ∧ W m' τ2 μ2, bk := N.nx } else N.nx τ' μ1) :
    AS K (tWhile tt tb) τ μ N := fun σ H s c E k =>
  ⟨fun m σ' H' => ∃ τ' μ', Fr μ μ' H H' ∧ Con K H' μ' ∧ Slots K H' τ' σ' ∧ W m τ' μ', ⟨m0, τ, μ, Fr.refl, c, s, h0⟩, fun m σ' H' ⟨τ', μ', f, c', s', w⟩ =>
    hs m τ' μ' w σ' H' s' c' _ fun b μ1 H1 f1 c1 p => by
      cases b with
      | true =>
        refine ⟨fun σ2 H2 => ∃ m', m' < m ∧ ∃ τ' μ', Fr μ μ' H H2 ∧ Con K H2 μ' ∧ Slots K H2 τ' σ2 ∧ W m' τ' μ', fun σ2 H2 q => q, ?_⟩
        refine (show AS K tb τ' μ1 _ from p) σ' H1 (s'.mono (f1.tx c')) c1 _ ⟨fun τ2 μ2 σ2 H2 f2 c2 s2 ⟨m', hm, w'⟩ => ⟨m', hm, τ2, μ2, (f.trans f1).trans f2, c2, s2, w'⟩, fun d' μ2 v H2 f2 => k.rt d' μ2 v H2 ((f.trans f1).trans f2), fun τ2 μ2 σ2 H2 f2 c2 s2 q => k.nx τ2 μ2 σ2 H2 ((f.trans f1).trans f2) c2 s2 q, fun τ2 μ2 σ2 H2 f2 c2 s2 ⟨m', hm, w'⟩ => ⟨m', hm, τ2, μ2, (f.trans f1).trans f2, c2, s2, w'⟩, fun x1 x2 x3 x4 x5 x6 x7 x8 f' => k.wx x1 x2 x3 x4 x5 x6 x7 x8 ((f.trans f1).trans f')⟩
      | false => exact k.nx τ' μ1 σ' H1 (f.trans f1) c1 (s'.mono (f1.tx c')) (show N.nx τ' μ1 from p)⟩
/-- the ends of a turn -/
def turnE (N : AEnds) (P : T → M → Prop) : AEnds := { N with nx := P, ct := P, bk := N.nx }
theorem turn_ok {μ0 : M} {H0 : Hp} {P : T → M → Prop} {Pc : L2.St → Hp → Prop} (k : EndsOk K N μ0 H0 E) (f : Fr μ0 μ H0 H) (hp : ∀ τ' μ' σ' H', Fr μ0 μ' H0 H' → Con K H' μ' → Slots K H' τ' σ' → P τ' μ' → Pc σ' H') :
    EndsOk K (turnE N P) μ H { E with nx := Pc, ct := Pc, bk := E.nx } :=
  ⟨fun τ' μ' σ' H' f' c s p => hp τ' μ' σ' H' (f.trans f') c s p, fun d' μ' v H' f' => k.rt d' μ' v H' (f.trans f'), fun τ' μ' σ' H' f' => k.nx τ' μ' σ' H' (f.trans f'), fun τ' μ' σ' H' f' c s p => hp τ' μ' σ' H' (f.trans f') c s p, fun x1 x2 x3 x4 x5 x6 x7 x8 f' => k.wx x1 x2 x3 x4 x5 x6 x7 x8 (f.trans f')⟩
/-- for over a tuple -/
theorem s_forT {tl : TE} {tb : TS} (h : AE K tl τ μ fun d μ1 => ∃ (P : Nat → T → M → Prop) (ds : List D), d = .tup ds ∧ P 0 τ μ1 ∧
      (∀ (i : Nat) x τ' μ', ds[i]? = some x → P i τ' μ' → AG K g x τ' μ' fun τ2 μ2 => AS K tb τ2 μ2 (turnE N (P (i + 1)))) ∧ ∀ τ' μ', P ds.length τ' μ' → N.nx τ' μ') : AS K (tFor (iTup K tl) g tb) τ μ N := fun σ H s c E k =>
  h σ H s c _ fun d μ1 v H1 f1 c1 r1 ⟨P, ds, e, p0, hs, hd⟩ => by
    subst e
    cases r1 with
    | @tup a xs _ ha hr =>
      refine ⟨a, rfl, ⟨xs, ha.sq⟩, for_tup (K := K) (a := a) (xs := xs) (fun i σ' H' => ∃ τ' μ', Fr μ μ' H H' ∧ Tx H1 H' ∧ Con K H' μ' ∧ Slots K H' τ' σ' ∧ P i τ' μ') ⟨τ, μ1, f1, Tx.refl, c1, s.mono (f1.tx c), p0⟩
        (fun i σ' H' _ ⟨τ', μ', f, tx, _⟩ => (ha.mono tx).sq) ?_ ?_⟩
      · rintro i x σ' H' hx ⟨τ', μ', f, tx, c', s', p⟩
        obtain ⟨d, hd', rx⟩ := hr.getV hx
        refine hs i d τ' μ' hd' p σ' H' x s' c' (Rel.mono tx _ _ rx) _ fun τ2 μ2 σ2 H2 f2 c2 s2 q => ?_
        exact q σ2 H2 s2 c2 _ (turn_ok (k.step f) f2 fun τ3 μ3 σ3 H3 f3 c3 s3 p3 => ⟨τ3, μ3, f.trans f3, tx.trans (f3.tx c'), c3, s3, p3⟩)
      · rintro σ' H' ⟨τ', μ', f, tx, c', s', p⟩
        rw [hr.length] at p
        exact k.nx τ' μ' σ' H' f c' s' (hd τ' μ' p)
/-- the list a is set aside while it is walked -/
def M.del (μ : M) (a : Addr) : M := fun b => if b = a then none else μ b
theorem del_same {a : Addr} : μ.del a a = none := by unfold M.del; rw [if_pos rfl]
theorem del_ne {a b : Addr} (h : b ≠ a) : μ.del a b = μ b := by unfold M.del; rw [if_neg h]
theorem del_sub {a : Addr} : Sub (μ.del a) μ := fun b m e => by
  by_cases h : b = a
  · subst h; rw [del_same] at e; cases e
  · rw [del_ne h] at e; exact e
theorem del_set {a : Addr} {m : MO} (h : μ a = some m) : (μ.del a).set a m = μ := by
  funext b
  by_cases hb : b = a
  · subst hb; rw [set_same, h]
  · rw [set_ne hb, del_ne hb]
theorem fr_back {μ0 μ' : M} {H0 H' : Hp} {a : Addr} {m m' : MO} (ha : μ1 a = some m) (f1 : Fr μ0 μ1 H0 H1) (f : Fr (μ1.del a) μ' H1 H') : Fr μ0 (μ'.set a m') H0 H' := fun x o n e => by
  obtain ⟨e1, n1⟩ := f1 x o n e
  have hx : x ≠ a := fun z => by subst z; rw [n1] at ha; cases ha
  obtain ⟨e2, n2⟩ := f x o (by rw [del_ne hx]; exact n1) e1
  exact ⟨e2, by rw [set_ne hx]; exact n2⟩
theorem con_back {μ' : M} {a : Addr} {m : MO} (c : Con K H μ') (r : MRel K H a m) : Con K H (μ'.set a m) := fun x u e => by
  by_cases hx : x = a
  · subst hx; rw [set_same] at e; cases e; exact r
  · rw [set_ne hx] at e; exact c x u e
/-- for over a range -/
theorem s_forN {wi : TI} {lo : Int} {n : Nat} {tb : TS} (P : Nat → T → M → Prop) (hw : ∀ σ H, Slots K H τ σ → Con K H μ → ∀ R : It → Hp → Prop, (∀ μ1 H1, Fr μ μ1 H H1 → Con K H1 μ1 → P 0 τ μ1 → R (Itr lo n) H1) → wi σ H R)
    (hs : ∀ (i : Nat) τ' μ', i < n → P i τ' μ' → AG K g (.int (lo + i)) τ' μ' fun τ2 μ2 => AS K tb τ2 μ2 (turnE N (P (i + 1)))) (hd : ∀ τ' μ', P n τ' μ' → N.nx τ' μ') : AS K (tFor wi g tb) τ μ N := fun σ H s c E k =>
  hw σ H s c _ fun μ1 H1 f1 c1 p0 => by
    refine for_range (lo := lo) (n := n) (fun i σ' H' => ∃ τ' μ', Fr μ μ' H H' ∧ Con K H' μ' ∧ Slots K H' τ' σ' ∧ P i τ' μ') ⟨τ, μ1, f1, c1, s.mono (f1.tx c), p0⟩ ?_ ?_
    · rintro i σ' H' hi ⟨τ', μ', f, c', s', p⟩
      refine hs i τ' μ' hi p σ' H' _ s' c' (.int _) _ fun τ2 μ2 σ2 H2 f2 c2 s2 q => ?_
      exact q σ2 H2 s2 c2 _ (turn_ok (k.step f) f2 fun τ3 μ3 σ3 H3 f3 c3 s3 p3 => ⟨τ3, μ3, f.trans f3, c3, s3, p3⟩)
    · rintro σ' H' ⟨τ', μ', f, c', s', p⟩
      exact k.nx τ' μ' σ' H' f c' s' (hd τ' μ' p)
theorem s_for1 {ta : TA} {tb : TS} (n : Int) (P : Nat → T → M → Prop) (h : AA K ta τ μ fun ds μ1 => ds = [.int n] ∧ -(2 ^ 62) ≤ n ∧ n < 2 ^ 62 ∧ P 0 τ μ1)
    (hs : ∀ (i : Nat) τ' μ', (i : Int) < n → P i τ' μ' → AG K g (.int i) τ' μ' fun τ2 μ2 => AS K tb τ2 μ2 (turnE N (P (i + 1)))) (hd : ∀ τ' μ', P n.toNat τ' μ' → N.nx τ' μ') : AS K (tFor (iRng1 ta) g tb) τ μ N := by
  refine s_forN (lo := 0) (n := n.toNat) P (fun σ H s c R k => h σ H s c _ fun ds μ1 vs H1 f1 c1 r1 ⟨e, h1, h2, p⟩ => ?_) (fun i τ' μ' hi p => ?_) hd
  · subst e
    cases r1 with
    | cons r rr =>
      cases r
      cases rr
      exact ⟨n, rfl, h1, h2, k μ1 H1 f1 c1 p⟩
  · rw [Int.zero_add]
    exact hs i τ' μ' (by omega) p
end
end Z
namespace Z
open PySem L2
def seqD (μ : M) : D → Option (List D)
  | .tup ds => some ds
  | .rol ds => some ds
  | .ref a => match μ a with
    | some (.lst ds) => some ds
    | _ => none
  | _ => none
section
variable {K : PySem.W.Frag} {τ : T} {μ μ1 μ2 : M} {H H1 H2 : Hp} {σ : L2.St} {Φ Ψ : D → M → Prop} {ta tb tc te : TE} {r r' : R2} {t u : TT} {x y z d e : D} {N : AEnds} {ts us : TS}
theorem seq_of {v : V} {ds : List D} (c : Con K H μ) (r : Rel K H v d) (h : seqD μ d = some ds) : ∃ a xs, v = .ref a ∧ (SqL K H a xs ∨ SqT K H a xs) ∧ Rels K H xs ds := by
  cases r with
  | tup ht hr => cases h; exact ⟨_, _, rfl, .inr ht.sq, hr⟩
  | rol ht hr => cases h; exact ⟨_, _, rfl, .inl ht.sq, hr⟩
  | ref a =>
    unfold seqD at h
    simp only at h
    split at h
    · rename_i ds' e
      cases h
      obtain ⟨xs, h1, h2⟩ := c _ _ e
      exact ⟨_, xs, rfl, .inl (SqL.of h1), h2⟩
    · cases h
  | non => cases h
  | bl => cases h
  | int => cases h
  | str => cases h
  | ty => cases h
theorem ro_i {f : Int → Int → Int} {i j : Int} (q : Φ (.int (f i j)) μ) : RO K (rI0 fun i j => V.int (f i j)) (.int i) (.int j) μ Φ := fun H x y c r1 r2 Q k => by
  cases r1; cases r2
  exact ⟨i, j, rfl, rfl, k _ μ _ H Fr.refl c (.int _) q⟩
theorem ro_b {f : Int → Int → Bool} {i j : Int} (q : Φ (.bl (f i j)) μ) : RO K (rI0 fun i j => V.bl (f i j)) (.int i) (.int j) μ Φ := fun H x y c r1 r2 Q k => by
  cases r1; cases r2
  exact ⟨i, j, rfl, rfl, k _ μ _ H Fr.refl c (.bl _) q⟩
theorem ro_c {C : Int → Int → Prop} {f : Int → Int → Int} {i j : Int} (hc : C i j) (q : Φ (.int (f i j)) μ) : RO K (rI C fun i j => V.int (f i j)) (.int i) (.int j) μ Φ := fun H x y c r1 r2 Q k => by
  cases r1; cases r2
  exact ⟨i, j, rfl, rfl, hc, k _ μ _ H Fr.refl c (.int _) q⟩
theorem ru_i {f : Int → Int} {i : Int} (q : Φ (.int (f i)) μ) : RU K (rU fun i => V.int (f i)) (.int i) μ Φ := fun H x c r1 Q k => by
  cases r1
  exact ⟨i, rfl, k _ μ _ H Fr.refl c (.int _) q⟩
theorem at_len {xs : List V} {ds : List D} {i : Int} {d : D} (r : Rels K H xs ds) (h : atI ds i = some d) : ∃ v, atI xs i = some v ∧ Rel K H v d := by
  unfold atI at h ⊢
  rw [r.length]
  cases e : ixN ds.length i with
  | none => rw [e] at h; cases h
  | some j =>
    rw [e] at h
    exact r.get h
theorem ro_ix {ds : List D} {i : Int} (hs : seqD μ d = some ds) (hi : atI ds i = some e) (q : Φ e μ) : RO K (rIx K) d (.int i) μ Φ := fun H x y c r1 r2 Q k => by
  cases r2
  obtain ⟨a, xs, rfl, hq, hr⟩ := seq_of c r1 hs
  obtain ⟨v, hv, rv⟩ := at_len hr hi
  rcases hq with hq | hq
  · exact .inl ⟨a, xs, i, v, rfl, rfl, hq, hv, k e μ v H Fr.refl c rv q⟩
  · exact .inr (.inl ⟨a, xs, i, v, rfl, rfl, hq, hv, k e μ v H Fr.refl c rv q⟩)
theorem set_lst {a : Addr} {ds : List D} {i : Int} {j : Nat} {Θ : M → Prop} (h : μ a = some (.lst ds)) (hi : ixN ds.length i = some j) (q : Θ (μ.set a (.lst (ds.set j d)))) : ASet K rSetL (.ref a) (.int i) d μ Θ := fun H x y v c r1 r2 r3 Q k => by
  cases r1; cases r2
  obtain ⟨xs, hx, hr⟩ := c a _ h
  exact ⟨a, xs, i, j, rfl, rfl, hx, by rw [hr.length]; exact hi, k _ _ (fr_mut h) (con_mut (m' := .lst (ds.set j d)) c h ⟨_, upd_same, Rels.mono (tx_mut c h) _ _ (Rels.set r3 j hr)⟩) q⟩
mutual
def D.py : D → PyData
  | .bl b => .bool b
  | .int i => .int i
  | .str s => .str s
  | .tup ds => .tuple (D.pys ds)
  | _ => .none
def D.pys : List D → List PyData
  | [] => []
  | d :: ds => D.py d :: D.pys ds
end
mutual
/-- None, truths, ints, texts and tuples of them -/
def D.plain : D → Bool
  | .non => true
  | .bl _ => true
  | .int _ => true
  | .str _ => true
  | .tup ds => D.plains ds
  | _ => false
def D.plains : List D → Bool
  | [] => true
  | d :: ds => D.plain d && D.plains ds
end
mutual
theorem Rel.dp : ∀ (d : D) (v : V), Rel K H v d → D.plain d = true → Dp K H v (D.py d)
  | .non, _, .non, _ => by simp only [D.py]; exact .non
  | .bl _, _, .bl b, _ => by simp only [D.py]; exact .bl b
  | .int _, _, .int b, _ => by simp only [D.py]; exact .int b
  | .str _, _, .str b, _ => by simp only [D.py]; exact .str b
  | .tup ds, _, .tup h r, p => by simp only [D.py]; exact .tup h.sq (Rels.dp ds _ r (by simpa only [D.plain] using p))
  | .ty _, _, _, p => by simp [D.plain] at p
  | .ref _, _, _, p => by simp [D.plain] at p
  | .rol _, _, _, p => by simp [D.plain] at p
theorem Rels.dp : ∀ (ds : List D) (vs : List V), Rels K H vs ds → D.plains ds = true → DpAll K H vs (D.pys ds)
  | [], _, .nil, _ => by simp only [D.pys]; exact .nil
  | d :: ds, _, .cons a b, p => by
    simp only [D.plains, Bool.and_eq_true] at p
    simp only [D.pys]
    exact .cons (Rel.dp d _ a p.1) (Rels.dp ds _ b p.2)
end
/-- plain and not too deep -/
def D.ok (d : D) : Bool := D.plain d && SeqAt.shaped (D.py d)
def D.eqv (d e : D) : Bool := PyData.eqv (D.py d) (D.py e)
theorem ro_eqD (h1 : D.ok d = true) (h2 : D.ok e = true) (q : Φ (.bl (D.eqv d e)) μ) : RO K (rEqD K) d e μ Φ := fun H x y c r1 r2 Q k => by
  unfold D.ok at h1 h2
  rw [Bool.and_eq_true] at h1 h2
  exact ⟨_, _, Rel.dp _ _ r1 h1.1, Rel.dp _ _ r2 h2.1, h1.2, h2.2, k _ μ _ H Fr.refl c (.bl _) q⟩
theorem ro_neD (h1 : D.ok d = true) (h2 : D.ok e = true) (q : Φ (.bl (!D.eqv d e)) μ) : RO K (rNeD K) d e μ Φ := fun H x y c r1 r2 Q k => by
  unfold D.ok at h1 h2
  rw [Bool.and_eq_true] at h1 h2
  exact ⟨_, _, Rel.dp _ _ r1 h1.1, Rel.dp _ _ r2 h2.1, h1.2, h2.2, k _ μ _ H Fr.refl c (.bl _) q⟩
theorem ro_eqI {i j : Int} (q : Φ (.bl (decide (i = j))) μ) : RO K rEq (.int i) (.int j) μ Φ := fun H x y c r1 r2 Q k => by
  cases r1; cases r2
  refine ⟨rfl, ?_⟩
  have e : decide (V.int i = V.int j) = decide (i = j) := by simp
  rw [e]
  exact k _ μ _ H Fr.refl c (.bl _) q
theorem ro_neI {i j : Int} (q : Φ (.bl (!decide (i = j))) μ) : RO K rNe (.int i) (.int j) μ Φ := fun H x y c r1 r2 Q k => by
  cases r1; cases r2
  refine ⟨rfl, ?_⟩
  have e : decide (V.int i = V.int j) = decide (i = j) := by simp
  rw [e]
  exact k _ μ _ H Fr.refl c (.bl _) q
theorem ro_eqB {i j : Bool} (q : Φ (.bl (decide (i = j))) μ) : RO K rEq (.bl i) (.bl j) μ Φ := fun H x y c r1 r2 Q k => by
  cases r1; cases r2
  refine ⟨rfl, ?_⟩
  have e : decide (V.bl i = V.bl j) = decide (i = j) := by simp
  rw [e]
  exact k _ μ _ H Fr.refl c (.bl _) q
theorem ro_neB {i j : Bool} (q : Φ (.bl (!decide (i = j))) μ) : RO K rNe (.bl i) (.bl j) μ Φ := fun H x y c r1 r2 Q k => by
  cases r1; cases r2
  refine ⟨rfl, ?_⟩
  have e : decide (V.bl i = V.bl j) = decide (i = j) := by simp
  rw [e]
  exact k _ μ _ H Fr.refl c (.bl _) q
theorem rc_abs {i : Int} (q : Φ (.int (if i < 0 then -i else i)) μ) : RC K (fun xs H Q => ∃ i, xs = [V.int i] ∧ Q (.int (if i < 0 then -i else i)) H) [.int i] μ Φ := fun H xs c r1 Q k => by
  cases r1 with
  | cons a b => cases a; cases b; exact ⟨i, rfl, k _ μ _ H Fr.refl c (.int _) q⟩
theorem rc_max {i j : Int} (q : Φ (.int (if j > i then j else i)) μ) : RC K (fun xs H Q => ∃ i j, xs = [V.int i, V.int j] ∧ Q (.int (if j > i then j else i)) H) [.int i, .int j] μ Φ := fun H xs c r1 Q k => by
  cases r1 with
  | cons a b => cases a; cases b with
    | cons a b => cases a; cases b; exact ⟨i, j, rfl, k _ μ _ H Fr.refl c (.int _) q⟩
theorem rc_min {i j : Int} (q : Φ (.int (if j < i then j else i)) μ) : RC K (fun xs H Q => ∃ i j, xs = [V.int i, V.int j] ∧ Q (.int (if j < i then j else i)) H) [.int i, .int j] μ Φ := fun H xs c r1 Q k => by
  cases r1 with
  | cons a b => cases a; cases b with
    | cons a b => cases a; cases b; exact ⟨i, j, rfl, k _ μ _ H Fr.refl c (.int _) q⟩
theorem rc_intB {b : Bool} (q : Φ (.int (if b then 1 else 0)) μ) : RC K (fun xs H Q => (∃ i, xs = [V.int i] ∧ Q (.int i) H) ∨ ∃ k, xs = [V.bl k] ∧ Q (.int (if k then 1 else 0)) H) [.bl b] μ Φ := fun H xs c r1 Q k => by
  cases r1 with
  | cons a b => cases a; cases b; exact .inr ⟨_, rfl, k _ μ _ H Fr.refl c (.int _) q⟩
theorem rc_intI {b : Int} (q : Φ (.int b) μ) : RC K (fun xs H Q => (∃ i, xs = [V.int i] ∧ Q (.int i) H) ∨ ∃ k, xs = [V.bl k] ∧ Q (.int (if k then 1 else 0)) H) [.int b] μ Φ := fun H xs c r1 Q k => by
  cases r1 with
  | cons a b => cases a; cases b; exact .inl ⟨_, rfl, k _ μ _ H Fr.refl c (.int _) q⟩
theorem rc_len {ds : List D} (h : seqD μ d = some ds) (q : Φ (.int ds.length) μ) : RC K (fun xs H Q => ∃ x n, xs = [x] ∧ LenV K x H n ∧ Q (.int n) H) [d] μ Φ := fun H xs c r1 Q k => by
  cases r1 with
  | cons a b =>
    cases b
    obtain ⟨p, xs, rfl, hq, hr⟩ := seq_of c a h
    refine ⟨_, ds.length, rfl, ?_, k _ μ _ H Fr.refl c (.int _) q⟩
    rcases hq with hq | hq
    · exact .inl ⟨xs, hq, hr.length.symm⟩
    · exact .inr ⟨xs, hq, hr.length.symm⟩
theorem rc_tuple {ds : List D} (h : seqD μ d = some ds) (q : Φ (.tup ds) μ) : RC K (fun xs H Q => ∃ p ys, xs = [V.ref p] ∧ ((SqL K H p ys ∧ ∀ l, H l = none → Q (.ref l) (upd H l (.tup ys))) ∨ (SqT K H p ys ∧ Q (.ref p) H))) [d] μ Φ := fun H xs c r1 Q k => by
  cases r1 with
  | cons a b =>
    cases b
    cases a with
    | tup ht hr =>
      cases h
      exact ⟨_, _, rfl, .inr ⟨ht.sq, k _ μ _ H Fr.refl c (.tup ht hr) q⟩⟩
    | rol ht hr =>
      cases h
      exact ⟨_, _, rfl, .inl ⟨ht.sq, fun l hl => k _ μ _ _ (fr_new hl) (con_new hl c) (.tup (.inl upd_same) (Rels.mono (tx_new hl) _ _ hr)) q⟩⟩
    | ref p =>
      unfold seqD at h
      simp only at h
      split at h
      · rename_i ds' e
        cases h
        obtain ⟨xs, hx, hr⟩ := c _ _ e
        exact ⟨_, xs, rfl, .inl ⟨SqL.of hx, fun l hl => k _ μ _ _ (fr_new hl) (con_new hl c) (.tup (.inl upd_same) (Rels.mono (tx_new hl) _ _ hr)) q⟩⟩
      · cases h
    | non => cases h
    | bl => cases h
    | int => cases h
    | str => cases h
    | ty => cases h
theorem rels_bl : ∀ {xs : List V} {bs : List Bool}, Rels K H xs (bs.map D.bl) → xs = bs.map V.bl
  | [], [], .nil => rfl
  | _ :: _, _ :: _, .cons a b => by cases a; rw [rels_bl b]; rfl
theorem rc_all {a : Addr} {bs : List Bool} (h : μ a = some (.lst (bs.map D.bl))) (q : Φ (.bl (bs.all id)) μ) : RC K (rAll K) [.ref a] μ Φ := fun H xs c r1 Q k => by
  cases r1 with
  | cons r b =>
    cases r; cases b
    obtain ⟨xs, hx, hr⟩ := c _ _ h
    have e := rels_bl hr
    subst e
    exact ⟨a, bs, rfl, SqL.of hx, k _ μ _ H Fr.refl c (.bl _) q⟩
theorem rc_any {a : Addr} {bs : List Bool} (h : μ a = some (.lst (bs.map D.bl))) (q : Φ (.bl (bs.any id)) μ) : RC K (rAny K) [.ref a] μ Φ := fun H xs c r1 Q k => by
  cases r1 with
  | cons r b =>
    cases r; cases b
    obtain ⟨xs, hx, hr⟩ := c _ _ h
    have e := rels_bl hr
    subst e
    exact ⟨a, bs, rfl, SqL.of hx, k _ μ _ H Fr.refl c (.bl _) q⟩
theorem m_append {to : TE} {a : Addr} {ds : List D} (h : AE K to τ μ fun o μ1 => o = .ref a ∧ (∃ es, μ1 a = some (.lst es)) ∧ AE K te τ μ1 fun d μ2 => μ2 a = some (.lst ds) ∧ ds.length < sizeLine ∧ Φ .non (μ2.set a (.lst (ds ++ [d])))) :
    AE K (tBM K "list" rAppend to (tCons te tNil)) τ μ Φ := fun σ H s c Q k =>
  h σ H s c _ fun o μ1 v H1 f1 c1 r1 ⟨e, ⟨es, he⟩, p1⟩ => by
    subst e
    cases r1
    obtain ⟨xs, hx, hr⟩ := c1 a _ he
    refine ⟨.inl ⟨rfl, xs, SqL.of hx⟩, p1 σ H1 (s.mono (f1.tx c)) c1 _ fun d μ2 u H2 f2 c2 r2 ⟨h2, hz, q⟩ => ?_⟩
    obtain ⟨ys, hy, hr2⟩ := c2 a _ h2
    exact ⟨a, ys, u, rfl, rfl, hy, by rw [hr2.length]; exact hz, k _ _ _ _ ((f1.trans f2).trans (fr_mut h2)) (con_mut (m' := .lst (ds ++ [d])) c2 h2 ⟨_, upd_same, Rels.mono (tx_mut c2 h2) _ _ (hr2.append (.cons r2 .nil))⟩) .non q⟩
end
end Z
namespace Z
open PySem L2
/-- a promise by what it asks and gives over the store: P args store wish -/
abbrev PT3 := List D → M → (D → M → Prop) → Prop
def spI (K : PySem.W.Frag) (P : PT3) : Sp := fun vs H Q _ => ∃ ds μ Φ, Rels K H vs ds ∧ Z.Con K H μ ∧ P ds μ Φ ∧ ∀ d μ' v H', Fr μ μ' H H' → Z.Con K H' μ' → Rel K H' v d → Φ d μ' → Q v H'
def startD (n : Nat) (ds : List D) : T := ds.map some ++ List.replicate (n - ds.length) none
section
variable {K : PySem.W.Frag} {τ : T} {μ μ1 μ2 : M} {H H1 H2 : Hp} {σ : L2.St} {Φ Ψ : D → M → Prop} {ta tb tc te : TE} {r r' : R2} {t u : TT} {x y z d e : D} {N : AEnds} {ts us : TS} {P : PT3} {E : XK}
theorem slots_start {Ns : List Str} : ∀ {vs : List V} {ds : List D}, Rels K H vs ds → Slots K H (startD Ns.length ds) (L2.start Ns vs) := by
  intro vs ds r
  have hl := r.length
  refine ⟨by unfold startD L2.start; simp only [List.length_append, List.length_map, List.length_replicate]; omega, fun i d e => ?_⟩
  unfold startD at e
  by_cases hi : i < ds.length
  · rw [List.getElem?_append_left (by rw [List.length_map]; exact hi), List.getElem?_map] at e
    cases q : ds[i]? with
    | none => rw [q] at e; cases e
    | some d' =>
      rw [q] at e
      have e2 : d' = d := Option.some.inj (Option.some.inj e)
      subst e2
      obtain ⟨v, h1, h2⟩ := r.get q
      refine ⟨v, ?_, h2⟩
      unfold L2.start
      rw [List.getElem?_append_left (by rw [List.length_map]; omega), List.getElem?_map, h1]
      rfl
  · rw [List.getElem?_append_right (by rw [List.length_map]; omega), List.getElem?_replicate] at e
    split at e <;> cases e
theorem spI_len {vs : List V} {Q : VK} {n : Nat} (h : spI K P vs H Q E) (hn : ∀ ds μ Φ, P ds μ Φ → ds.length = n) : vs.length = n := by
  obtain ⟨ds, μ, Φ, r, _, p, _⟩ := h
  rw [r.length]; exact hn _ _ _ p
/-- a body keeps its promise -/
theorem body_ok {Ns : List Str} {vs : List V} {Q : VK} (h : spI K P vs H Q E) (hb : ∀ ds μ Φ, P ds μ Φ → AS K ts (startD Ns.length ds) μ { nx := fun _ μ' => Φ .non μ', rt := Φ }) :
    ts { nx := fun _ H' => Q .non H', rt := Q } (L2.start Ns vs) H := by
  obtain ⟨ds, μ, Φ, r, c, p, k⟩ := h
  exact hb ds μ Φ p _ H (slots_start r) c _ ⟨fun _ μ' _ H' f c' _ q => k .non μ' .non H' f c' .non q, fun d μ' v H' f c' r' q => k d μ' v H' f c' r' q, fun _ _ _ _ _ _ _ q => q.elim, fun _ _ _ _ _ _ _ q => q.elim, fun _ _ _ _ _ _ _ _ _ _ _ q => q.elim⟩
/-- a call -/
theorem a_call {ta : TA} (h : AA K ta τ μ fun ds μ1 => P ds μ1 Φ) : AE K (tCall (spI K P) [] E ta) τ μ Φ := fun σ H s c Q k =>
  h σ H s c _ fun ds μ1 vs H1 f1 c1 r1 p => by
    show spI K P (vs ++ []) H1 Q E
    rw [List.append_nil]
    exact ⟨ds, μ1, Φ, r1, c1, p, fun d μ' v H' f c' r q => k d μ' v H' (f1.trans f) c' r q⟩
/-- a field -/
theorem look_rel {f : Str} : ∀ {vs : List (Str × V)} {fs : List (Str × D)}, RelKV K H vs fs → fs.lookup f = some d → ∃ v, vs.lookup f = some v ∧ Rel K H v d := by
  intro vs fs r
  induction r with
  | nil => intro h; cases h
  | cons a _ ih =>
    rename_i p q ps qs _
    obtain ⟨e1, e2⟩ := a
    intro h
    rw [List.lookup_cons] at h ⊢
    rw [e1]
    split at h
    · rename_i hb
      cases h
      exact ⟨_, by simp [hb], e2⟩
    · rename_i hb
      obtain ⟨v, h1, h2⟩ := ih h
      exact ⟨v, by simp [hb, h1], h2⟩
theorem a_fld {f : Str} (h : AE K te τ μ fun o μ1 => ∃ a C dx fs, o = .ref a ∧ μ1 a = some (.ins C dx fs) ∧ Cls K C ∧ NoAttr K C f ∧ ∃ d, fs.lookup f = some d ∧ Φ d μ1) : AE K (tFld K te f) τ μ Φ := fun σ H s c Q k =>
  h σ H s c _ fun o μ1 v H1 f1 c1 r1 ⟨a, C, dx, fs, e, ha, hc, hn, d, hl, q⟩ => by
    subst e
    cases r1
    obtain ⟨vs, hv, hr⟩ := c1 a _ ha
    obtain ⟨w, hw, rw'⟩ := look_rel hr hl
    exact ⟨a, C, dx, vs, w, rfl, hv, hc, hn, hw, k d μ1 w H1 f1 c1 rw' q⟩
/-- o.f = e -/
def putD (f : Str) (d : D) : List (Str × D) → List (Str × D)
  | [] => [(f, d)]
  | (g, x) :: r => if g = f then (g, d) :: r else (g, x) :: putD f d r
theorem put_rel {f : Str} {v : V} (r : Rel K H v d) : ∀ {vs : List (Str × V)} {fs : List (Str × D)}, RelKV K H vs fs → RelKV K H (putF f v vs) (putD f d fs)
  | _, _, .nil => .cons ⟨rfl, r⟩ .nil
  | (g, x) :: vs, (g', y) :: fs, .cons a b => by
    obtain ⟨e1, e2⟩ := a
    have e1 : g = g' := e1
    subst e1
    unfold putF putD
    by_cases hg : g = f
    · rw [if_pos hg, if_pos hg]; exact .cons ⟨rfl, r⟩ b
    · rw [if_neg hg, if_neg hg]; exact .cons ⟨rfl, e2⟩ (put_rel r b)
theorem s_fld {f : Str} (h : AE K tb τ μ fun d μ1 => AE K te τ μ1 fun o μ2 => ∃ a C dx fs, o = .ref a ∧ μ2 a = some (.ins C dx fs) ∧ Cls K C ∧ NoAttr K C f ∧ fs.length < 1000 ∧ N.nx τ (μ2.set a (.ins C dx (putD f d fs)))) :
    AS K (sFld K te tb f) τ μ N := fun σ H s c E k =>
  h σ H s c _ fun d μ1 v H1 f1 c1 r1 p1 => p1 σ H1 (s.mono (f1.tx c)) c1 _ fun o μ2 w H2 f2 c2 r2 ⟨a, C, dx, fs, e, ha, hc, hn, hz, q⟩ => by
    subst e
    cases r2
    obtain ⟨vs, hv, hr⟩ := c2 a _ ha
    refine ⟨a, C, dx, vs, rfl, hv, hc, hn, ?_, ?_⟩
    · have len : ∀ {vs : List (Str × V)} {fs : List (Str × D)}, RelKV K H2 vs fs → vs.length = fs.length := by
        intro vs fs r
        induction r with
        | nil => rfl
        | cons _ _ ih => rw [List.length_cons, List.length_cons, ih]
      rw [len hr]; exact hz
    · have fr := fr_mut (H := H2) (o := .ins C dx (putF f v vs)) (m' := .ins C dx (putD f d fs)) ha
      exact k.nx τ _ σ _ ((f1.trans f2).trans fr) (con_mut c2 ha ⟨_, upd_same, put_rel (Rel.mono ((f2.trans fr).tx c1) _ _ r1) (RelKV.mono (tx_mut c2 ha) hr)⟩) (s.mono (((f1.trans f2).trans fr).tx c)) q
end
end Z
namespace Z
open PySem L2
def sets {α : Type} : List (Option α) → List Nat → List α → List (Option α)
  | l, j :: js, d :: ds => sets (l.set j (some d)) js ds
  | l, _, _ => l
theorem wipe_at (σ : L2.St) (i : Nat) : ∀ vs : List Nat, (wipe σ vs)[i]? = if i ∈ vs then (σ[i]?).map fun _ => none else σ[i]?
  | [] => by simp [wipe]
  | v :: vs => by
    have ih := wipe_at σ i vs
    unfold wipe
    by_cases h : v = i
    · subst h
      rw [if_pos (List.mem_cons_self)]
      by_cases hl : v < (wipe σ vs).length
      · rw [List.getElem?_set_self hl]
        rw [wipe_length] at hl
        rw [List.getElem?_eq_getElem hl]
        rfl
      · rw [List.getElem?_eq_none (by rw [List.length_set]; omega)]
        rw [wipe_length] at hl
        rw [List.getElem?_eq_none (by omega)]
        rfl
    · rw [List.getElem?_set_ne h, ih]
      have e : (i ∈ v :: vs) = (i ∈ vs) := by
        rw [List.mem_cons]
        exact propext ⟨fun q => q.elim (fun z => absurd z.symm h) id, .inr⟩
      simp only [e]
theorem wipe_set {σ : L2.St} {j : Nat} {x : Option V} {vs : List Nat} (h : j ∈ vs) : wipe (σ.set j x) vs = wipe σ vs := by
  apply List.ext_getElem?
  intro i
  rw [wipe_at, wipe_at]
  by_cases hi : i ∈ vs
  · rw [if_pos hi, if_pos hi]
    by_cases e : j = i
    · subst e
      by_cases hl : j < σ.length
      · rw [List.getElem?_set_self hl, List.getElem?_eq_getElem hl]; rfl
      · rw [List.getElem?_eq_none (by rw [List.length_set]; omega), List.getElem?_eq_none (by omega)]
    · rw [List.getElem?_set_ne e]
  · rw [if_neg hi, if_neg hi, List.getElem?_set_ne (fun z => hi (by rw [← z]; exact h))]
theorem wipe_wipe {σ : L2.St} {vs : List Nat} : wipe (wipe σ vs) vs = wipe σ vs := by
  apply List.ext_getElem?
  intro i
  rw [wipe_at]
  by_cases hi : i ∈ vs
  · rw [if_pos hi, wipe_at, if_pos hi]
    cases σ[i]? <;> rfl
  · rw [if_neg hi]
theorem wipe_sets {vs : List Nat} : ∀ {σ : L2.St} {js : List Nat} {xs : List V}, (∀ j ∈ js, j ∈ vs) → wipe (sets σ js xs) vs = wipe σ vs
  | σ, [], xs, _ => by unfold sets; rfl
  | σ, j :: js, [], _ => by unfold sets; rfl
  | σ, j :: js, x :: xs, h => by
    unfold sets
    rw [wipe_sets (fun k hk => h k (List.mem_cons_of_mem _ hk)), wipe_set (h j List.mem_cons_self)]
section
variable {K : PySem.W.Frag} {τ : T} {μ μ1 μ2 : M} {H H1 H2 H' : Hp} {σ : L2.St} {Φ Ψ : D → M → Prop} {ta tb tc te : TE} {r r' : R2} {tt : TT} {x y z d e : D} {N : AEnds} {ts us : TS}
theorem slots_sets : ∀ {js : List Nat} {ds : List D} {vs : List V} {τ : T} {σ : L2.St}, Rels K H vs ds → Slots K H τ σ → Slots K H (sets τ js ds) (sets σ js vs)
  | [], _, _, _, _, _, s => by unfold sets; exact s
  | j :: js, _, _, _, _, .nil, s => by unfold sets; exact s
  | j :: js, _, _, _, _, .cons a b, s => by unfold sets; exact slots_sets b (s.set a j)
/-- the slots of a block: all of vs are stored by the target -/
theorem slots_block {js : List Nat} {ds : List D} {vs : List V} (s : Slots K H τ σ) (r : Rels K H vs ds) (hl : ds.length = js.length) : Slots K H (sets τ js ds) (sets (wipe σ js) js vs) := by
  -- a slot that js stores does not hang on what stood there
  have same : ∀ (js0 : List Nat) (js : List Nat) (vs : List V) (σ σ' : L2.St), σ.length = σ'.length → js.length = vs.length → (∀ i, i ∉ js → i ∉ js0 → σ[i]? = σ'[i]?) → (∀ i, i ∈ js0 → i ∉ js → σ[i]? = σ'[i]?) → sets σ js vs = sets σ' js vs := by
    intro js0 js
    induction js with
    | nil =>
      intro vs σ σ' hL _ h1 h2
      unfold sets
      apply List.ext_getElem?
      intro i
      by_cases hi : i ∈ js0
      · exact h2 i hi (by simp)
      · exact h1 i (by simp) hi
    | cons j js ih =>
      intro vs σ σ' hL hV h1 h2
      cases vs with
      | nil => simp at hV
      | cons v vs =>
        unfold sets
        refine ih vs _ _ (by simp [hL]) (by simpa using hV) (fun i hi hi0 => ?_) (fun i hi0 hi => ?_)
        · by_cases e : j = i
          · subst e
            by_cases hl : j < σ.length
            · rw [List.getElem?_set_self hl, List.getElem?_set_self (by omega)]
            · rw [List.getElem?_eq_none (by simp; omega), List.getElem?_eq_none (by simp; omega)]
          · rw [List.getElem?_set_ne e, List.getElem?_set_ne e]
            exact h1 i (by simp [hi]; exact fun z => e z.symm) hi0
        · by_cases e : j = i
          · subst e
            by_cases hl : j < σ.length
            · rw [List.getElem?_set_self hl, List.getElem?_set_self (by omega)]
            · rw [List.getElem?_eq_none (by simp; omega), List.getElem?_eq_none (by simp; omega)]
          · rw [List.getElem?_set_ne e, List.getElem?_set_ne e]
            exact h2 i hi0 (by simp [hi]; exact fun z => e z.symm)
  have e : sets (wipe σ js) js vs = sets σ js vs := by
    refine same [] js vs _ _ (by rw [wipe_length]) (by rw [r.length, hl]) (fun i hi _ => ?_) (fun i hi _ => by simp at hi)
    rw [wipe_at, if_neg hi]
  rw [e]
  exact slots_sets r s
/-- how a target takes an item apart -/
def TgOk (K : PySem.W.Frag) (g : TG) (js : List Nat) (dec : D → List D → Prop) : Prop :=
  ∀ d ds v σ H, dec d ds → Rel K H v d → ∀ Q : L2.St → Hp → Prop, (∀ vs, Rels K H vs ds → Q (sets σ js vs) H) → g v σ H Q
theorem tg_name {j : Nat} : TgOk K (gName j) [j] fun d ds => ds = [d] := fun d ds v σ H h r Q q => by
  subst h
  exact q [v] (.cons r .nil)
theorem tg_2 {i j : Nat} : TgOk K (gTup K 2 (gCons (gName i) (gCons (gName j) gNil))) [i, j] fun d ds => d = .tup ds ∧ ds.length = 2 := fun d ds v σ H h r Q q => by
  obtain ⟨e, hl⟩ := h
  subst e
  cases r with
  | @tup a xs _ ht hr =>
    have hx := hr.length
    match xs, hx.trans hl with
    | [x, y], _ => exact ⟨a, _, rfl, ht.sq, rfl, x, _, rfl, y, _, rfl, rfl, q _ hr⟩
theorem tg_3 {i j k : Nat} : TgOk K (gTup K 3 (gCons (gName i) (gCons (gName j) (gCons (gName k) gNil)))) [i, j, k] fun d ds => d = .tup ds ∧ ds.length = 3 := fun d ds v σ H h r Q q => by
  obtain ⟨e, hl⟩ := h
  subst e
  cases r with
  | @tup a xs _ ht hr =>
    have hx := hr.length
    match xs, hx.trans hl with
    | [x, y, z], _ => exact ⟨a, _, rfl, ht.sq, rfl, x, _, rfl, y, _, rfl, z, _, rfl, rfl, q _ hr⟩
theorem tg_4 {i j k l : Nat} : TgOk K (gTup K 4 (gCons (gName i) (gCons (gName j) (gCons (gName k) (gCons (gName l) gNil))))) [i, j, k, l] fun d ds => d = .tup ds ∧ ds.length = 4 := fun d ds v σ H h r Q q => by
  obtain ⟨e, hl⟩ := h
  subst e
  cases r with
  | @tup a xs _ ht hr =>
    have hx := hr.length
    match xs, hx.trans hl with
    | [x, y, z, w], _ => exact ⟨a, _, rfl, ht.sq, rfl, x, _, rfl, y, _, rfl, z, _, rfl, w, _, rfl, rfl, q _ hr⟩
/-- what a turn of a comprehension must show -/
def LcTurn (K : PySem.W.Frag) (τ : T) (tt : TT) (te : TE) (js : List Nat) (dec : D → List D → Prop) (x : D) (acc : List D) (μ : M) (P : List D → M → Prop) : Prop :=
  ∃ xs, dec x xs ∧ xs.length = js.length ∧ AT K tt (sets τ js xs) μ fun b μ1 => if b = true then AE K te (sets τ js xs) μ1 fun y μ2 => acc.length < sizeLine ∧ P (acc ++ [y]) μ2 else P acc μ1
/-- the list that is made is at Dl, outside of the store -/
structure LcAt (K : PySem.W.Frag) (Dl : Addr) (μ0 : M) (H0 : Hp) (acc : List D) (μ' : M) (H' : Hp) : Prop where
  fr : Fr μ0 μ' H0 H'
  con : Z.Con K H' μ'
  no : μ' Dl = none
  at_ : ∃ vs, H' Dl = some (.lst vs) ∧ Rels K H' vs acc
theorem upd_out {Dl : Addr} {vs : List V} {o : HO} (c : Z.Con K H μ) (no : μ Dl = none) (h : H Dl = some (.lst vs)) (ho : ∀ xs, o ≠ .tup xs) : Tx H (upd H Dl o) ∧ Z.Con K (upd H Dl o) μ := by
  have t : Tx H (upd H Dl o) := ⟨fun a xs e => by rw [upd_ne (fun z => by subst z; rw [h] at e; cases e)]; exact e, fun a ob xs e => by rw [upd_ne (fun z => by subst z; rw [h] at e; cases e)]; exact e,
    fun a q e => by rw [upd_ne (fun z => by subst z; rw [h] at e; unfold LamX.CodeO at e; cases e)]; exact e⟩
  exact ⟨t, fun a m e => (c a m e).mono t (upd_ne (fun z => by subst z; rw [no] at e; cases e))⟩
theorem lc_step {g : TG} {js : List Nat} {dec : D → List D → Prop} {Dl : Addr} {μ0 μ' : M} {H0 : Hp} {acc : List D} {P : List D → M → Prop} {Nx : Hp → Prop} {v : V} (hD : H0 Dl = none) (hg : TgOk K g js dec) (s : Slots K H0 τ σ) (c0 : Z.Con K H0 μ0) (L : LcAt K Dl μ0 H0 acc μ' H') (rx : Rel K H' v x) (ht : LcTurn K τ tt te js dec x acc μ' P)
    (hn : ∀ acc2 μ2 H2, LcAt K Dl μ0 H0 acc2 μ2 H2 → P acc2 μ2 → Nx H2) :
    g v (wipe σ js) H' fun σ2 H2 => wipe σ2 js = wipe σ js ∧ tt σ2 H2 fun b H3 => if b = true then te σ2 H3 fun y H4 => ∃ acc, H4 Dl = some (.lst acc) ∧ acc.length < sizeLine ∧ Nx (upd H4 Dl (.lst (acc ++ [y]))) else Nx H3 := by
  obtain ⟨xs, hd, hl, ht⟩ := ht
  obtain ⟨vs0, hv0, hr0⟩ := L.at_
  refine hg x xs v _ H' hd rx _ fun vs hvs => ⟨by rw [wipe_sets (fun _ h => h), wipe_wipe], ?_⟩
  have s' : Slots K H' (sets τ js xs) (sets (wipe σ js) js vs) := slots_block (s.mono (L.fr.tx c0)) hvs hl
  refine ht _ H' s' L.con _ fun b μ1 H1 f1 c1 p => ?_
  have n1 : μ1 Dl = none := (f1 Dl _ L.no hv0).2
  have h1 : H1 Dl = some (.lst vs0) := (f1 Dl _ L.no hv0).1
  cases b with
  | false => exact hn acc μ1 H1 ⟨L.fr.trans f1, c1, n1, vs0, h1, Rels.mono (f1.tx L.con) _ _ hr0⟩ p
  | true =>
    refine (show AE K te _ μ1 _ from p) _ H1 (s'.mono (f1.tx L.con)) c1 _ fun y μ2 w H2 f2 c2 r2 ⟨hz, p2⟩ => ?_
    have n2 : μ2 Dl = none := (f2 Dl _ n1 h1).2
    have h2 : H2 Dl = some (.lst vs0) := (f2 Dl _ n1 h1).1
    have hr2 : Rels K H2 vs0 acc := Rels.mono ((f1.trans f2).tx L.con) _ _ hr0
    obtain ⟨t3, c3⟩ := upd_out (o := .lst (vs0 ++ [w])) c2 n2 h2 (fun _ z => by cases z)
    refine ⟨vs0, h2, by rw [hr0.length]; exact hz, hn _ μ2 _ ⟨fun a o n e => ?_, c3, n2, _, upd_same, Rels.mono t3 _ _ (hr2.append (.cons r2 .nil))⟩ p2⟩
    have f := (L.fr.trans f1).trans f2
    obtain ⟨e2, m2⟩ := f a o n e
    exact ⟨by rw [upd_ne (ne_of_none e hD)]; exact e2, m2⟩
theorem lc_start {Dl : Addr} (c : Z.Con K H μ) (hD : H Dl = none) : LcAt K Dl μ H [] μ (upd H Dl (.lst [])) :=
  ⟨fr_new hD, con_new hD c, c.free hD, [], upd_same, .nil⟩
/-- pure elements: a filter and a map -/
theorem at_yes {Θ : Bool → M → Prop} (h : Θ true μ) : AT K tYes τ μ Θ := fun σ H s c Q k => k true μ H Fr.refl c h
end
end Z
namespace Z
open PySem L2
section
variable {K : PySem.W.Frag} {τ : T} {μ μ1 μ2 : M} {H H1 H2 H' : Hp} {σ : L2.St} {Φ Ψ : D → M → Prop} {ta tb tc te : TE} {r r' : R2} {tt : TT} {x y z d e : D} {N : AEnds} {ts us : TS}
theorem s_par3 {i j l : Nat} {ta : TA} (h : AA K ta τ μ fun ds μ' => ∃ d e w, ds = [d, e, w] ∧ N.nx (((τ.set i (some d)).set j (some e)).set l (some w)) μ') : AS K (tPar3 i j l ta) τ μ N := fun σ H s c E k =>
  h σ H s c _ fun ds μ' vs H' f c' r ⟨d, e, w, q, p⟩ => by
    subst q
    cases r with
    | cons r1 r2 =>
      cases r2 with
      | cons r2 r3 =>
        cases r3 with
        | cons r3 r4 =>
          cases r4
          exact ⟨_, _, _, rfl, k.nx _ μ' _ H' f c' ((((s.mono (f.tx c)).set r1 i).set r2 j).set r3 l) p⟩
def tyn (μ : M) : D → Option String
  | .non => some "NoneType"
  | .bl _ => some "bool"
  | .int _ => some "int"
  | .str _ => some "str"
  | .tup _ => some "tuple"
  | .rol _ => some "list"
  | .ref a => match μ a with
    | some (.lst _) => some "list"
    | some (.dK _) => some "dict"
    | some (.dT _) => some "dict"
    | _ => none
  | .ty _ => none
theorem tyx_of {v : V} {n : String} (c : Z.Con K H μ) (r : Rel K H v d) (h : tyn μ d = some n) : TyX K H v (.type n) := by
  cases r with
  | non => cases h; exact .base .non
  | bl => cases h; exact .base (.bl _)
  | int => cases h; exact .base (.int _)
  | str => cases h; exact .base (.str _)
  | ty => cases h
  | tup ht hr =>
    cases h
    cases ht with
    | inl ht => exact .base (.tup ht)
  | rol ht hr =>
    cases h
    rcases ht with ⟨o, ht⟩ | ⟨o, its, m, h1, h2, _⟩
    · exact .base (.frz ht)
    · exact .kList h1 h2
  | ref a =>
    unfold tyn at h
    simp only at h
    split at h
    · rename_i e; cases h; obtain ⟨xs, hx, _⟩ := c _ _ e; exact .base (.lst hx)
    · rename_i e; cases h; obtain ⟨xs, hx, _⟩ := c _ _ e; exact .base (.dK hx)
    · rename_i e; cases h; obtain ⟨xs, hx, _⟩ := c _ _ e; exact .base (.dT hx)
    · cases h
theorem rc_isi {n m : String} {b : Bool} (h : tyn μ d = some n) (hk : kitB n m = some b) (q : Φ (.bl b) μ) : RC K (rIsi K) [d, .ty m] μ Φ := fun H xs c r1 Q k => by
  cases r1 with
  | cons a r2 =>
    cases r2 with
    | cons a2 r3 =>
      cases a2; cases r3
      exact ⟨_, _, .type n, .type m, b, rfl, .ty m, tyx_of c a h, kit_ty hk, k _ μ _ H Fr.refl c (.bl _) q⟩
theorem a_chain (h : AE K ta τ μ fun d μ1 => AE K tb τ μ1 fun e μ2 => RO K r d e μ2 fun z μ3 => ∃ b, z = .bl b ∧ if b = true then AE K tc τ μ3 fun w μ4 => RO K r' e w μ4 Φ else Φ (.bl false) μ3) : AE K (tChain r r' ta tb tc) τ μ Φ := fun σ H s c Q k =>
  h σ H s c _ fun d μ1 v H1 f1 c1 r1 p1 => p1 σ H1 (s.mono (f1.tx c)) c1 _ fun e μ2 u H2 f2 c2 r2 p2 =>
    p2 H2 v u c2 (Rel.mono (f2.tx c1) _ _ r1) r2 _ fun z μ3 w H3 f3 c3 rz ⟨b, ez, p3⟩ => by
      subst ez
      cases rz
      refine ⟨b, rfl, ?_⟩
      cases b with
      | false => exact k _ μ3 _ H3 ((f1.trans f2).trans f3) c3 (.bl false) (show Φ (.bl false) μ3 from p3)
      | true =>
        exact (show AE K tc τ μ3 _ from p3) σ H3 (s.mono (((f1.trans f2).trans f3).tx c)) c3 _ fun w μ4 w' H4 f4 c4 r4 p4 =>
          p4 H4 u w' c4 (Rel.mono ((f3.trans f4).tx c2) _ _ r2) r4 Q fun z μ5 o H5 f5 c5 rz pz => k z μ5 o H5 ((((f1.trans f2).trans f3).trans f4).trans f5) c5 rz pz
def rInS (K : PySem.W.Frag) (neg : Bool) : R2 := fun x y H Q => ∃ d ds, Dp K H x d ∧ (Dp K H y (.list ds) ∨ Dp K H y (.tuple ds)) ∧ SeqAt.shaped d = true ∧ SeqAt.shaped (.list ds) = true ∧ Q (.bl (if neg then !ds.any fun z => PyData.eqv z d else ds.any fun z => PyData.eqv z d)) H
theorem op_inS {X : Cx} (hu : X.A.units + 65 < cLine) : OpR X (compareOp .In) (rInS X.K false) := by
  intro pins s σ H x y v u Q I rx ry h
  obtain ⟨d, ds, hd, he, sd, se, q⟩ := h
  obtain ⟨as, r1⟩ := Dp.reads I d x v hd rx
  rcases he with he | he
  · obtain ⟨bs, r2⟩ := Dp.reads I (.list ds) y u he ry
    exact SeqAt.in_list_reads r2 r1 (SeqAt.canLay_of_shaped se) (SeqAt.canLay_of_shaped sd) (PyProof.Rows.room_in_shaped sd hu) ⟨.bl _, H, I, rfl, q⟩
  · obtain ⟨bs, r2⟩ := Dp.reads I (.tuple ds) y u he ry
    exact SeqAt.in_tuple_reads r2 r1 (SeqAt.canLay_of_shaped se) (SeqAt.canLay_of_shaped sd) (PyProof.Rows.room_in_shaped sd hu) ⟨.bl _, H, I, rfl, q⟩
theorem op_notInS {X : Cx} (hu : X.A.units + 65 < cLine) : OpR X (compareOp .NotIn) (rInS X.K true) := by
  intro pins s σ H x y v u Q I rx ry h
  obtain ⟨d, ds, hd, he, sd, se, q⟩ := h
  obtain ⟨as, r1⟩ := Dp.reads I d x v hd rx
  rcases he with he | he
  · obtain ⟨bs, r2⟩ := Dp.reads I (.list ds) y u he ry
    exact SeqAt.notIn_list_reads r2 r1 (SeqAt.canLay_of_shaped se) (SeqAt.canLay_of_shaped sd) (PyProof.Rows.room_in_shaped sd hu) ⟨.bl _, H, I, rfl, q⟩
  · obtain ⟨bs, r2⟩ := Dp.reads I (.tuple ds) y u he ry
    exact SeqAt.notIn_tuple_reads r2 r1 (SeqAt.canLay_of_shaped se) (SeqAt.canLay_of_shaped sd) (PyProof.Rows.room_in_shaped sd hu) ⟨.bl _, H, I, rfl, q⟩
theorem seq_dp {v : V} {ds : List D} (c : Z.Con K H μ) (r : Rel K H v d) (h : seqD μ d = some ds) (hp : D.plains ds = true) : Dp K H v (.list (D.pys ds)) ∨ Dp K H v (.tuple (D.pys ds)) := by
  cases r with
  | tup ht hr => cases h; exact .inr (.tup ht.sq (Rels.dp _ _ hr hp))
  | rol ht hr => cases h; exact .inl (.lst ht.sq (Rels.dp _ _ hr hp))
  | ref a =>
    unfold seqD at h
    simp only at h
    split at h
    · rename_i ds' e
      cases h
      obtain ⟨xs, h1, h2⟩ := c _ _ e
      exact .inl (.lst (SqL.of h1) (Rels.dp _ _ h2 hp))
    · cases h
  | non => cases h
  | bl => cases h
  | int => cases h
  | str => cases h
  | ty => cases h
def inD (d : D) (ds : List D) : Bool := ds.any fun z => D.eqv z d
theorem inD_pys (d : D) : ∀ ds : List D, (D.pys ds).any (fun z => PyData.eqv z (D.py d)) = inD d ds
  | [] => by simp [D.pys, inD]
  | x :: ds => by
    have ih := inD_pys d ds
    unfold inD at ih ⊢
    simp only [D.pys, List.any_cons, ih]
    rfl
theorem ro_inS {neg : Bool} {ds : List D} (hs : seqD μ e = some ds) (h1 : D.ok d = true) (h2 : D.ok (.tup ds) = true) (q : Φ (.bl (if neg then !inD d ds else inD d ds)) μ) : RO K (rInS K neg) d e μ Φ := fun H x y c r1 r2 Q k => by
  unfold D.ok at h1 h2
  rw [Bool.and_eq_true] at h1 h2
  have p2 : D.plains ds = true := by simpa only [D.plain] using h2.1
  refine ⟨_, D.pys ds, Rel.dp _ _ r1 h1.1, seq_dp c r2 hs p2, h1.2, ?_, ?_⟩
  · have h3 := h2.2
    simp only [D.py] at h3
    exact h3
  · rw [inD_pys]
    exact k _ μ _ H Fr.refl c (.bl _) q
end
/-- a def of the text with its promise -/
structure Def (P : Program) (w : World) (K : PySem.W.Frag) (mg : Str → Option Value) (base : Heap) (x : Str) (ps : List Str) (k : Nat) (sp : Sp) : Prop where
  ex : ∃ f fd, FnOk P w K mg base CX0 k f fd ps sp ∧ mg x = some (.ref f) ∧ PySem.W.keepIn K (.ref f) = true ∧ Binds K fd ps []
section
variable {X : Cx} {k : Nat} {ps : List Str} {sp : Sp} {x : Str} {p pos : Pos} {e : Expr} {es : List Expr} {t : TA}
theorem pe_def (G : Def X.prog X.w X.K X.mg X.base x ps k sp) (hr : Room k X.A) (hg : Gl X x)
    (ha : PA X (e :: es) t) (hdb : (x == ("__debug__" : Str)) = false := by decide) (he : starEach (e :: es) X.env = (false, eval e X.env) :: starEach es X.env := by rfl) (hpl : (backTo pos (starEach es X.env)).any (·.1) = false := by rfl) :
    PE X (.Call (.Name x p) (e :: es) [] pos) (tCall sp [] E0 t) := by
  obtain ⟨f, fd, F, hm, hk, hb⟩ := G.ex
  exact pe_call F hr hg hm hk hb .nil pass0 ha hdb he hpl
end
end Z
namespace Z
open PySem L2
theorem seq_ref {μ : M} {a : Addr} {ds : List D} (h : μ a = some (.lst ds)) : seqD μ (.ref a) = some ds := by
  show (match μ a with | some (.lst ds) => some ds | _ => none) = some ds
  rw [h]
def Sz (n : Nat) (x : Int) : Prop := x.natAbs < 2 ^ n
instance {n : Nat} {x : Int} : Decidable (Sz n x) := inferInstanceAs (Decidable (x.natAbs < 2 ^ n))
theorem sz_mono {a b : Nat} {x : Int} (h : Sz a x) (l : a ≤ b) : Sz b x := Nat.lt_of_lt_of_le h (Nat.pow_le_pow_right (by decide) l)
theorem sz_add {a b : Nat} {x y : Int} (h : Sz a x) (k : Sz b y) : Sz (max a b + 1) (x + y) := by
  have h1 : x.natAbs < 2 ^ (max a b) := Nat.lt_of_lt_of_le h (Nat.pow_le_pow_right (by decide) (Nat.le_max_left _ _))
  have h2 : y.natAbs < 2 ^ (max a b) := Nat.lt_of_lt_of_le k (Nat.pow_le_pow_right (by decide) (Nat.le_max_right _ _))
  have h3 := Int.natAbs_add_le x y
  unfold Sz
  rw [Nat.pow_succ]
  omega
theorem sz_neg {a : Nat} {x : Int} (h : Sz a x) : Sz a (-x) := by
  unfold Sz
  rw [Int.natAbs_neg]
  exact h
theorem sz_sub {a b : Nat} {x y : Int} (h : Sz a x) (k : Sz b y) : Sz (max a b + 1) (x - y) := by
  rw [Int.sub_eq_add_neg]
  exact sz_add h (sz_neg k)
theorem sz_mul {a b : Nat} {x y : Int} (h : Sz a x) (k : Sz b y) : Sz (a + b) (x * y) := wide_lt h k
theorem sz_mod {a : Nat} {x y : Int} (hy : 0 < y) (k : Sz a y) : Sz a (x % y) := by
  have h1 := Int.emod_nonneg x (by omega : y ≠ 0)
  have h2 := Int.emod_lt_of_pos x hy
  have k' : y.natAbs < 2 ^ a := k
  unfold Sz
  omega
theorem sz_b {b : Bool} : Sz 1 (if b then 1 else 0) := by cases b <;> decide
theorem sz_128 {x : Int} (h : decide (x.natAbs < 2 ^ 128) = true) : Sz 128 x := of_decide_eq_true h
theorem sz_2 {x : Int} (h : decide (x.natAbs < 2 ^ 2) = true) : Sz 2 x := of_decide_eq_true h
theorem sz_8 {x : Int} (h : decide (x.natAbs < 2 ^ 8) = true) : Sz 8 x := of_decide_eq_true h
theorem sz_32 {x : Int} (h : decide (x.natAbs < 2 ^ 32) = true) : Sz 32 x := of_decide_eq_true h
theorem hu65_of {k : Nat} {A : Around} (hr : Room k A) : A.units + 65 < cLine := by have := hr.un; omega
theorem mulw_of {a b : Nat} {x y : Int} (h : Sz a x) (k : Sz b y) (l : (a + 1) + (b + 1) ≤ 1000000) : CMulW x y :=
  wide_mul (a := a + 1) (b := b + 1) (sz_mono h (Nat.le_succ a)) (sz_mono k (Nat.le_succ b)) (Nat.succ_pos _) (Nat.succ_pos _) l
theorem divw_of {b : Nat} {x y : Int} (h : 0 < y) (k : Sz b y) (l : b + 1 ≤ 9000) : CDivW x y := wide_div (b := b + 1) h (sz_mono k (Nat.le_succ b)) (Nat.succ_pos _) l
abbrev pt (x y : Int) : D := .tup [.int x, .int y]
def sgn (n : Int) : Int := if 0 < n then 1 else if n < 0 then -1 else 0
section
variable {X : Cx} {K : PySem.W.Frag}
theorem ix_seqK (h : X.K = K) : IxR X (rIx K) := by subst h; exact ix_seq
theorem op_eqDK (h : X.K = K) (hu : X.A.units + 64 < cLine) : OpR X (compareOp .Eq) (rEqD K) := by subst h; exact op_eqD hu
theorem op_neDK (h : X.K = K) (hu : X.A.units + 64 < cLine) : OpR X (compareOp .NotEq) (rNeD K) := by subst h; exact op_neD hu
theorem op_inSK (h : X.K = K) (hu : X.A.units + 65 < cLine) : OpR X (compareOp .In) (rInS K false) := by subst h; exact op_inS hu
theorem op_notInSK (h : X.K = K) (hu : X.A.units + 65 < cLine) : OpR X (compareOp .NotIn) (rInS K true) := by subst h; exact op_notInS hu
theorem call_isiK1 (h : X.K = K) : CallR X (.builtin "isinstance") (rIsi K) := by subst h; exact call_isi
theorem call_lenK (h : X.K = K) : CallR X (.builtin "len") (fun xs H Q => ∃ x n, xs = [x] ∧ LenV K x H n ∧ Q (.int n) H) := by subst h; exact call_len
theorem cr_allK (h : X.K = K) (hc : X.calm = true) : CallR X (.builtin "all") (rAll K) := by subst h; exact cr_all hc
theorem cr_anyK (h : X.K = K) (hc : X.calm = true) : CallR X (.builtin "any") (rAny K) := by subst h; exact cr_any hc
theorem call_tupleK (h : X.K = K) : CallR X (.type "tuple") (fun xs H Q => ∃ p ys, xs = [V.ref p] ∧ ((SqL K H p ys ∧ ∀ l, H l = none → Q (.ref l) (upd H l (.tup ys))) ∨ (SqT K H p ys ∧ Q (.ref p) H))) := by subst h; exact call_tuple_of
theorem pe_fldK {e : Expr} {ta : TE} {f : Str} {pos : Pos} (h : X.K = K) (he : PE X e ta) (hb : attributeBase e f X.env (eval e X.env) = eval e X.env) : PE X (.Attribute e f pos) (tFld K ta f) := by subst h; exact pe_fld he hb
theorem pi_listK {tg l : Expr} {tl : TE} (h : X.K = K) (hl : PE X l tl) : PI X tg l (iList K tl) := by subst h; exact pi_list hl
theorem pi_tupK {tg l : Expr} {tl : TE} (h : X.K = K) (hl : PE X l tl) : PI X tg l (iTup K tl) := by subst h; exact pi_tup hl
end
end Z
namespace Z
open PySem L2
def P_law : PT3 := fun ds μ Φ => ∃ ns : List Int, ds = [.rol (ns.map D.int)] ∧ ns.length ≤ 63 ∧ ∀ μ', Φ (.bl true) μ'
theorem rels_map {K : PySem.W.Frag} {H : Hp} : ∀ ns : List Int, Rels K H (ns.map V.int) (ns.map D.int)
  | [] => .nil
  | n :: ns => .cons (.int n) (rels_map ns)
theorem len_law (ds : List D) (μ : M) (Φ : D → M → Prop) (h : P_law ds μ Φ) : ds.length = 1 := by
  obtain ⟨ns, rfl, _⟩ := h
  rfl
/-- a bag: what its second number is -/
def BgOk (m : Int) : Prop := 0 ≤ m ∧ m < 2147483648
def P_l_bag : PT3 := fun ds μ Φ => ∃ (ns : List Int) (k : Int), ds = [.rol (ns.map D.int), .int k] ∧ 0 ≤ k ∧ k ≤ 1000 ∧ ∀ p c m, μ p = none → BgOk m → Φ (.ref p) (μ.set p (.lst [.int c, .int m]))
theorem len_l_bag (ds : List D) (μ : M) (Φ : D → M → Prop) (h : P_l_bag ds μ Φ) : ds.length = 2 := by
  obtain ⟨_, _, rfl, _⟩ := h
  rfl
def P_l_take : PT3 := fun ds μ Φ => ∃ (b : Addr) (n c m : Int), ds = [.ref b, .int n] ∧ μ b = some (.lst [.int c, .int m]) ∧ BgOk m ∧ 0 < n ∧ Sz 4000 n ∧ ∀ d c' m', 0 ≤ d → d < n → Sz 4000 d → BgOk m' → Φ (.int d) (μ.set b (.lst [.int c', .int m']))
theorem len_l_take (ds : List D) (μ : M) (Φ : D → M → Prop) (h : P_l_take ds μ Φ) : ds.length = 2 := by
  obtain ⟨_, _, _, _, rfl, _⟩ := h
  rfl
theorem cast_int {Φ : D → M → Prop} {μ : M} {a b : Int} (e : a = b) (h : Φ (.int b) μ) : Φ (.int a) μ := by rw [e]; exact h
theorem iteNT {A B : Prop} (h : B) : if (!true) = true then A else B := h
theorem iteNF {A B : Prop} (h : A) : if (!false) = true then A else B := h
/-- an if whose test is a comparison -/
theorem ite_d {p : Prop} [Decidable p] {A B : Prop} (h1 : p → A) (h2 : ¬ p → B) : if decide p = true then A else B := by
  by_cases h : p
  · rw [if_pos (decide_eq_true h)]; exact h1 h
  · rw [if_neg (by simpa using h)]; exact h2 h
theorem ite_nd {p : Prop} [Decidable p] {A B : Prop} (h1 : ¬ p → A) (h2 : p → B) : if (!decide p) = true then A else B := by
  by_cases h : p
  · rw [if_neg (by simpa using h)]; exact h2 h
  · rw [if_pos (by simpa using h)]; exact h1 h
theorem map_get {ns : List Int} {k : Int} (h0 : 0 ≤ k) (h1 : k < ns.length) : ∃ z, atI (ns.map D.int) k = some (.int z) := by
  obtain ⟨j, rfl⟩ := Int.eq_ofNat_of_zero_le h0
  have hj : j < ns.length := by omega
  exact ⟨ns[j], atI_nat (by rw [List.getElem?_map, List.getElem?_eq_getElem hj]; rfl)⟩
/-- an if, then a word of what holds behind it -/
theorem if_cut {K : PySem.W.Frag} {τ : T} {μ : M} {N : AEnds} {t1 t2 : TS} {b : Bool} (M0 : T → M → Prop) (h1 : b = true → AS K t1 τ μ { N with nx := M0 }) (h2 : b = false → AS K t2 τ μ { N with nx := M0 }) (k : ∀ τ' μ', M0 τ' μ' → N.nx τ' μ') :
    if b = true then AS K t1 τ μ N else AS K t2 τ μ N := by
  cases b with
  | true => rw [if_pos rfl]; exact (h1 rfl).imp k (fun _ _ h => h) (fun _ _ h => h) fun _ _ h => h
  | false => rw [if_neg Bool.false_ne_true]; exact (h2 rfl).imp k (fun _ _ h => h) (fun _ _ h => h) fun _ _ h => h
section
variable {K : PySem.W.Frag} {τ : T} {μ μ1 μ2 : M} {Φ : D → M → Prop} {tl te : TE} {tt : TT}
theorem sets1 {j : Nat} {x : D} : sets τ [j] [x] = τ.set j (some x) := rfl
theorem filt_step {f : D → D} {p : D → Bool} {ds : List D} {i : Nat} {x : D} (h : ds[i]? = some x) : (ds.take (i + 1)).filter p = (ds.take i).filter p ++ (if p x = true then [x] else []) := by
  rw [List.take_add_one, h, List.filter_append]
  congr 1
  simp only [Option.toList_some, List.filter_cons, List.filter_nil]
theorem lc_pure_turn {j : Nat} (f : D → D) (p : D → Bool) {ds : List D} {i : Nat} {x : D} (hz : ds.length < sizeLine) (hx : ds[i]? = some x)
    (ht : AT K tt (τ.set j (some x)) μ1 fun b μ2 => b = p x ∧ μ2 = μ1) (he : p x = true → AE K te (τ.set j (some x)) μ1 fun y μ2 => y = f x ∧ μ2 = μ1) :
    LcTurn K τ tt te [j] (fun d ds => ds = [d]) x (((ds.take i).filter p).map f) μ1 fun acc μ' => μ' = μ1 ∧ acc = ((ds.take (i + 1)).filter p).map f := by
  refine ⟨[x], rfl, rfl, ?_⟩
  rw [sets1]
  refine ht.imp fun b μ' ⟨e1, e2⟩ => ?_
  subst e2
  rw [filt_step (f := f) hx]
  cases b with
  | true =>
    rw [if_pos rfl]
    refine (he e1.symm).imp fun y μ' ⟨e3, e4⟩ => ?_
    subst e4
    refine ⟨?_, rfl, ?_⟩
    · rw [List.length_map]
      have h1 := List.length_filter_le p (ds.take i)
      have h2 : (ds.take i).length ≤ ds.length := by rw [List.length_take]; omega
      omega
    · rw [if_pos e1.symm, List.map_append, e3]
      rfl
  | false =>
    rw [if_neg Bool.false_ne_true]
    refine ⟨rfl, ?_⟩
    rw [if_neg (by rw [← e1]; exact Bool.false_ne_true), List.append_nil]
end
end Z
namespace Z
open PySem L2
/-- J yields xs in turn while G stands; what is at out is not in the store meanwhile -/
structure WalkD (K : PySem.W.Frag) (J : It) (xs : List D) (out : Addr → Prop) (G : Hp → Prop) : Prop where
  keep : ∀ H H' μ μ', Z.Con K H μ → (∀ a, out a → μ a = none) → G H → Fr μ μ' H H' → G H'
  oo : ∀ H a, G H → out a → ∃ o, H a = some o
  go : ∀ i H, i < xs.length → G H → J.go i H
  stop : ∀ i H, xs.length ≤ i → G H → J.stop i H
  yld : ∀ i H v H', i < xs.length → G H → J.yld i H v H' → ∃ x, xs[i]? = some x ∧ Rel K H' v x ∧ (H' = H ∨ ∃ T vs, H T = none ∧ H' = upd H T (.tup vs))
/-- how the store is put together again -/
structure Back (K : PySem.W.Frag) (μ μw : M) (H H1 : Hp) (back : M → M) : Prop where
  fr : ∀ μ' H', Fr μw μ' H1 H' → Fr μ (back μ') H H'
  con : ∀ μ' H', Fr μw μ' H1 H' → Z.Con K H' μ' → Z.Con K H' (back μ')
  nw : ∀ μ' p, H1 p = none → μ' p = none → back μ' p = none
  old : ∀ b o, μ b = none → H b = some o → H1 b = some o
/-- a source: what follows is told of the items, the store while it is walked, the way back -/
def AI (K : PySem.W.Frag) (wi : TI) (τ : T) (μ : M) (Ψ : List D → M → (M → M) → Prop) : Prop :=
  ∀ σ H, Slots K H τ σ → Z.Con K H μ → ∀ R : It → Hp → Prop,
    (∀ J xs out G H1 μw back, Tx H H1 → Z.Con K H1 μw → WalkD K J xs out G → G H1 → (∀ a, out a → μw a = none) → Back K μ μw H H1 back → Ψ xs μw back → R J H1) → wi σ H R
section
variable {K : PySem.W.Frag} {τ : T} {μ μ1 μ2 : M} {H H1 H2 H' : Hp} {σ : L2.St} {Φ : D → M → Prop} {ta tl te : TE} {tt : TT} {N : AEnds} {ts tb : TS} {g : TG} {wi : TI}
def turnB (N : AEnds) (back : M → M) (P : T → M → Prop) : AEnds := { nx := P, ct := P, rt := fun d μ' => N.rt d (back μ'), bk := fun τ' μ' => N.nx τ' (back μ'), W := N.W, cn := N.cn, xs := fun x dx τ' μ' => N.xs x dx τ' (back μ') }
/-- behind one yield -/
theorem yld_ok {T0 : Addr} {vs : List V} (c : Z.Con K H μ) (h : H T0 = none) : Fr μ μ H (upd H T0 (.tup vs)) ∧ Z.Con K (upd H T0 (.tup vs)) μ := ⟨fr_new h, con_new h c⟩
theorem s_for (h : AI K wi τ μ fun xs μw back => ∃ P : Nat → T → M → Prop, P 0 τ μw ∧ (∀ (i : Nat) x τ' μ', xs[i]? = some x → P i τ' μ' → AG K g x τ' μ' fun τ2 μ2 => AS K tb τ2 μ2 (turnB N back (P (i + 1)))) ∧ ∀ τ' μ', P xs.length τ' μ' → N.nx τ' (back μ')) :
    AS K (tFor wi g tb) τ μ N := fun σ H s c E k => by
  refine h σ H s c _ fun J xs out G H1 μw back tx c1 W g1 o1 B ⟨P, p0, hs, hd⟩ => ?_
  refine ⟨fun i m σ' H' => m = xs.length - i ∧ i ≤ xs.length ∧ ∃ τ' μ', Fr μw μ' H1 H' ∧ Z.Con K H' μ' ∧ Slots K H' τ' σ' ∧ P i τ' μ', ⟨xs.length, by omega, Nat.zero_le _, τ, μw, Fr.refl, c1, s.mono tx, p0⟩, ?_⟩
  rintro i m σ' H' ⟨rfl, hi, τ', μ', f, c', s', p⟩
  have gH : G H' := W.keep _ _ _ _ c1 o1 g1 f
  by_cases hlt : i < xs.length
  · refine .inr ⟨W.go i H' hlt gH, fun σ2 H2 => ∃ τ2 μ2, Fr μw μ2 H1 H2 ∧ Z.Con K H2 μ2 ∧ Slots K H2 τ2 σ2 ∧ P (i + 1) τ2 μ2, fun σ2 H2 ⟨τ2, μ2, f2, c2, s2, p2⟩ => ⟨xs.length - (i + 1), by omega, rfl, hlt, τ2, μ2, f2, c2, s2, p2⟩, fun v H2 y => ?_⟩
    obtain ⟨x, hx, rx, hH⟩ := W.yld i H' v H2 hlt gH y
    have fy : Fr μ' μ' H' H2 ∧ Z.Con K H2 μ' := by
      rcases hH with e | ⟨T0, vs, hT, e⟩
      · rw [e]; exact ⟨Fr.refl, c'⟩
      · rw [e]; exact yld_ok c' hT
    refine hs i x τ' μ' hx p σ' H2 v (s'.mono (fy.1.tx c')) fy.2 rx _ fun τ3 μ3 σ3 H3 f3 c3 s3 q => ?_
    have fa := (f.trans fy.1).trans f3
    refine q σ3 H3 s3 c3 _ ⟨fun τ4 μ4 σ4 H4 f4 c4 s4 p4 => ⟨τ4, μ4, fa.trans f4, c4, s4, p4⟩, fun d4 μ4 v4 H4 f4 c4 r4 p4 => ?_, fun τ4 μ4 σ4 H4 f4 c4 s4 p4 => ?_, fun τ4 μ4 σ4 H4 f4 c4 s4 p4 => ⟨τ4, μ4, fa.trans f4, c4, s4, p4⟩, fun x1 x2 x3 x4 x5 x6 x7 x8 f' c' s' p' => k.wx x1 x2 x3 _ x5 x6 x7 x8 (B.fr _ _ (fa.trans f')) (B.con _ _ (fa.trans f') c') s' p'⟩
    · exact k.rt d4 (back μ4) v4 H4 (B.fr _ _ (fa.trans f4)) (B.con _ _ (fa.trans f4) c4) r4 p4
    · exact k.nx τ4 (back μ4) σ4 H4 (B.fr _ _ (fa.trans f4)) (B.con _ _ (fa.trans f4) c4) s4 p4
  · have e : i = xs.length := by omega
    subst e
    exact .inl ⟨W.stop _ H' (Nat.le_refl _) gH, k.nx τ' (back μ') σ' H' (B.fr _ _ f) (B.con _ _ f c') s' (hd τ' μ' p)⟩
theorem a_lc {js : List Nat} {dec : D → List D → Prop} (hg : TgOk K g js dec)
    (h : AI K wi τ μ fun xs μw back => ∃ P : Nat → List D → M → Prop, P 0 [] μw ∧ (∀ (i : Nat) x acc μ', xs[i]? = some x → P i acc μ' → LcTurn K τ tt te js dec x acc μ' (P (i + 1))) ∧ ∀ acc μ', P xs.length acc μ' → ∀ p, back μ' p = none → Φ (.ref p) ((back μ').set p (.lst acc))) :
    AE K (tLc wi g tt te js) τ μ Φ := fun σ H s c Q k => by
  refine h σ H s c _ fun J xs out G H1 μw back tx c1 W g1 o1 B ⟨P, p0, hs, hd⟩ Dl hD => ?_
  have s1 := s.mono tx
  refine ⟨fun i m H' => m = xs.length - i ∧ i ≤ xs.length ∧ ∃ acc μ', LcAt K Dl μw H1 acc μ' H' ∧ P i acc μ', ⟨xs.length, by omega, Nat.zero_le _, [], μw, lc_start c1 hD, p0⟩, ?_⟩
  rintro i m H' ⟨rfl, hi, acc, μ', L, p⟩
  have gH : G H' := W.keep _ _ _ _ c1 o1 g1 L.fr
  by_cases hlt : i < xs.length
  · refine .inr ⟨W.go i H' hlt gH, fun H2 => ∃ acc2 μ2, LcAt K Dl μw H1 acc2 μ2 H2 ∧ P (i + 1) acc2 μ2, fun H2 ⟨acc2, μ2, L2, p2⟩ => ⟨xs.length - (i + 1), by omega, rfl, hlt, acc2, μ2, L2, p2⟩, fun v H2 y => ?_⟩
    obtain ⟨x, hx, rx, hH⟩ := W.yld i H' v H2 hlt gH y
    have L2 : LcAt K Dl μw H1 acc μ' H2 := by
      rcases hH with e | ⟨T0, vs, hT, e⟩
      · rw [e]; exact L
      · obtain ⟨f2, c2⟩ := yld_ok (vs := vs) L.con hT
        obtain ⟨ws, hw, hr⟩ := L.at_
        rw [e]
        exact ⟨L.fr.trans f2, c2, L.no, ws, by rw [upd_ne (fun z => by rw [z, hT] at hw; cases hw)]; exact hw, Rels.mono (tx_new hT) _ _ hr⟩
    exact lc_step hD hg s1 c1 L2 rx (hs i x acc μ' hx p) fun acc2 μ2 H3 L3 p3 => ⟨acc2, μ2, L3, p3⟩
  · have e : i = xs.length := by omega
    subst e
    obtain ⟨vs, hv, hr⟩ := L.at_
    refine .inl ⟨W.stop _ H' (Nat.le_refl _) gH, ?_⟩
    have hbn : back μ' Dl = none := B.nw _ _ hD L.no
    have fb := B.fr _ _ L.fr
    have cb := B.con _ _ L.fr L.con
    refine k _ _ _ H' (fun b o n e => ?_) (con_back (m := .lst acc) cb ⟨vs, hv, hr⟩) (.ref Dl) (hd acc μ' p Dl hbn)
    obtain ⟨e2, n2⟩ := fb b o n e
    have hb : b ≠ Dl := fun z => by
      have e3 := B.old b o n e
      rw [z, hD] at e3; cases e3
    exact ⟨e2, by rw [set_ne hb]; exact n2⟩
theorem back_id (f : Fr μ μ1 H H1) : Back K μ μ1 H H1 id := ⟨fun _ _ g => f.trans g, fun _ _ _ c => c, fun _ _ _ h => h, fun b o n e => (f b o n e).1⟩
/-- a list set aside -/
theorem back_set {a : Addr} {vs : List V} {ds : List D} (c1 : Z.Con K H1 μ1) (hl : μ1 a = some (.lst ds)) (hx : H1 a = some (.lst vs)) (hr : Rels K H1 vs ds) (f : Fr μ μ1 H H1) : Back K μ (μ1.del a) H H1 (fun μ' => μ'.set a (.lst ds)) where
  fr := fun μ' H' g => fr_back hl f g
  con := fun μ' H' g c => con_back (m := .lst ds) c ⟨vs, (g a _ del_same hx).1, Rels.mono (g.tx (c1.sub del_sub)) _ _ hr⟩
  nw := fun μ' p hp n => by
    rw [set_ne (fun z => by rw [z, hx] at hp; cases hp)]
    exact n
  old := fun b o n e => (f b o n e).1
theorem walk_T {a : Addr} {vs : List V} {ds : List D} (hr : Rels K H1 vs ds) : WalkD K (Itt K a) ds (fun _ => False) (fun H' => TupAt K H' a vs ∧ Rels K H' vs ds) where
  keep := fun H H' μ μ' c _ g f => ⟨g.1.mono (f.tx c), Rels.mono (f.tx c) _ _ g.2⟩
  oo := fun _ _ _ h => h.elim
  go := fun i H' hi g => by
    have hv : i < vs.length := by rw [hr.length]; exact hi
    exact ⟨vs, vs[i], g.1.sq, List.getElem?_eq_getElem hv⟩
  stop := fun i H' hi g => ⟨vs, g.1.sq, by rw [hr.length]; exact hi⟩
  yld := fun i H' v H2 hi g y => by
    obtain ⟨e, q⟩ := y
    obtain ⟨x, h1, h2⟩ := g.2.getV (q vs g.1.sq)
    subst e
    exact ⟨x, h1, h2, .inl rfl⟩
theorem walk_L {a : Addr} {vs : List V} {ds : List D} (hr : Rels K H1 vs ds) : WalkD K (Itl K a) ds (fun b => b = a) (fun H' => H' a = some (.lst vs) ∧ Rels K H' vs ds) where
  keep := fun H H' μ μ' c o g f => ⟨(f a _ (o a rfl) g.1).1, Rels.mono (f.tx c) _ _ g.2⟩
  oo := fun _ b g h => by subst h; exact ⟨_, g.1⟩
  go := fun i H' hi g => by
    have hv : i < vs.length := by rw [hr.length]; exact hi
    exact ⟨vs, vs[i], SqL.of g.1, List.getElem?_eq_getElem hv⟩
  stop := fun i H' hi g => ⟨vs, SqL.of g.1, by rw [hr.length]; exact hi⟩
  yld := fun i H' v H2 hi g y => by
    obtain ⟨e, q⟩ := y
    obtain ⟨x, h1, h2⟩ := g.2.getV (q vs (SqL.of g.1))
    subst e
    exact ⟨x, h1, h2, .inl rfl⟩
theorem walk_N {lo : Int} {n : Nat} : WalkD K (Itr lo n) ((List.range n).map fun (i : Nat) => D.int (lo + i)) (fun _ => False) (fun _ => True) where
  keep := fun _ _ _ _ _ _ _ _ => trivial
  oo := fun _ _ _ h => h.elim
  go := fun i H' hi _ => by
    have h : i < n := by simpa using hi
    exact h
  stop := fun i H' hi _ => by
    have h : n ≤ i := by simpa using hi
    exact h
  yld := fun i H' v H2 hi _ y => by
    obtain ⟨e, e2⟩ := y
    have h : i < n := by simpa using hi
    subst e e2
    exact ⟨.int (lo + i), by simp [h], .int _, .inl rfl⟩
variable {Ψ : List D → M → (M → M) → Prop}
theorem ai_T (h : AE K tl τ μ fun d μ1 => ∃ ds, d = .tup ds ∧ Ψ ds μ1 id) : AI K (iTup K tl) τ μ Ψ := fun σ H s c R k => h σ H s c _ fun d μ1 v H1 f1 c1 r1 ⟨ds, e, q⟩ => by
  subst e
  cases r1 with
  | @tup a xs _ ha hr => exact ⟨a, rfl, ⟨xs, ha.sq⟩, k _ ds _ _ H1 μ1 id (f1.tx c) c1 (walk_T hr) ⟨ha, hr⟩ (fun _ z => z.elim) (back_id f1) q⟩
theorem ai_L (h : AE K tl τ μ fun d μ1 => ∃ a ds, d = .ref a ∧ μ1 a = some (.lst ds) ∧ Ψ ds (μ1.del a) (fun μ' => μ'.set a (.lst ds))) : AI K (iList K tl) τ μ Ψ := fun σ H s c R k => h σ H s c _ fun d μ1 v H1 f1 c1 r1 ⟨a, ds, e, hl, q⟩ => by
  subst e
  cases r1
  obtain ⟨xs, hx, hr⟩ := c1 a _ hl
  exact ⟨a, rfl, ⟨xs, SqL.of hx⟩, k _ ds _ _ H1 (μ1.del a) _ (f1.tx c) (c1.sub del_sub) (walk_L hr) ⟨hx, hr⟩ (fun b z => by rw [z]; exact del_same) (back_set c1 hl hx hr f1) q⟩
theorem ai_1 {ta : TA} (h : AA K ta τ μ fun ds μ1 => ∃ n : Int, ds = [.int n] ∧ -(2 ^ 62) ≤ n ∧ n < 2 ^ 62 ∧ Ψ ((List.range n.toNat).map fun (i : Nat) => D.int (0 + i)) μ1 id) : AI K (iRng1 ta) τ μ Ψ := fun σ H s c R k => h σ H s c _ fun ds μ1 vs H1 f1 c1 r1 ⟨n, e, h1, h2, q⟩ => by
  subst e
  cases r1 with
  | cons r rr =>
    cases r
    cases rr
    exact ⟨n, rfl, h1, h2, k _ _ _ _ H1 μ1 id (f1.tx c) c1 walk_N trivial (fun _ z => z.elim) (back_id f1) q⟩
def zipD : List D → List D → List D
  | x :: xs, y :: ys => .tup [x, y] :: zipD xs ys
  | _, _ => []
theorem zipD_get : ∀ {xs ys : List D} {i : Nat}, i < (zipD xs ys).length → ∃ x y, xs[i]? = some x ∧ ys[i]? = some y ∧ (zipD xs ys)[i]? = some (.tup [x, y])
  | [], _, i, h => by simp [zipD] at h
  | _ :: _, [], i, h => by simp [zipD] at h
  | x :: xs, y :: ys, 0, _ => ⟨x, y, rfl, rfl, rfl⟩
  | x :: xs, y :: ys, i + 1, h => by
    obtain ⟨a, b, h1, h2, h3⟩ := zipD_get (xs := xs) (ys := ys) (i := i) (by simpa [zipD] using h)
    exact ⟨a, b, by simpa using h1, by simpa using h2, by simpa [zipD] using h3⟩
theorem zipD_len : ∀ (xs ys : List D), (zipD xs ys).length = min xs.length ys.length
  | [], _ => by simp [zipD]
  | _ :: _, [] => by simp [zipD]
  | x :: xs, y :: ys => by
    have h := zipD_len xs ys
    simp only [zipD, List.length_cons, h]
    omega
theorem walk_Z {a b : Addr} {vs ws : List V} {ds es : List D} (hr : Rels K H1 vs ds) (hr2 : Rels K H1 ws es) : WalkD K (RZ.ItzT K a b) (zipD ds es) (fun _ => False) (fun H' => (TupAt K H' a vs ∧ Rels K H' vs ds) ∧ TupAt K H' b ws ∧ Rels K H' ws es) where
  keep := fun H H' μ μ' c _ g f => ⟨⟨g.1.1.mono (f.tx c), Rels.mono (f.tx c) _ _ g.1.2⟩, g.2.1.mono (f.tx c), Rels.mono (f.tx c) _ _ g.2.2⟩
  oo := fun _ _ _ h => h.elim
  go := fun i H' hi g => by
    rw [zipD_len] at hi
    have hv : i < vs.length := by rw [hr.length]; omega
    have hw : i < ws.length := by rw [hr2.length]; omega
    exact ⟨vs, ws, vs[i], ws[i], g.1.1.sq, g.2.1.sq, List.getElem?_eq_getElem hv, List.getElem?_eq_getElem hw⟩
  stop := fun i H' hi g => by
    rw [zipD_len] at hi
    refine ⟨vs, ws, g.1.1.sq, g.2.1.sq, ?_⟩
    rw [hr.length, hr2.length]
    omega
  yld := fun i H' v H2 hi g y => by
    obtain ⟨T0, x, y, e, hT, e2, q1, q2⟩ := y
    obtain ⟨x', y', h1, h2, h3⟩ := zipD_get hi
    obtain ⟨d1, k1, r1⟩ := g.1.2.getV (q1 vs g.1.1.sq)
    obtain ⟨d2, k2, r2⟩ := g.2.2.getV (q2 ws g.2.1.sq)
    rw [h1] at k1; cases k1
    rw [h2] at k2; cases k2
    refine ⟨_, h3, ?_, .inr ⟨T0, _, hT, e2⟩⟩
    subst e e2
    exact .tup (.inl upd_same) (.cons (Rel.mono (tx_new hT) _ _ r1) (.cons (Rel.mono (tx_new hT) _ _ r2) .nil))
theorem ai_Z {ta : TA} (h : AA K ta τ μ fun ds μ1 => ∃ xs ys, ds = [.tup xs, .tup ys] ∧ Ψ (zipD xs ys) μ1 id) : AI K (RZ.iZipA K ta) τ μ Ψ := fun σ H s c R k => h σ H s c _ fun ds μ1 vs H1 f1 c1 r1 ⟨xs, ys, e, q⟩ => by
  subst e
  cases r1 with
  | cons r rr =>
    cases rr with
    | cons r' rr =>
      cases rr
      cases r with
      | @tup a us _ ha hr =>
        cases r' with
        | @tup b ws _ hb hr2 => exact ⟨a, b, us, ws, rfl, .inr ⟨ha.sq, hb.sq, k _ _ _ _ H1 μ1 id (f1.tx c) c1 (walk_Z hr hr2) ⟨⟨ha, hr⟩, hb, hr2⟩ (fun _ z => z.elim) (back_id f1) q⟩⟩
/-- a, b, .. = a list of the store, or a read-only one -/
theorem g_lst {n : Nat} {gs : TGs} {ds : List D} {d : D} {Θ : T → M → Prop} (hs : seqD μ d = some ds) (hd : ∀ es, d ≠ .tup es) (hn : ds.length = n) (h : AGs K gs ds τ μ Θ) : AG K (gLst K n gs) d τ μ Θ := fun σ H v s c r Q k => by
  obtain ⟨a, xs, e, hq, hr⟩ := seq_of c r hs
  subst e
  rcases hq with hq | hq
  · exact ⟨a, xs, rfl, hq, by rw [hr.length]; exact hn, h σ H _ s c hr Q k⟩
  · cases r with
    | tup ht hr' => exact absurd rfl (hd _)
    | rol ht hr' => cases hs; exact ⟨_, _, rfl, ht.sq, by rw [hr'.length]; exact hn, h σ H _ s c hr' Q k⟩
    | ref a =>
      unfold seqD at hs
      simp only at hs
      split at hs
      · rename_i ds' e
        cases hs
        obtain ⟨ys, h1, h2⟩ := c _ _ e
        exact ⟨_, ys, rfl, SqL.of h1, by rw [h2.length]; exact hn, h σ H _ s c h2 Q k⟩
      · cases hs
/-- a comprehension whose turns leave nothing, one name as target -/
theorem a_lc1 {j : Nat} (f : D → D) (p : D → Bool) (h : AI K wi τ μ fun xs μw back => xs.length < sizeLine ∧ (∀ x ∈ xs, AT K tt (τ.set j (some x)) μw fun b μ2 => b = p x ∧ μ2 = μw) ∧ (∀ x ∈ xs, p x = true → AE K te (τ.set j (some x)) μw fun y μ2 => y = f x ∧ μ2 = μw) ∧ ∀ q, back μw q = none → Φ (.ref q) ((back μw).set q (.lst ((xs.filter p).map f)))) :
    AE K (tLc wi (gName j) tt te [j]) τ μ Φ := a_lc tg_name (fun σ H s c R k => h σ H s c R fun J xs out G H1 μw back tx c1 W g1 o1 B ⟨hz, ht, he, q⟩ => k J xs out G H1 μw back tx c1 W g1 o1 B (by
  refine ⟨fun i acc μ' => μ' = μw ∧ acc = ((xs.take i).filter p).map f, ⟨rfl, rfl⟩, ?_, ?_⟩
  · rintro i x acc μ' hx ⟨rfl, rfl⟩
    exact lc_pure_turn f p hz hx (ht x (List.mem_of_getElem? hx)) (he x (List.mem_of_getElem? hx))
  · rintro acc μ' ⟨rfl, rfl⟩ a ha
    rw [List.take_length]
    exact q a ha))
end
theorem pi_zipK {X : Cx} {K : PySem.W.Frag} {e e2 : Expr} {ta : TA} {p pos tpos : Pos} {elts : List Expr} {kk : Nat} (h : X.K = K) (hg : Gl X "zip") (hm : X.mg "zip" = none) (ha : PA X [e, e2] ta)
    (hs : starEach [e, e2] X.env = (false, eval e X.env) :: starEach [e2] X.env := by rfl) (hpl : (backTo pos (starEach [e2] X.env)).any (·.1) = false := by rfl) :
    PI X (.Tuple elts kk tpos) (.Call (.Name "zip" p) [e, e2] [] pos) (RZ.iZipA K ta) := by
  subst h
  exact RZ.pi_zipA hg hm ha hs hpl
end Z
namespace Z
open PySem L2
def Up (Φ : D → M → Prop) : D → M → Prop := fun d μ' => ∃ μ2, Sub μ2 μ' ∧ Φ d μ2
theorem up_of {Φ : D → M → Prop} {d : D} {μ2 μ' : M} (s : Sub μ2 μ') (h : Φ d μ2) : Up Φ d μ' := ⟨μ2, s, h⟩
theorem up {Φ : D → M → Prop} {d : D} {μ' : M} (h : Φ d μ') : Up Φ d μ' := ⟨μ', Sub.refl, h⟩
theorem body_okU {K : PySem.W.Frag} {H : Hp} {ts : TS} {P : PT3} {E : XK} {Ns : List Str} {vs : List V} {Q : VK} (h : spI K P vs H Q E) (hb : ∀ ds μ Φ, P ds μ Φ → AS K ts (startD Ns.length ds) μ { nx := fun _ μ' => Up Φ .non μ', rt := Up Φ }) :
    ts { nx := fun _ H' => Q .non H', rt := Q } (L2.start Ns vs) H := by
  obtain ⟨ds, μ, Φ, r, c, p, k⟩ := h
  refine hb ds μ Φ p _ H (slots_start r) c _ ⟨fun _ μ' _ H' f c' _ q => ?_, fun d μ' v H' f c' r' q => ?_, fun _ _ _ _ _ _ _ q => q.elim, fun _ _ _ _ _ _ _ q => q.elim, fun _ _ _ _ _ _ _ _ _ _ _ q => q.elim⟩
  · obtain ⟨μ2, sb, q⟩ := q
    exact k .non μ2 .non H' (f.sub sb) (c'.sub sb) .non q
  · obtain ⟨μ2, sb, q⟩ := q
    exact k d μ2 v H' (f.sub sb) (c'.sub sb) r' q
def SubB (b : Addr) (μ μ' : M) : Prop := ∀ a m, a ≠ b → μ a = some m → μ' a = some m
section
variable {μ μ' : M} {b l : Addr} {X Y : MO}
theorem sb_refl : SubB b μ μ := fun _ _ _ h => h
theorem sb_self (h : SubB b μ μ') : SubB b μ (μ'.set b Y) := fun a m n e => by rw [set_ne n]; exact h a m n e
theorem sb_new (h : SubB b μ μ') (hn : μ' l = none) : SubB b μ (μ'.set l Y) := fun a m n e => by
  have h2 := h a m n e
  rw [set_ne (fun z => by rw [z, hn] at h2; cases h2)]
  exact h2
theorem sb_sub (h : SubB b μ μ') : Sub (μ.set b X) (μ'.set b X) := fun a m e => by
  by_cases ha : a = b
  · subst ha; rw [set_same] at e ⊢; exact e
  · rw [set_ne ha] at e ⊢; exact h a m ha e
theorem sub_new (h : Sub μ μ') (hn : μ' l = none) : Sub μ (μ'.set l Y) := fun a m e => by
  have h2 := h a m e
  rw [set_ne (fun z => by rw [z, hn] at h2; cases h2)]
  exact h2
/-- a list of one's own, changed again -/
theorem sub_own (h : Sub μ μ') (hn : μ l = none) : Sub μ (μ'.set l Y) := fun a m e => by
  rw [set_ne (fun z => by rw [z, hn] at e; cases e)]
  exact h a m e
theorem none_ne {m : MO} (h : (μ.set b m) l = none) : l ≠ b := fun z => by subst z; rw [set_same] at h; cases h
theorem none_back {m : MO} (h : (μ.set b m) l = none) : μ l = none := by
  have n := none_ne h
  rw [set_ne n] at h
  exact h
theorem ne_of_some {m : MO} (h : μ l = none) (k : μ b = some m) : l ≠ b := fun z => by subst z; rw [h] at k; cases k
end
abbrev Fq := Int × Int
abbrev Pl := Fq × Fq
end Z
namespace Z
open PySem L2
section
variable {K : PySem.W.Frag} {μ μ' : M} {Φ : D → M → Prop} {b l : Addr} {X : MO}
theorem ro_isB {a b : Bool} (q : Φ (.bl (decide (a = b))) μ) : RO K rIsB (.bl a) (.bl b) μ Φ := fun H x y c r1 r2 Q k => by
  cases r1; cases r2
  exact ⟨a, b, rfl, rfl, k _ μ _ H Fr.refl c (.bl _) q⟩
theorem ro_notB {a b : Bool} (q : Φ (.bl (!decide (a = b))) μ) : RO K rNotB (.bl a) (.bl b) μ Φ := fun H x y c r1 r2 Q k => by
  cases r1; cases r2
  exact ⟨a, b, rfl, rfl, k _ μ _ H Fr.refl c (.bl _) q⟩
theorem sb_trans {μ2 : M} (h : SubB b μ μ') (k : SubB b μ' μ2) : SubB b μ μ2 := fun a m n e => k a m n (h a m n e)
end
structure Gd (n : Nat) (p : Fq) : Prop where
  pos : 0 < p.2
  s1 : Sz n p.1
  s2 : Sz n p.2
structure GdP (n : Nat) (p : Pl) : Prop where
  x : Gd n p.1
  y : Gd n p.2
theorem Gd.mono {n m : Nat} {p : Fq} (h : Gd n p) (l : n ≤ m) : Gd m p := ⟨h.pos, sz_mono h.s1 l, sz_mono h.s2 l⟩
theorem GdP.mono {n m : Nat} {p : Pl} (h : GdP n p) (l : n ≤ m) : GdP m p := ⟨h.x.mono l, h.y.mono l⟩
end Z
namespace Z
open PySem L2
def AO (K : PySem.W.Frag) (to : TO) (τ : T) (μ : M) (Θ : Option Int → M → Prop) : Prop :=
  ∀ σ H, Slots K H τ σ → Z.Con K H μ → ∀ R : Option Int → Hp → Prop, (∀ o μ' H', Fr μ μ' H H' → Z.Con K H' μ' → Θ o μ' → R o H') → to σ H R
/-- what a slice of d answers -/
def RS (K : PySem.W.Frag) (r : V → Option Int → Option Int → Hp → VK → Prop) (d : D) (lo hi : Option Int) (μ : M) (Φ : D → M → Prop) : Prop :=
  ∀ H x, Z.Con K H μ → Rel K H x d → ∀ Q : VK, (∀ z μ' v H', Fr μ μ' H H' → Z.Con K H' μ' → Rel K H' v z → Φ z μ' → Q v H') → r x lo hi H Q
def cutD (ds : List D) (lo hi : Option Int) : List D := (ds.drop (HT.sIx ds.length 0 lo)).take (HT.sIx ds.length ds.length hi - HT.sIx ds.length 0 lo)
section
variable {K : PySem.W.Frag} {τ : T} {μ μ1 μ2 : M} {H H1 H2 H' : Hp} {σ : L2.St} {Φ : D → M → Prop} {ta tl te : TE} {to tp : TO} {Θ : Option Int → M → Prop} {d e : D}
theorem ao_no (h : Θ none μ) : AO K tNoPart τ μ Θ := fun σ H s c R k => k none μ H Fr.refl c h
theorem ao_pt (h : AE K te τ μ fun d μ1 => ∃ i, d = .int i ∧ Θ (some i) μ1) : AO K (tPart te) τ μ Θ := fun σ H s c R k => h σ H s c _ fun d μ1 v H1 f1 c1 r1 ⟨i, e, q⟩ => by
  subst e
  cases r1
  exact ⟨i, rfl, k (some i) μ1 H1 f1 c1 q⟩
theorem a_sl {r : V → Option Int → Option Int → Hp → VK → Prop} (h : AE K te τ μ fun d μ1 => AO K to τ μ1 fun lo μ2 => AO K tp τ μ2 fun hi μ3 => RS K r d lo hi μ3 Φ) : AE K (L2.tSl r te to tp) τ μ Φ := fun σ H s c Q k =>
  h σ H s c _ fun d μ1 v H1 f1 c1 r1 p1 => p1 σ H1 (s.mono (f1.tx c)) c1 _ fun lo μ2 H2 f2 c2 p2 => p2 σ H2 (s.mono ((f1.trans f2).tx c)) c2 _ fun hi μ3 H3 f3 c3 p3 =>
    p3 H3 v c3 (Rel.mono ((f2.trans f3).tx c1) _ _ r1) Q fun z μ' w H' f c' rz pz => k z μ' w H' (((f1.trans f2).trans f3).trans f) c' rz pz
theorem Rels.cut {vs : List V} {ds : List D} (lo hi : Option Int) (r : Rels K H vs ds) : Rels K H (cutV vs lo hi) (cutD ds lo hi) := by
  unfold cutV cutD
  rw [r.length]
  exact (r.drop _).take _
theorem rs_ref {a : Addr} {ds : List D} {lo hi : Option Int} (h : μ a = some (.lst ds)) (q : ∀ p, μ p = none → Φ (.ref p) (μ.set p (.lst (cutD ds lo hi)))) : RS K (rSlL K) (.ref a) lo hi μ Φ := fun H x c r Q k => by
  cases r
  obtain ⟨xs, hx, hr⟩ := c a _ h
  exact ⟨a, xs, rfl, SqL.of hx, fun p hp => k _ _ _ _ (fr_put hp) (con_put (m := .lst (cutD ds lo hi)) hp c ⟨_, upd_same, Rels.mono (tx_new hp) _ _ (hr.cut lo hi)⟩) (.ref p) (q p (c.free hp))⟩
theorem rs_rol {ds : List D} {lo hi : Option Int} (q : ∀ p, μ p = none → Φ (.ref p) (μ.set p (.lst (cutD ds lo hi)))) : RS K (rSlL K) (.rol ds) lo hi μ Φ := fun H x c r Q k => by
  cases r with
  | @rol a xs _ ht hr => exact ⟨a, xs, rfl, ht.sq, fun p hp => k _ _ _ _ (fr_put hp) (con_put (m := .lst (cutD ds lo hi)) hp c ⟨_, upd_same, Rels.mono (tx_new hp) _ _ (hr.cut lo hi)⟩) (.ref p) (q p (c.free hp))⟩
/-- two lists of the store, put together -/
theorem ro_cat {a b : Addr} {ds es : List D} (h1 : μ a = some (.lst ds)) (h2 : μ b = some (.lst es)) (hz : ds.length + es.length ≤ sizeLine) (q : ∀ p, μ p = none → Φ (.ref p) (μ.set p (.lst (ds ++ es)))) : RO K rCat (.ref a) (.ref b) μ Φ := fun H x y c r1 r2 Q k => by
  cases r1
  cases r2
  obtain ⟨xs, hx, hr⟩ := c a _ h1
  obtain ⟨ys, hy, hr2⟩ := c b _ h2
  exact ⟨a, b, xs, ys, rfl, rfl, hx, hy, by rw [hr.length, hr2.length]; exact hz, fun p hp => k _ _ _ _ (fr_put hp) (con_put (m := .lst (ds ++ es)) hp c ⟨_, upd_same, Rels.mono (tx_new hp) _ _ (hr.append hr2)⟩) (.ref p) (q p (c.free hp))⟩
end
end Z
namespace ZL
open PySem PySem.Spec PyProof.Rows PySem.Calls PySem.W
section
variable {prog : Program} {w : World} {A : Around} {E : Value → Shared → Prop} {s : Shared} {z TI TO T S i1 i2 l1 l2 : Addr} {xs ys : Array Value}
/-- how the zip stands ahead of turn k, while a list S takes its pairs -/
def ZSt (h : Heap) (z TI TO i1 i2 l1 l2 S : Addr) (xs ys : Array Value) (k : Nat) : Prop :=
  (IsPair h TI (.ref i1) (.ref i2) ∧ h.IsTupleIter i1 l1 k ∧ h.IsTupleIter i2 l2 k ∧ h.IsTuple l1 xs ∧ h.IsTuple l2 ys) ∧
  ((IsZip h z TI TO .none ∧ ∃ u v, IsPair h TO u v) ∨ ∃ T f oT, IsZipHeld h z TI TO T f ∧ h.get? T = some oT ∧ T ≠ z ∧ T ≠ i1 ∧ T ≠ i2 ∧ T ≠ S)
structure Off (S z TI TO i1 i2 l1 l2 : Addr) : Prop where
  sz : S ≠ z
  sTI : S ≠ TI
  sTO : S ≠ TO
  s1 : S ≠ i1
  s2 : S ≠ i2
  sl1 : S ≠ l1
  sl2 : S ≠ l2
theorem ZSt.keep {h h' : Heap} {k : Nat} (O : Off S z TI TO i1 i2 l1 l2) (st : ZSt h z TI TO i1 i2 l1 l2 S xs ys k) (hk : ∀ b o, b ≠ S → h.get? b = some o → h'.get? b = some o) : ZSt h' z TI TO i1 i2 l1 l2 S xs ys k := by
  obtain ⟨⟨a1, a2, a3, ⟨o4, a4, b4⟩, ⟨o5, a5, b5⟩⟩, q⟩ := st
  refine ⟨⟨hk _ _ O.sTI.symm a1, a2.at fun o e => hk _ _ O.s1.symm e, a3.at fun o e => hk _ _ O.s2.symm e, ⟨o4, hk _ _ O.sl1.symm a4, b4⟩, ⟨o5, hk _ _ O.sl2.symm a5, b5⟩⟩, ?_⟩
  rcases q with ⟨q1, u, v, q2⟩ | ⟨T, f, oT, q1, q2, n1, n2, n3, n4⟩
  · exact .inl ⟨hk _ _ O.sz.symm q1, u, v, hk _ _ O.sTO.symm q2⟩
  · exact .inr ⟨T, f, oT, hk _ _ O.sz.symm q1, hk _ _ n4 q2, n1, n2, n3, n4⟩
end
/-- what was made: a row of new pairs, each at a greater place -/
structure Row (xs ys : Array Value) (lo : Addr) (h : Heap) (as : List Addr) : Prop where
  rise : as.Pairwise (· < ·)
  above : ∀ a ∈ as, lo < a
  at_ : ∀ (j : Nat) (a : Addr), as[j]? = some a → ∃ x y, xs[j]? = some x ∧ ys[j]? = some y ∧ IsPair h a x y
section
open L2
def look : List Addr → List (V × V) → Addr → Option (V × V)
  | a :: as, z :: zs, b => if b = a then some z else look as zs b
  | _, _, _ => none
theorem look_at : ∀ {as : List Addr} {zs : List (V × V)} {j : Nat} {a : Addr} {z : V × V}, as.Nodup → as[j]? = some a → zs[j]? = some z → look as zs a = some z
  | [], _, _, _, _, _, h, _ => by simp at h
  | _ :: _, [], _, _, _, _, _, h => by simp at h
  | b :: as, y :: zs, 0, a, z, _, h, k => by
    have e1 : b = a := by simpa using h
    have e2 : y = z := by simpa using k
    unfold look
    rw [if_pos e1.symm, e2]
  | b :: as, y :: zs, j + 1, a, z, hn, h, k => by
    have hn' := List.nodup_cons.mp hn
    have h' : as[j]? = some a := by simpa using h
    have ne : a ≠ b := fun e => hn'.1 (by rw [← e]; exact List.mem_of_getElem? h')
    unfold look
    rw [if_neg ne]
    exact look_at hn'.2 h' (by simpa using k)
theorem look_out : ∀ {as : List Addr} {zs : List (V × V)} {a : Addr}, a ∉ as → look as zs a = none
  | [], _, _, _ => by unfold look; rfl
  | _ :: _, [], _, _ => by unfold look; rfl
  | b :: as, y :: zs, a, h => by
    unfold look
    rw [if_neg (fun e => h (by rw [e]; exact List.mem_cons_self))]
    exact look_out fun e => h (List.mem_cons_of_mem _ e)
def lay (H : Hp) (S : Addr) (as : List Addr) (zs : List (V × V)) : Hp := fun b => if b = S then some (.lst (as.map V.ref)) else match look as zs b with
  | some (x, y) => some (.tup [x, y])
  | none => H b
variable {X : Cx} {e e2 : Expr} {ta : TA} {p p2 cpos pos : Pos}
theorem laid {pins : List (Addr × Obj)} {σ : L2.St} {H : Hp} {s : Shared} {h' : Heap} {S : Addr} {acc : Array Value} {c : Nat} {as : List Addr} {xs ys : List V} {us vs : List Value} (I : Inv X pins σ H s) (hS0 : s.heap.objs.size ≤ S) (hk : ∀ b o, s.heap.get? b = some o → h'.get? b = some o) (rx : Vals xs us) (ry : Vals ys vs)
    (hS : h'.get? S = some { cls := .type "list", dict := none, data := .seq acc c, slots := #[] }) (hz : min us.length vs.length ≤ sizeLine) (hl : as.length = min us.length vs.length) (G : Row us.toArray vs.toArray S h' as) (hacc : acc.toList = as.map Value.ref) :
    Inv X pins σ (lay H S as (xs.zip ys)) { s with heap := h' } ∧ (∀ b o, H b = some o → lay H S as (xs.zip ys) b = some o) ∧ H S = none ∧ (∀ (j : Nat) t, as[j]? = some t → H t = none ∧ t ≠ S ∧ ∃ x y, xs[j]? = some x ∧ ys[j]? = some y ∧ lay H S as (xs.zip ys) t = some (.tup [x, y])) := by
  have nd : as.Nodup := List.Pairwise.imp (fun {a b} (h : a < b) => Nat.ne_of_lt h) G.rise
  have newS : H S = none := I.hok.fresh hS0
  have new : ∀ t ∈ as, H t = none := fun t ht => I.hok.fresh (Nat.le_of_lt (Nat.lt_of_le_of_lt hS0 (G.above t ht)))
  have offS : ∀ t ∈ as, t ≠ S := fun t ht => Nat.ne_of_gt (G.above t ht)
  have low : ∀ b o, s.heap.get? b = some o → b ∉ as ∧ b ≠ S := fun b o e => ⟨fun z => absurd (Heap.lt_size e) (Nat.not_lt.mpr (Nat.le_of_lt (Nat.lt_of_le_of_lt hS0 (G.above b z)))), Nat.ne_of_lt (Nat.lt_of_lt_of_le (Heap.lt_size e) hS0)⟩
  have eS : lay H S as (xs.zip ys) S = some (.lst (as.map V.ref)) := by unfold lay; rw [if_pos rfl]
  have off : ∀ b, b ∉ as → b ≠ S → lay H S as (xs.zip ys) b = H b := fun b h1 h2 => by unfold lay; rw [if_neg h2, look_out h1]
  have kp : ∀ b u, H b = some u → lay H S as (xs.zip ys) b = some u := fun b u e => by
    rw [off b (fun z => by rw [new b z] at e; cases e) (fun z => by rw [z, newS] at e; cases e)]; exact e
  have at_ : ∀ (j : Nat) t, as[j]? = some t → ∃ x y u v, xs[j]? = some x ∧ ys[j]? = some y ∧ us[j]? = some u ∧ vs[j]? = some v ∧ RelV x u ∧ RelV y v ∧ lay H S as (xs.zip ys) t = some (.tup [x, y]) ∧ IsPair h' t u v := fun j t hj => by
    obtain ⟨u, v, e1, e2, e3⟩ := G.at_ j t hj
    have e1 : us[j]? = some u := by simpa using e1
    have e2 : vs[j]? = some v := by simpa using e2
    have hj1 : j < xs.length := by rw [rx.length]; exact (List.getElem?_eq_some_iff.mp e1).1
    have hj2 : j < ys.length := by rw [ry.length]; exact (List.getElem?_eq_some_iff.mp e2).1
    obtain ⟨u', f1, r1⟩ := rx.get (List.getElem?_eq_getElem hj1)
    obtain ⟨v', f2, r2⟩ := ry.get (List.getElem?_eq_getElem hj2)
    rw [e1] at f1; cases f1
    rw [e2] at f2; cases f2
    refine ⟨xs[j], ys[j], u, v, List.getElem?_eq_getElem hj1, List.getElem?_eq_getElem hj2, e1, e2, r1, r2, ?_, e3⟩
    unfold lay
    rw [if_neg (offS t (List.mem_of_getElem? hj)), look_at (z := (xs[j], ys[j])) nd hj (List.getElem?_zip_eq_some.mpr ⟨List.getElem?_eq_getElem hj1, List.getElem?_eq_getElem hj2⟩)]
  refine ⟨?_, kp, newS, fun j t hj => ?_⟩
  · refine I.call' (ch := []) rfl ⟨fun b o q _ _ _ => hk b o q, fun b o q _ _ _ => ⟨o.slots, hk b o q⟩, fun b o q n _ => ?_, fun b o q _ => ⟨o, hk b o q⟩, fun b xs q => kp b _ q, fun b o u q => kp b _ q, fun b ps q => ⟨#[], by rw [kp b _ q]; simp⟩⟩ (fun b u q => ?_) I.bare fun b z => by simp at z
    · obtain ⟨z1, z2⟩ := low b o q
      rw [off b z1 z2]; exact n
    · by_cases hb : b ∈ as
      · obtain ⟨j, hj⟩ := List.mem_iff_getElem?.mp hb
        obtain ⟨x, y, u', v', _, _, _, _, r1, r2, e3, e4⟩ := at_ j b hj
        rw [e3] at q; cases q
        exact ⟨by show 2 ≤ sizeLine; decide, [u', v'], .cons r1 (.cons r2 .nil), ⟨_, e4, rfl, _, rfl⟩⟩
      · by_cases hb2 : b = S
        · rw [hb2, eS] at q; cases q
          rw [hb2]
          refine ⟨by rw [List.length_map, hl]; exact hz, acc.toList, c, by rw [hacc]; exact LiI.vals_refs as, ?_⟩
          rw [Array.toArray_toList]; exact hS
        · rw [off b hb hb2] at q
          exact (I.hok b u q).stay (fun d v _ y => hk d v y) (fun d y => kp d _ y) fun d xs y => kp d _ y
  · obtain ⟨x, y, _, _, e1, e2, _, _, _, _, e3, _⟩ := at_ j t hj
    exact ⟨new t (List.mem_of_getElem? hj), offS t (List.mem_of_getElem? hj), x, y, e1, e2, e3⟩
end
end ZL
namespace Z
open PySem L2
end Z
namespace Z
open PySem L2
section
variable {K : PySem.W.Frag} {τ : T} {μ μ1 μ2 : M} {H H1 H2 H' : Hp} {σ : L2.St} {Φ : D → M → Prop} {ta tl te : TE} {tt tt1 : TT} {g g1 : TG} {wi wi1 : TI} {d e : D}
theorem cutD_all {ds : List D} {lo hi : Option Int} (h : HT.sIx ds.length 0 lo = 0 ∧ HT.sIx ds.length ds.length hi = ds.length) : cutD ds lo hi = ds := by
  unfold cutD
  rw [h.1, h.2]
  simp
theorem rs_tupA {ds : List D} {lo hi : Option Int} (q : Φ (.tup (cutD ds lo hi)) μ) : RS K (rSlA K) (.tup ds) lo hi μ Φ := fun H x c r Q k => by
  cases r with
  | @tup a xs _ ht hr =>
    refine ⟨a, xs, rfl, ht.sq, fun hw => ?_, fun hw p hp => k _ μ _ _ (fr_new hp) (con_new hp c) (.tup (.inl upd_same) (Rels.mono (tx_new hp) _ _ (hr.cut lo hi))) q⟩
    rw [hr.length] at hw
    rw [cutD_all hw] at q
    exact k _ μ _ _ Fr.refl c (.tup ht hr) q
theorem op_catAK {X : Cx} {K : PySem.W.Frag} (h : X.K = K) : OpR X (binaryOp .Add) (rCatA K) := by subst h; exact op_catA
theorem sl_tupAK {X : Cx} {K : PySem.W.Frag} (h : X.K = K) : SlR X (rSlA K) := by subst h; exact sl_tupA
theorem sl_listK {X : Cx} {K : PySem.W.Frag} (h : X.K = K) : SlR X (rSlL K) := by subst h; exact sl_list
theorem ro_catA {ds es : List D} (hz : ds.length + es.length ≤ sizeLine) (q : Φ (.tup (ds ++ es)) μ) : RO K (rCatA K) (.tup ds) (.tup es) μ Φ := fun H x y c r1 r2 Q k => by
  cases r1 with
  | @tup a xs _ ht hr =>
    cases r2 with
    | @tup b ys _ ht2 hr2 =>
      refine ⟨a, b, xs, ys, rfl, rfl, ht.sq, ht2.sq, by rw [hr.length, hr2.length]; exact hz, fun z => ?_, fun _ z => ?_, fun _ _ p hp => ?_⟩
      · subst z; cases hr; exact k _ μ _ _ Fr.refl c (.tup ht2 hr2) q
      · subst z; cases hr2; rw [List.append_nil] at q; exact k _ μ _ _ Fr.refl c (.tup ht hr) q
      · exact k _ μ _ _ (fr_new hp) (con_new hp c) (.tup (.inl upd_same) (Rels.mono (tx_new hp) _ _ (hr.append hr2))) q
variable {Ψ : List D → M → (M → M) → Prop}
theorem slots_wipe {vs : List Nat} (hv : ∀ j, j ∈ vs → ∀ d, τ[j]? ≠ some (some d)) (s : Slots K H τ σ) : Slots K H τ (wipe σ vs) := ⟨by rw [wipe_length]; exact s.1, fun i d e => by
  obtain ⟨v, h1, h2⟩ := s.2 i d e
  exact ⟨v, by rw [wipe_at, if_neg fun z => hv i z d e]; exact h1, h2⟩⟩
theorem fr_set2 {a : Addr} {m m' : MO} (f : Fr μ μ1 H H1) : Fr (μ.set a m) (μ1.set a m') H H1 := fun x o n e => by
  have hx : x ≠ a := fun z => by rw [z, set_same] at n; cases n
  rw [set_ne hx] at n
  obtain ⟨e1, n1⟩ := f x o n e
  exact ⟨e1, by rw [set_ne hx]; exact n1⟩
theorem con_set {a : Addr} {m : MO} (n : μ a = none) (c : Z.Con K H (μ.set a m)) : Z.Con K H μ := c.sub (Sub.set n)
structure LcIn (K : PySem.W.Frag) (Dl : Addr) (μ0 : M) (H0 : Hp) (acc0 acc : List D) (μ' : M) (H' : Hp) : Prop where
  fr : Fr (μ0.set Dl (.lst acc0)) (μ'.set Dl (.lst acc)) H0 H'
  con : Z.Con K H' (μ'.set Dl (.lst acc))
  no : μ' Dl = none
theorem lc_stepIn {js : List Nat} {dec : D → List D → Prop} {Dl : Addr} {μ0 μ' : M} {H0 : Hp} {acc0 acc : List D} {P : List D → M → Prop} {Nx : Hp → Prop} {v : V} {x : D} (hg : TgOk K g js dec) (s : Slots K H' τ σ) (L : LcIn K Dl μ0 H0 acc0 acc μ' H') (rx : Rel K H' v x) (ht : LcTurn K τ tt te js dec x acc μ' P)
    (hn : ∀ acc2 μ2 H2, LcIn K Dl μ0 H0 acc0 acc2 μ2 H2 → P acc2 μ2 → Nx H2) :
    g v (wipe σ js) H' fun σ2 H2 => wipe σ2 js = wipe σ js ∧ tt σ2 H2 fun b H3 => if b = true then te σ2 H3 fun y H4 => ∃ acc, H4 Dl = some (.lst acc) ∧ acc.length < sizeLine ∧ Nx (upd H4 Dl (.lst (acc ++ [y]))) else Nx H3 := by
  obtain ⟨xs, hd, hl, ht⟩ := ht
  obtain ⟨vs0, hv0, hr0⟩ := L.con Dl _ set_same
  have c' : Z.Con K H' μ' := con_set L.no L.con
  refine hg x xs v _ H' hd rx _ fun vs hvs => ⟨by rw [wipe_sets (fun _ h => h), wipe_wipe], ?_⟩
  have s' : Slots K H' (sets τ js xs) (sets (wipe σ js) js vs) := slots_block s hvs hl
  refine ht _ H' s' c' _ fun b μ1 H1 f1 c1 p => ?_
  have n1 : μ1 Dl = none := (f1 Dl _ L.no hv0).2
  have h1 : H1 Dl = some (.lst vs0) := (f1 Dl _ L.no hv0).1
  cases b with
  | false => exact hn acc μ1 H1 ⟨L.fr.trans (fr_set2 f1), con_back (m := .lst acc) c1 ⟨vs0, h1, Rels.mono (f1.tx c') _ _ hr0⟩, n1⟩ p
  | true =>
    refine (show AE K te _ μ1 _ from p) _ H1 (s'.mono (f1.tx c')) c1 _ fun y μ2 w H2 f2 c2 r2 ⟨hz, p2⟩ => ?_
    have n2 : μ2 Dl = none := (f2 Dl _ n1 h1).2
    have h2 : H2 Dl = some (.lst vs0) := (f2 Dl _ n1 h1).1
    have hr2 : Rels K H2 vs0 acc := Rels.mono ((f1.trans f2).tx c') _ _ hr0
    obtain ⟨t3, c3⟩ := upd_out (o := .lst (vs0 ++ [w])) c2 n2 h2 (fun _ z => by cases z)
    refine ⟨vs0, h2, by rw [hr0.length]; exact hz, hn _ μ2 _ ⟨fun a o n e => ?_, con_back (m := .lst (acc ++ [y])) c3 ⟨_, upd_same, Rels.mono t3 _ _ (hr2.append (.cons r2 .nil))⟩, n2⟩ p2⟩
    have ha : a ≠ Dl := fun z => by rw [z, set_same] at n; cases n
    obtain ⟨e2, m2⟩ := (L.fr.trans (fr_set2 (m := .lst acc) (m' := .lst acc) (f1.trans f2))) a o n e
    exact ⟨by rw [upd_ne ha]; exact e2, by rw [set_ne ha] at m2 ⊢; exact m2⟩
theorem a_lc2 {js js1 vs : List Nat} {dec dec1 : D → List D → Prop} (hg : TgOk K g js dec) (hg1 : TgOk K g1 js1 dec1) (hv : ∀ j, j ∈ vs → ∀ d, τ[j]? ≠ some (some d)) (hjs : ∀ j ∈ js, j ∈ vs)
    (h : AI K wi τ μ fun xs μw back => ∃ P : Nat → List D → M → Prop, P 0 [] μw ∧
      (∀ (i : Nat) x acc μ', xs[i]? = some x → P i acc μ' → ∃ xd, dec x xd ∧ xd.length = js.length ∧ AT K tt (sets τ js xd) μ' fun b μ1 => if b = true then
          ∀ Dl, μ1 Dl = none → AI K wi1 (sets τ js xd) (μ1.set Dl (.lst acc)) fun ys μw1 back1 => ∃ (μv : M) (P1 : Nat → List D → M → Prop), μw1 = μv.set Dl (.lst acc) ∧ μv Dl = none ∧ P1 0 acc μv ∧
            (∀ (j : Nat) y acc μ', ys[j]? = some y → P1 j acc μ' → LcTurn K (sets τ js xd) tt1 te js1 dec1 y acc μ' (P1 (j + 1))) ∧
            ∀ acc' μ', P1 ys.length acc' μ' → μ' Dl = none → ∃ μo : M, back1 (μ'.set Dl (.lst acc')) = μo.set Dl (.lst acc') ∧ μo Dl = none ∧ P (i + 1) acc' μo
        else P (i + 1) acc μ1) ∧
      ∀ acc μ', P xs.length acc μ' → ∀ p, back μ' p = none → Φ (.ref p) ((back μ').set p (.lst acc))) :
    AE K (tLc2 wi g tt wi1 g1 tt1 te vs js1) τ μ Φ := fun σ H s c Q k => by
  refine h σ H s c _ fun J xs out G H1 μw back tx c1 W g1' o1 B ⟨P, p0, hs, hd⟩ Dl hD => ?_
  have s1 := slots_wipe hv (s.mono tx)
  refine ⟨fun i m H' => m = xs.length - i ∧ i ≤ xs.length ∧ ∃ acc μ', LcAt K Dl μw H1 acc μ' H' ∧ P i acc μ', ⟨xs.length, by omega, Nat.zero_le _, [], μw, lc_start c1 hD, p0⟩, ?_⟩
  rintro i m H' ⟨rfl, hi, acc, μ', L, p⟩
  have gH : G H' := W.keep _ _ _ _ c1 o1 g1' L.fr
  by_cases hlt : i < xs.length
  · refine .inr ⟨W.go i H' hlt gH, fun H2 => ∃ acc2 μ2, LcAt K Dl μw H1 acc2 μ2 H2 ∧ P (i + 1) acc2 μ2, fun H2 ⟨acc2, μ2, L2, p2⟩ => ⟨xs.length - (i + 1), by omega, rfl, hlt, acc2, μ2, L2, p2⟩, fun v H2 y => ?_⟩
    obtain ⟨x, hx, rx, hH⟩ := W.yld i H' v H2 hlt gH y
    have L2 : LcAt K Dl μw H1 acc μ' H2 := by
      rcases hH with e | ⟨T0, vs, hT, e⟩
      · rw [e]; exact L
      · obtain ⟨f2, c2⟩ := yld_ok (vs := vs) L.con hT
        obtain ⟨ws, hw, hr⟩ := L.at_
        rw [e]
        exact ⟨L.fr.trans f2, c2, L.no, ws, by rw [upd_ne (fun z => by rw [z, hT] at hw; cases hw)]; exact hw, Rels.mono (tx_new hT) _ _ hr⟩
    obtain ⟨xd, hdx, hlx, hat⟩ := hs i x acc μ' hx p
    refine hg x xd v _ H2 hdx rx _ fun us hus => ⟨by rw [wipe_sets hjs, wipe_wipe], ?_⟩
    have s2 : Slots K H2 (sets τ js xd) (sets (wipe σ vs) js us) := slots_sets hus (s1.mono (L2.fr.tx c1))
    refine hat _ H2 s2 L2.con _ fun b μ1 H3 f3 c3 p3 => ?_
    obtain ⟨vs0, hv0, hr0⟩ := L2.at_
    have n3 : μ1 Dl = none := (f3 Dl _ L2.no hv0).2
    have h3 : H3 Dl = some (.lst vs0) := (f3 Dl _ L2.no hv0).1
    have hr3 : Rels K H3 vs0 acc := Rels.mono (f3.tx L2.con) _ _ hr0
    cases b with
    | false => exact ⟨acc, μ1, ⟨L2.fr.trans f3, c3, n3, vs0, h3, hr3⟩, p3⟩
    | true =>
      have s3 : Slots K H3 (sets τ js xd) (sets (wipe σ vs) js us) := s2.mono (f3.tx L2.con)
      have c3' : Z.Con K H3 (μ1.set Dl (.lst acc)) := con_back (m := .lst acc) c3 ⟨vs0, h3, hr3⟩
      refine (show ∀ Dl, μ1 Dl = none → _ from p3) Dl n3 _ H3 s3 c3' _ fun J1 ys out1 G1 H4 μw1 back1 tx1 c4 W1 gg1 oo1 B1 ⟨μv, P1, ew, nv, q0, qs, qd⟩ => ?_
      subst ew
      have s4 := s3.mono tx1
      refine ⟨fun j m H' => m = ys.length - j ∧ j ≤ ys.length ∧ ∃ acc' μ', LcIn K Dl μv H4 acc acc' μ' H' ∧ P1 j acc' μ', ⟨ys.length, by omega, Nat.zero_le _, acc, μv, ⟨Fr.refl, c4, nv⟩, q0⟩, ?_⟩
      rintro j m H5 ⟨rfl, hj, acc5, μ5, L5, p5⟩
      have gH5 : G1 H5 := W1.keep _ _ _ _ c4 oo1 gg1 L5.fr
      by_cases hlt5 : j < ys.length
      · refine .inr ⟨W1.go j H5 hlt5 gH5, fun H6 => ∃ acc' μ', LcIn K Dl μv H4 acc acc' μ' H6 ∧ P1 (j + 1) acc' μ', fun H6 ⟨acc6, μ6, L6, p6⟩ => ⟨ys.length - (j + 1), by omega, rfl, hlt5, acc6, μ6, L6, p6⟩, fun v6 H6 y6 => ?_⟩
        obtain ⟨x6, hx6, rx6, hH6⟩ := W1.yld j H5 v6 H6 hlt5 gH5 y6
        have L6 : LcIn K Dl μv H4 acc acc5 μ5 H6 := by
          rcases hH6 with e | ⟨T0, vs, hT, e⟩
          · rw [e]; exact L5
          · obtain ⟨f2, c2⟩ := yld_ok (vs := vs) L5.con hT
            rw [e]
            exact ⟨L5.fr.trans f2, c2, L5.no⟩
        exact lc_stepIn hg1 (s4.mono (L6.fr.tx c4)) L6 rx6 (qs j x6 acc5 μ5 hx6 p5) fun acc7 μ7 H7 L7 p7 => ⟨acc7, μ7, L7, p7⟩
      · have e : j = ys.length := by omega
        subst e
        obtain ⟨μo, eo, no, po⟩ := qd acc5 μ5 p5 L5.no
        have fb := B1.fr _ _ L5.fr
        have cb := B1.con _ _ L5.fr L5.con
        rw [eo] at fb cb
        obtain ⟨vs9, hv9, hr9⟩ := cb Dl _ set_same
        refine .inl ⟨W1.stop _ H5 (Nat.le_refl _) gH5, acc5, μo, ⟨fun a o n e => ?_, con_set no cb, no, vs9, hv9, hr9⟩, po⟩
        have ha : a ≠ Dl := fun z => by rw [z, hD] at e; cases e
        obtain ⟨e3, n3'⟩ := (L2.fr.trans f3) a o n e
        obtain ⟨e5, n5⟩ := fb a o (by rw [set_ne ha]; exact n3') e3
        exact ⟨e5, by rw [set_ne ha] at n5; exact n5⟩
  · have e : i = xs.length := by omega
    subst e
    obtain ⟨vs, hv, hr⟩ := L.at_
    refine .inl ⟨W.stop _ H' (Nat.le_refl _) gH, ?_⟩
    have hbn : back μ' Dl = none := B.nw _ _ hD L.no
    have fb := B.fr _ _ L.fr
    have cb := B.con _ _ L.fr L.con
    refine k _ _ _ H' (fun b o n e => ?_) (con_back (m := .lst acc) cb ⟨vs, hv, hr⟩) (.ref Dl) (hd acc μ' p Dl hbn)
    obtain ⟨e2, n2⟩ := fb b o n e
    have hb : b ≠ Dl := fun z => by
      have e3 := B.old b o n e
      rw [z, hD] at e3; cases e3
    exact ⟨e2, by rw [set_ne hb]; exact n2⟩
end
end Z
namespace Z
open PySem L2
/-- plain, and n deep at most -/
structure OkN (n : Nat) (d : D) : Prop where
  p : D.plain d = true
  l : (D.py d).canLay0 = true
  d : (D.py d).depth ≤ n
theorem OkN.mono {n m : Nat} {d : D} (h : OkN n d) (l : n ≤ m) : OkN m d := ⟨h.p, h.l, Nat.le_trans h.d l⟩
theorem OkN.ok {n : Nat} {d : D} (h : OkN n d) (l : n ≤ 64) : D.ok d = true := by
  unfold D.ok SeqAt.shaped
  rw [h.p, h.l, decide_eq_true (Nat.le_trans h.d l)]
  rfl
theorem okn_int {i : Int} : OkN 0 (.int i) := ⟨by simp only [D.plain], by simp only [D.py, PyData.canLay0], by simp only [D.py, PyData.depth]; exact Nat.le_refl _⟩
theorem okn_all {n : Nat} : ∀ {ds : List D}, (∀ x ∈ ds, OkN n x) → D.plains ds = true ∧ PyData.canLayAll0 (D.pys ds) = true ∧ PyData.depthAll (D.pys ds) ≤ n
  | [], _ => ⟨by simp only [D.plains], by simp only [D.pys, PyData.canLayAll0], by simp only [D.pys, PyData.depthAll]; exact Nat.zero_le _⟩
  | x :: ds, h => by
    obtain ⟨h1, h2, h3⟩ := okn_all (ds := ds) fun y hy => h y (List.mem_cons_of_mem _ hy)
    have hx := h x List.mem_cons_self
    refine ⟨by simp only [D.plains, hx.p, h1, Bool.and_self], by simp only [D.pys, PyData.canLayAll0, hx.l, h2, Bool.and_self], ?_⟩
    simp only [D.pys, PyData.depthAll]
    exact Nat.max_le.mpr ⟨hx.d, h3⟩
theorem okn_tup {n : Nat} {ds : List D} (h : ∀ x ∈ ds, OkN n x) : OkN (n + 1) (.tup ds) := by
  obtain ⟨h1, h2, h3⟩ := okn_all h
  exact ⟨by simp only [D.plain]; exact h1, by simp only [D.py, PyData.canLay0]; exact h2, by simp only [D.py, PyData.depth]; omega⟩
theorem okn_pt {x y : Int} : OkN 1 (pt x y) := okn_tup fun z hz => by
  simp only [List.mem_cons, List.not_mem_nil, or_false] at hz
  rcases hz with rfl | rfl <;> exact okn_int
mutual
def D.it : D → Bool
  | .int _ => true
  | .tup ds => D.its ds
  | _ => false
def D.its : List D → Bool
  | [] => true
  | d :: ds => D.it d && D.its ds
end
mutual
theorem eqv_it : ∀ (d e : D), D.it d = true → D.it e = true → (PyData.eqv (D.py d) (D.py e) = true ↔ d = e)
  | .int i, .int j, _, _ => by simp [D.py, PyData.eqv]
  | .int i, .tup es, _, _ => by simp [D.py, PyData.eqv]
  | .tup ds, .int j, _, _ => by simp [D.py, PyData.eqv]
  | .tup ds, .tup es, h, k => by
    simp only [D.it] at h k
    simp only [D.py, PyData.eqv, D.tup.injEq]
    exact eqv_its ds es h k
  | .non, _, h, _ => by simp [D.it] at h
  | .bl _, _, h, _ => by simp [D.it] at h
  | .str _, _, h, _ => by simp [D.it] at h
  | .ty _, _, h, _ => by simp [D.it] at h
  | .rol _, _, h, _ => by simp [D.it] at h
  | .ref _, _, h, _ => by simp [D.it] at h
  | .int _, .non, _, h => by simp [D.it] at h
  | .int _, .bl _, _, h => by simp [D.it] at h
  | .int _, .str _, _, h => by simp [D.it] at h
  | .int _, .ty _, _, h => by simp [D.it] at h
  | .int _, .rol _, _, h => by simp [D.it] at h
  | .int _, .ref _, _, h => by simp [D.it] at h
  | .tup _, .non, _, h => by simp [D.it] at h
  | .tup _, .bl _, _, h => by simp [D.it] at h
  | .tup _, .str _, _, h => by simp [D.it] at h
  | .tup _, .ty _, _, h => by simp [D.it] at h
  | .tup _, .rol _, _, h => by simp [D.it] at h
  | .tup _, .ref _, _, h => by simp [D.it] at h
theorem eqv_its : ∀ (ds es : List D), D.its ds = true → D.its es = true → (PyData.eqvAll (D.pys ds) (D.pys es) = true ↔ ds = es)
  | [], [], _, _ => by simp [D.pys, PyData.eqvAll]
  | [], e :: es, _, _ => by simp [D.pys, PyData.eqvAll]
  | d :: ds, [], _, _ => by simp [D.pys, PyData.eqvAll]
  | d :: ds, e :: es, h, k => by
    simp only [D.its, Bool.and_eq_true] at h k
    have h1 := eqv_it d e h.1 k.1
    have h2 := eqv_its ds es h.2 k.2
    simp only [D.pys, PyData.eqvAll, Bool.and_eq_true, List.cons.injEq]
    rw [h1, h2]
end
end Z
namespace Z
open PySem L2
section
variable {K : PySem.W.Frag} {μ μ' : M} {Φ : D → M → Prop} {a b l : Addr} {X Y : MO}
theorem sb_own (h : SubB b μ μ') (hn : μ l = none) : SubB b μ (μ'.set l Y) := fun a m n e => by
  rw [set_ne (fun z => by subst z; rw [hn] at e; cases e)]
  exact h a m n e
theorem cut1 {ds : List D} : cutD ds (some 1) none = ds.drop 1 := by
  unfold cutD
  have e1 : HT.sIx ds.length 0 (some 1) = min 1 ds.length := HT.sIx_nat ds.length 0 1
  rw [e1, HT.sIx_none]
  rcases ds with _ | ⟨x, ds⟩
  · simp
  · have e2 : min 1 (x :: ds).length = 1 := by simp only [List.length_cons]; omega
    rw [e2]
    simp
/-- a list of the store against an empty one -/
theorem ro_neNil {n : Nat} {ds : List D} (h1 : μ a = some (.lst ds)) (h2 : μ b = some (.lst [])) (ok : ∀ x ∈ ds, OkN n x) (hn : n < 64) (q : Φ (.bl (!ds.isEmpty)) μ) : RO K (rNeD K) (.ref a) (.ref b) μ Φ := fun H x y c r1 r2 Q k => by
  cases r1; cases r2
  obtain ⟨xs, hx, hr⟩ := c a _ h1
  obtain ⟨ys, hy, hr2⟩ := c b _ h2
  obtain ⟨p1, p2, p3⟩ := okn_all ok
  cases hr2
  have e : PyData.eqv (.list (D.pys ds)) (.list (D.pys [])) = ds.isEmpty := by
    cases ds <;> simp [D.pys, PyData.eqv, PyData.eqvAll]
  refine ⟨.list (D.pys ds), .list [], .lst (SqL.of hx) (Rels.dp _ _ hr p1), .lst (SqL.of hy) .nil, ?_, ?_, ?_⟩
  · unfold SeqAt.shaped
    rw [Bool.and_eq_true]
    exact ⟨by simp only [PyData.canLay0]; exact p2, decide_eq_true (by simp only [PyData.depth]; omega)⟩
  · rfl
  · have e' : PyData.eqv (.list (D.pys ds)) (.list []) = ds.isEmpty := by simpa [D.pys] using e
    rw [e']
    exact k _ μ _ H Fr.refl c (.bl _) q
end
end Z
namespace PySem.HandSPX
open PySem PySem.Spec PySem.Calls
structure NewIn (B : String) (tl : List Value) : Prop where
  b : tl.contains (.type B) = true
  a : tl.contains (.type "AttributeError") = false
  n : tl.contains (.type "NameError") = false
section
variable {prog : Program} {w : World} {A : Around} {E : Value → Shared → Prop} {h : Heap} {g : Array GenState} {d : Drawn} {t : Nat} {os : OsState} {C : Addr} {B newId initId : String} {bmB rest : List Value}
/-- the class of the text at C: its objects are made by newId, B is of its chain, the two classes with fields of their own are not -/
structure OwnAt (h : Heap) (C : Addr) (B newId : String) : Prop where
  obj : ∃ (nm q : Str) (N : Addr) (bs bm : List Value) (hdct : Bool) (sn : List Str) (sub : List Value) (ab : Bool) (col : Option Bool) (dd : Option Addr) (k0 k1 k2 k3 k5 : Option Value), h.get? C = some (excClassObj nm q C N bs bm hdct sn sub ab col dd k0 k1 k2 k3 k5 newId) ∧
    (Value.ref C :: bm).contains (.type B) = true ∧ (Value.ref C :: bm).contains (.type "AttributeError") = false ∧ (Value.ref C :: bm).contains (.type "NameError") = false
/-- newId may be asked for such an object -/
theorem OwnAt.asked (c : OwnAt h C B newId) (F : ExcBaseFacts B newId initId bmB) {M : Model} {Q : Unit → Shared → Prop} (q : Q () ⟨h, g, d, t, os⟩) : wpAny M A (checkBuiltinCall newId ⟨.ref C :: rest, []⟩) Q E ⟨h, g, d, t, os⟩ := by
  obtain ⟨_, _, _, _, _, _, _, _, _, _, _, _, _, _, _, _, at_, isB, _⟩ := c.obj
  have plain := F.noStar
  simp only [checkBuiltinCall, F.newKind, F.newSplit, F.newRow]
  repeat' first
    | refine wpAny_loadPart_at at_ ?_
    | (refine wpAny_isSubtype_exc at_ ?_; rw [isB])
    | refine wpAny_staticBase_exc at_ ?_
    | refine wpAny_madeBy_exc at_ ?_
    | simp only [bne_self_eq_false, Bool.false_eq_true, if_false]
    | wp_step
  exact q
/-- what newId lays: the tuple of the arguments, then the object -/
theorem OwnAt.laid (c : OwnAt h C B newId) (F : ExcBaseFacts B newId initId bmB) (few : rest.length ≤ sizeLine) {R : Result → Shared → Prop}
    (q : R (.ok (.ret (.ref (h.objs.size + 1)))) ⟨(h.push (W.kdv_tup rest)).push (excO C h.objs.size), g, d, t, os⟩) : codeAny (model prog w) A (.builtin newId ⟨.ref C :: rest, []⟩) R ⟨h, g, d, t, os⟩ := by
  obtain ⟨_, _, _, _, _, _, _, _, _, _, _, _, _, _, _, _, at_, isB, notA, notN⟩ := c.obj
  have ends := F.ends
  apply codeAny_builtinAt F.entry
  unfold Builtin.«BaseException.__new__»
  apply wpAt_bind
  show wpAt _ _ _ (stack >>= _) _ _ _
  apply wpAt_bind
  apply wpAt_stack
  intro top below
  apply wpAt_of_wpAny
  wp_walk
  apply wpAt_of_wpAny
  rw [F.owner]
  repeat' first
    | with_reducible refine wpAny_madeHere_exc F.canon at_ ?_
    | with_reducible refine wpAny_loadPart_at at_ ?_
    | (with_reducible refine wpAny_isSubtype_exc at_ ?_; simp only [isB, notA, notN])
    | wp_step
  rw [show h.objs.size + 1 = (h.push (W.kdv_tup rest)).objs.size from (Heap.size_push ..).symm] at q
  exact q
/-- type.__call__ at C: laid, then given to its own __init__, which gives None -/
theorem OwnAt.text (c : OwnAt h C B newId) (F : ExcBaseFacts B newId initId bmB) (few : rest.length ≤ sizeLine) {fI : Addr} {Q : Fin → Shared → Prop} (init : W.Looks (model prog w) h (typeLookup (.ref C) "__init__") (some (.ref fI)))
    (bind : ∀ self, W.Looks (model prog w) h (bindSpecial (.ref fI) self) (.ref fI, [self]))
    (q : codeAny (model prog w) A (.call (.ref fI) ⟨.ref (h.objs.size + 1) :: rest, []⟩) (fun r z => match r with | .ok (.ret v) => v = .none ∧ Q (.done (.ret (.ref (h.objs.size + 1)))) z | .ok _ => False | .error e => E e z)
      ⟨(h.push (W.kdv_tup rest)).push (excO C h.objs.size), g, d, t, os⟩) : wpAny (model prog w) A (Builtin.«type.__call__» ⟨.ref C :: rest, []⟩) Q E ⟨h, g, d, t, os⟩ := by
  have c' := c
  obtain ⟨_, _, _, _, bm, _, _, _, _, _, _, _, _, _, _, _, at_, _⟩ := c'.obj
  have more : ∀ b o, h.get? b = some o → ((h.push (W.kdv_tup rest)).push (excO C h.objs.size)).get? b = some o := fun b o e => Heap.get?_push_of_some _ (Heap.get?_push_of_some _ e)
  have new : ((h.push (W.kdv_tup rest)).push (excO C h.objs.size)).get? (h.objs.size + 1) = some (excO C h.objs.size) := by heap_get
  have itself : (Value.ref C :: bm).contains (.ref C) = true := by rw [List.contains_cons, beq_self_eq_true, Bool.true_or]
  repeat' first
    | with_reducible refine wpAny_loadPart_at at_ ?_
    | with_reducible refine wpAny_madeBy_exc at_ ?_
    | wp_step
  apply codeAny_call_builtin_code (Code.quiet_builtin _ F.quiet) (c.asked F _)
  apply c.laid F few
  show wpAny _ _ _ _ _ _
  unfold isInstance
  have at2 := more _ _ at_
  repeat' first
    | with_reducible refine wpAny_loadPart_at new ?_
    | (with_reducible refine wpAny_isSubtype_exc at2 ?_; rw [itself])
    | wp_step
  show wpAny _ _ (typeLookup (.ref C) _) _ _ _
  apply (init.keeps more).at
  apply wpAny_holding
  apply wpAny_bind
  apply ((bind (.ref (h.objs.size + 1))).keeps more).at
  apply wpAny_bind
  apply wpAny_call
  apply codeAny_mono q
  intro r z out
  match r, out with
  | .error _, out => exact out
  | .ok (.ret _), ⟨rfl, out⟩ => first | exact wpAny_pure (wpAny_pure out) | (wp_walk; exact out)
/-- C(..) -/
theorem OwnAt.called (c : OwnAt h C B newId) (F : ExcBaseFacts B newId initId bmB) (few : rest.length ≤ sizeLine) {fI : Addr} {R : Result → Shared → Prop} (init : W.Looks (model prog w) h (typeLookup (.ref C) "__init__") (some (.ref fI)))
    (bind : ∀ self, W.Looks (model prog w) h (bindSpecial (.ref fI) self) (.ref fI, [self]))
    (q : codeAny (model prog w) (A.under (.builtin "type.__call__" ⟨.ref C :: rest, []⟩)) (.call (.ref fI) ⟨.ref (h.objs.size + 1) :: rest, []⟩) (W.InitBack (h.objs.size + 1) R) ⟨(h.push (W.kdv_tup rest)).push (excO C h.objs.size), g, d, t, os⟩) :
    codeAny (model prog w) A (.call (.ref C) ⟨rest, []⟩) R ⟨h, g, d, t, os⟩ := by
  obtain ⟨_, _, _, _, _, _, _, _, _, _, _, _, _, _, _, _, at_, _⟩ := id c.obj
  have looked := tc_lookup
  have bound := tc_bind (.ref C)
  have isType : (⟨h, g, d, t, os⟩ : Shared).TypeIs (.ref C) "type" := ⟨_, at_, rfl⟩
  apply codeAny_of_tree
  show wpAny _ _ (callAny (.ref C) _) _ _ _
  repeat any_goals first
    | assumption
    | with_reducible refine wpAny_loadPart_at at_ ?_
    | wp_step
  refine ⟨rfl, ?_⟩
  apply codeAny_call_builtin_at (Code.quiet_builtin _ (by decide +kernel)) entry_typeCall
  apply wpAny_check_type_call_sub at_
  apply c.text F few init bind
  apply codeAny_mono q
  intro r z out
  match r, out with
  | .error _, out => exact out
  | .ok (.ret _), out => exact out
end
end PySem.HandSPX
namespace XO
open PySem PySem.Spec PyProof.Rows L2
open Builtin Builtin.ObjectAttr
def isR : Value → Bool
  | .ref _ => true
  | _ => false
/-- own classes, then the base's chain -/
def rT (tl l : List Value) : Bool := l.dropWhile isR == tl
theorem isR_ex : ∀ {a : Value}, isR a = true → ∃ c, a = .ref c
  | .ref c, _ => ⟨c, rfl⟩
theorem rT_eq {tl : List Value} {a : Value} {r : List Value} (h : rT tl (a :: r) = true) : (∃ c, a = .ref c ∧ rT tl r = true) ∨ a :: r = tl := by
  unfold rT at h
  rw [List.dropWhile_cons] at h
  by_cases q : isR a = true
  · rw [if_pos q] at h
    obtain ⟨c, e⟩ := isR_ex q
    exact .inl ⟨c, e, h⟩
  · rw [if_neg q] at h
    exact .inr (beq_iff_eq.mp h)
theorem rT_nil {tl : List Value} (h : rT tl [] = true) : [] = tl := beq_iff_eq.mp h
theorem rT_pass {tl : List Value} (hp : ∀ self, refuseLoop self "__setattr__" tl = pure ()) (self : Value) : ∀ l : List Value, rT tl l = true → refuseLoop self "__setattr__" l = pure ()
  | [], h => by rw [rT_nil h]; exact hp self
  | a :: r, h => by
    rcases rT_eq h with ⟨c, e, q⟩ | e
    · rw [e, refuseLoop_ref]; exact rT_pass hp self r q
    · rw [e]; exact hp self
theorem rT_has {tl : List Value} (X : String) : ∀ l : List Value, rT tl l = true → l.contains (.type X) = tl.contains (.type X)
  | [], h => by rw [rT_nil h]
  | a :: r, h => by
    rcases rT_eq h with ⟨c, e, q⟩ | e
    · rw [e, List.contains_cons, rT_has X r q]; rfl
    · rw [e]
/-- such a class as it stands in the heap -/
theorem ownAt {h : Heap} {C N : Addr} {B newId : String} {tl bm bs : List Value} {nm q : Str} {hdct : Bool} {sn : List Str} {sub : List Value} {ab : Bool} {col : Option Bool} {dd : Option Addr} {k0 k1 k2 k3 k5 : Option Value} (NI : PySem.HandSPX.NewIn B tl)
    (at_ : h.get? C = some (excClassObj nm q C N bs bm hdct sn sub ab col dd k0 k1 k2 k3 k5 newId)) (chain : rT tl bm = true) : PySem.HandSPX.OwnAt h C B newId := by
  have other : ∀ (Y : String), (Value.ref C :: bm).contains (.type Y) = tl.contains (.type Y) := fun Y => by
    rw [List.contains_cons, rT_has Y bm chain]
    rfl
  exact ⟨_, _, _, _, bm, _, _, _, _, _, _, _, _, _, _, _, at_, (other _).trans NI.b, (other _).trans NI.a, (other _).trans NI.n⟩
/-- what is asked of a base: its chain is tl -/
structure Bt (tl : List Value) : Prop where
  pass : ∀ self, refuseLoop self "__setattr__" tl = pure ()
  obj : tl.contains (.type "object") = true
theorem rT_some {tl l : List Value} (b : Bt tl) (h : rT tl l = true) : l.isEmpty = false := by
  cases l with
  | nil =>
    have q := b.obj
    rw [← rT_nil h] at q
    cases q
  | cons _ _ => rfl
abbrev tlIE : List Value := [.type "IndexError", .type "LookupError", .type "Exception", .type "BaseException", .type "object"]
abbrev tlVE : List Value := [.type "ValueError", .type "Exception", .type "BaseException", .type "object"]
theorem bt_IE : Bt tlIE := ⟨fun self => by kernel_rfl, by decide +kernel⟩
abbrev tlKE : List Value := [.type "KeyError", .type "LookupError", .type "Exception", .type "BaseException", .type "object"]
theorem bt_KE : Bt tlKE := ⟨fun self => by kernel_rfl, by decide +kernel⟩
section
variable {prog : Program} {w : World} {A : Around} {E : Value → Shared → Prop} {R : Result → Shared → Prop} {hp : Heap} {g : Array GenState} {dr : Drawn} {t : Nat} {os : OsState}
/-- the first field of an exception of such a class -/
theorem osa_first {K : W.Frag} {nm : Str} {tk : Tok} {u : Value} {e C : Addr} {fv : Array Value} {cd : ClassData} {tl : List Value} (bt : Bt tl)
    (kin : K.In hp) (at_e : hp.get? e = some { cls := .ref C, data := .fields fv }) (cl : W.clsIn K C = some cd) (ch : rT tl cd.mro = true) (own : cd.hasDict = true) (none_ : W.findIn K (.ref C) nm = some none)
    (fin : ∀ h2 tk2 dx, (∀ b o, b ≠ e → hp.get? b = some o → h2.get? b = some o) → hp.objs.size ≤ dx → dx ≠ e → h2.get? e = some { cls := .ref C, dict := some dx, data := .fields fv } →
      h2.Ns1 dx (fun y => if y = nm then some u else none) → R (.ok (.ret .none)) ⟨h2, g, dr, tk2, os⟩) :
    codeAny (model prog w) A (.call (.builtin "object.__setattr__") ⟨[.ref e, .str nm tk, u], []⟩) R ⟨hp, g, dr, t, os⟩ := by
  have inst : W.InstAt hp e { cls := .ref C, data := .fields fv } C none := ⟨at_e, rfl, rfl, trivial⟩
  have sto := F.store_object
  have isO : cd.mro.contains (.type "object") = true := (rT_has "object" _ ch).trans bt.obj
  have ene : e ≠ hp.objs.size := Nat.ne_of_lt (Heap.lt_size at_e)
  have isI : W.Looks (model prog w) hp (isInstance (.ref e) (.type "object")) true :=
    inst.type.andThen (W.looks_mroIn kin (by unfold W.mroIn; rw [cl, Option.bind_some, if_neg (by rw [rT_some bt ch]; decide), isO]))
  refine codeAny_call_builtin sto.slot.plain sto.entry
    (@W.check_slot (model prog w) _ _ ⟨hp, g, dr, t, os⟩ "object.__setattr__" "object" "__setattr__" (.ref e) [.str nm tk, u] [] _ sto.kind sto.split isI (sto.args (.ref e) (.str nm tk) u) ?_)
  have chain : W.Looks (model prog w) hp (mroOf (.ref C)) cd.mro := (W.looks_clsIn kin cl).andThen .now
  have noTaker : W.Looks (model prog w) hp (storeTaker? none) none := .now
  have theCls : W.Looks (model prog w) hp (classData C) cd := W.looks_clsIn kin cl
  rw [W.osa_eq, refuse_eq]
  refine wpAny_bind (wpAny_bind (inst.type.at (wpAny_bind (chain.at ?_))))
  rw [rT_pass bt.pass _ _ ch]
  refine wpAny_pure (wpAny_bind (inst.type.at (wpAny_bind ((W.looks_findIn kin none_).at (wpAny_bind (noTaker.at ?_))))))
  show wpAny _ _ (storeInOwnDict (.ref e) (.ref C) (.str nm tk) nm u false) _ _ _
  obtain ⟨n0, b0, m0, s0, q0, hd0, sn0, sb0, a0, c0, d0⟩ := cd
  dsimp only at own
  subst own
  unfold storeInOwnDict ownDictForStores
  repeat (first | with_reducible refine HandSPX.store_in_new ?_ ?_ | with_reducible refine wpAny_loadPart_at at_e ?_ | with_reducible refine theCls.at ?_ | wp_step)
  · exact ⟨_, #[], _, (Heap.get?_update_ne _ _ _ _ ene.symm).trans (Heap.get?_push_at rfl rfl), rfl, fun e he => absurd he (by simp), fun _ => rfl⟩
  · intro h2 tk2 ns2 same
    have e_old : (hp.push { cls := .type "dict", data := .dict #[] }).get? e = some { cls := .ref C, data := .fields fv } := Heap.get?_push_of_some _ at_e
    refine fin h2 tk2 hp.objs.size (fun b o nb at_b => ?_) (Nat.le_refl _) ene.symm ?_ ns2
    · exact (same.2 b (Nat.ne_of_lt (Heap.lt_size at_b))).trans ((Heap.get?_update_ne _ _ _ _ nb).trans (Heap.get?_push_of_some _ at_b))
    · exact (same.2 e ene).trans (Heap.get?_update_self _ e_old rfl)
end
/-- what the written part says of such a class -/
structure OexB (K : PySem.W.Frag) (C : Addr) (newId : String) (tl : List Value) : Prop where
  cls : ∃ nm q N bs bm sn sub ab col dd k0 k1 k2 k3 k5, K.lookup C = some (excClassObj nm q C N bs bm true sn sub ab col dd k0 k1 k2 k3 k5 newId) ∧ rT tl bm = true
  bt : Bt tl
  sa : PySem.W.findIn K (.ref C) "__setattr__" = some (some (.builtin "object.__setattr__"))
  exC : PySem.W.subIn K (.ref C) (.type "BaseException") = some true
  tyC : PySem.W.typeIn K (.ref C) = some (.type "type")
  kC : PySem.W.keepIn K (.ref C) = true
section
variable {X : Cx} {pins : List (Addr × Obj)} {σ : L2.St} {H : Hp} {s : Shared} {a C dx : Addr} {f : Str} {y : V} {u : Value} {Q : Unit → Shared → Prop} {E : Value → Shared → Prop} {A : Around} {newId : String} {tl : List Value}
theorem put_first (T : OexB X.K C newId tl) (I : Inv X pins σ H s) (e : H a = some (exo a C none)) (none_ : PySem.W.findIn X.K (.ref C) f = some none) (ry : RelV y u)
    (k : ∀ dx s2, H dx = none → dx ≠ a → Inv X pins σ (upd (upd H dx (exd dx [(f, y)])) a (exo a C (some dx))) s2 → Q () s2) : wpAny (model X.prog X.w) A (setAttr (.ref a) f u) Q E s := by
  obtain ⟨nm, q, N, bs, bm, sn, sub, ab, col, dd, k0, k1, k2, k3, k5, atC, chain⟩ := T.cls
  have cl : PySem.W.clsIn X.K C = some { name := nm, bases := bs, mro := .ref C :: bm, ns := N, qualname := q, hasDict := true, slotNames := sn, subclasses := sub, abstract := ab, collection := col, hasDel := false } := by
    unfold PySem.W.clsIn; rw [atC] <;> rfl
  have chain2 : rT tl (.ref C :: bm) = true := by unfold rT at chain ⊢; rw [List.dropWhile_cons, if_pos (by rfl)]; exact chain
  obtain ⟨t1, at_a⟩ := exo_at I.hok e
  obtain ⟨hp, g, dr, t, os⟩ := s
  refine PySem.W.set_plain I.kIn (ox := { cls := .ref C, dict := none, data := .fields #[.ref t1, .none, .none, .none, .bool false, .none] }) (od := none) ⟨at_a, rfl, rfl, trivial⟩ T.sa ?_
  refine osa_first T.bt I.kIn at_a cl chain2 rfl none_ (fun h2 tk2 dx keep big dne hx hn => ?_)
  have free : H dx = none := I.hok.fresh big
  have nd : ∀ {b : Addr} {o : Obj}, hp.get? b = some o → b ≠ dx := fun {b o} z => Nat.ne_of_lt (Nat.lt_of_lt_of_le (Heap.lt_size z) big)
  have na : ∀ {b : Addr}, H b = none → b ≠ a := fun {b} n z => by rw [z, e] at n; cases n
  have un : Un X.fs [] H (upd (upd H dx (exd dx [(f, y)])) a (exo a C (some dx))) hp h2 :=
    ⟨fun b o z n _ _ => keep b o (na n) z, fun b o z n _ _ => ⟨o.slots, keep b o (na n) z⟩, fun b o z n _ => by rw [upd_ne (na n), upd_ne (nd z)]; exact n,
      fun b o z _ => by
        by_cases hb : b = a
        · exact ⟨_, by rw [hb]; exact hx⟩
        · exact ⟨o, keep b o hb z⟩,
      fun b xs z => by rw [upd_ne (at_ne e z exo_tup), upd_ne (ne_of_none z free)]; exact z,
      fun b o v z => by rw [upd_ne (at_ne e z exo_frz), upd_ne (ne_of_none z free)]; exact z,
      fun b ps z => ⟨#[], by rw [upd_ne (at_ne e z exo_tbl), upd_ne (ne_of_none z free), z]; simp⟩⟩
  refine k dx _ free dne (I.un (t' := tk2) un fun b o z => ?_)
  by_cases hb : b = a
  · subst hb
    rw [upd_same] at z
    cases z
    exact exo_ok hx
  by_cases hd : b = dx
  · subst hd
    rw [upd_ne hb, upd_same] at z
    cases z
    exact exd_ok hn (relO_put (fs := []) ry fun g => True.intro)
  rw [upd_ne hb, upd_ne hd] at z
  refine (I.hok b o z).stay (fun c v hc r => keep c v ?_ r) (fun c hc => ?_) (fun c xs hc => ?_)
  · rcases hc with hc | hc
    · rw [hc]; exact hb
    · exact at_ne e hc exo_own
  · rw [upd_ne (at_ne e hc exo_own), upd_ne (ne_of_none hc free)]; exact hc
  · rw [upd_ne (at_ne e hc exo_tup), upd_ne (ne_of_none hc free)]; exact hc
end
/-- self.f = e, in the making -/
def tOs1 (K : PySem.W.Frag) (newId : String) (tl : List Value) (f : Str) (to te : TE) : TS := fun D σ H => te σ H fun y H1 => to σ H1 fun x H2 => ∃ a C : Addr, x = .ref a ∧ OexB K C newId tl ∧ PySem.W.findIn K (.ref C) f = some none ∧
  H2 a = some (exo a C none) ∧ ∀ dx, H2 dx = none → dx ≠ a → D.nx σ (upd (upd H2 dx (exd dx [(f, y)])) a (exo a C (some dx)))
theorem ps_os1 {X : Cx} {o e : Expr} {to te : TE} {f : Str} {p pos : Pos} {newId : String} {tl : List Value} (ho : PE X o to) (he : PE X e te) (hs : swapsWith e (some (.Attribute o f p)) pos.line X.env = pure false := by rfl) :
    PS X (.Assign [.Attribute o f p] e pos) (tOs1 X.K newId tl f to te) := by
  refine ⟨fun pins s σ H D I h => ?_⟩
  refine plainObj_wpAny_Assign_Attribute (thn (he.run pins s σ H _ I h) fun v s1 ⟨y, H1, I1, r1, q1⟩ => thn (ho.run pins s1 σ H1 _ I1 q1) fun u s2 ⟨x, H2, I2, r2, a, C, ex, T, none_, ea, q⟩ => ?_) hs
  subst ex
  obtain rfl : u = Value.ref a := r2
  exact put_first T I2 ea none_ r1 fun dx s3 n ne J => ⟨σ, _, J, q dx n ne⟩
/-- __init__(self, v) of such a class -/
def spI1 (K : PySem.W.Frag) (newId : String) (tl : List Value) (f : Str) : Sp := fun vs H Q _ => ∃ (a C : Addr) (y : V), vs = [.ref a, y] ∧ OexB K C newId tl ∧ PySem.W.findIn K (.ref C) f = some none ∧ H a = some (exo a C none) ∧
  ∀ dx, H dx = none → dx ≠ a → Q .non (upd (upd H dx (exd dx [(f, y)])) a (exo a C (some dx)))
/-- C(e) -/
def tMk1 (C : Addr) (f : Str) (ta : TA) : L2.St → Hp → XK → Prop := fun σ H Q => ta σ H fun vs H1 => ∃ y, vs = [y] ∧ ∀ dx, H1 dx = none → Q (.ref C) (some dx) (upd H1 dx (.xd [(f, y)]))
section
variable {X : Cx} {C fI : Addr} {k : Nat} {fd : FuncData} {B newId initId : String} {tl : List Value} {x f p1 p2 : Str} {e : Expr} {es : List Expr} {ta : TA} {p pos : Pos}
theorem pmk_1 {tl0 : List Value} (F : ExcBaseFacts B newId initId tl0) (NI : PySem.HandSPX.NewIn B tl) (T : OexB X.K C newId tl) (none_ : PySem.W.findIn X.K (.ref C) f = some none) (iC : PySem.W.findIn X.K (.ref C) "__init__" = some (some (.ref fI))) (tI : PySem.W.typeIn X.K (.ref fI) = some (.type "function"))
    (G : FnOk X.prog X.w X.K X.mg X.base CX0 k fI fd [p1, p2] (spI1 X.K newId tl f)) (hr : Room (k + 1) X.A) (hb : Binds X.K fd [p1, p2] []) (hg : Gl X x) (hm : X.mg x = some (.ref C)) (ha : PA X (e :: es) ta)
    (hdb : (x == ("__debug__" : Str)) = false := by decide) (he : starEach (e :: es) X.env = (false, eval e X.env) :: starEach es X.env := by rfl) (hpl : (backTo pos (starEach es X.env)).any (·.1) = false := by rfl) :
    PMk X (.Call (.Name x p) (e :: es) [] pos) (tMk1 C f ta) := by
  intro pins s σ H Q I h
  obtain ⟨nm, q, N, bs, bm, sn, sub, ab, col, dd, k0, k1, k2, k3, k5, atC, chain⟩ := T.cls
  refine wpAny_Call_Name_kw (ld_glob I hg hm ?_ hdb)
  refine PySem.W.callWith_K (h₀ := X.base) I.ok.mod.kin T.kC (thn (ha.run pos pins s σ H _ I h) fun us s1 ⟨vs, H1, I1, r1, y, ev, q1⟩ => ⟨I1.kIn, ?_⟩) he hpl
  subst ev
  show wpAny _ _ (call (.ref C) us) _ _ _
  cases r1 with
  | @cons _ u0 _ ur ry rn =>
  cases rn
  obtain ⟨hp, g, dr, tk, os⟩ := s1
  have le1 : hp.objs.size ≤ hp.objs.size + 1 := Nat.le_succ _
  have free : H1 (hp.objs.size + 1) = none := I1.hok.fresh le1
  have old : ∀ b o, hp.get? b = some o → ((hp.push (PySem.W.kdv_tup [u0])).push (PySem.HandSPX.excO C hp.objs.size)).get? b = some o := fun b o z => Heap.get?_push_of_some _ (Heap.get?_push_of_some _ z)
  have hget : ((hp.push (PySem.W.kdv_tup [u0])).push (PySem.HandSPX.excO C hp.objs.size)).get? (hp.objs.size + 1) = some (PySem.HandSPX.excO C hp.objs.size) := by heap_get
  have J : Inv X pins σ (upd H1 (hp.objs.size + 1) (exo (hp.objs.size + 1) C none)) ⟨(hp.push (PySem.W.kdv_tup [u0])).push (PySem.HandSPX.excO C hp.objs.size), g, dr, tk, os⟩ :=
    I1.laid (t' := tk) (a := hp.objs.size + 1) (o := exo (hp.objs.size + 1) C none) old le1 (exo_ok hget)
  have rr : Vals [V.ref (hp.objs.size + 1), y] [Value.ref (hp.objs.size + 1), u0] := .cons rfl (.cons ry .nil)
  have small : [u0].length ≤ sizeLine := by rw [sizeLine_eq]; exact (by decide : 1 ≤ 16777216)
  have bd := hb _ [Value.ref (hp.objs.size + 1), u0] J.kIn rfl
  rw [List.append_nil] at bd
  have ask : spI1 X.K newId tl f [V.ref (hp.objs.size + 1), y] (upd H1 (hp.objs.size + 1) (exo (hp.objs.size + 1) C none))
      (fun v H2 => v = .non ∧ ∃ d, H2 (hp.objs.size + 1) = some (exo (hp.objs.size + 1) C (some d)) ∧ H2 d = some (exd d [(f, y)]) ∧ H1 d = none ∧ Q (.ref C) (some d) (upd (L2.del H2 (hp.objs.size + 1)) d (.xd [(f, y)]))) (fun _ _ _ => False) := by
    refine ⟨_, C, y, rfl, T, none_, upd_same, fun d fr ne => ⟨rfl, d, upd_same, by rw [upd_ne ne, upd_same], by rw [upd_ne ne] at fr; exact fr, ?_⟩⟩
    have e2 : upd (L2.del (upd (upd (upd H1 (hp.objs.size + 1) (exo (hp.objs.size + 1) C none)) d (exd d [(f, y)])) (hp.objs.size + 1) (exo (hp.objs.size + 1) C (some d))) (hp.objs.size + 1)) d (.xd [(f, y)]) = upd H1 d (.xd [(f, y)]) := by
      funext b
      by_cases b1 : b = d
      · rw [b1, upd_same, upd_same]
      · rw [upd_ne b1, upd_ne b1]
        by_cases b2 : b = hp.objs.size + 1
        · rw [b2, del_same, free]
        · rw [L2.del_ne b2, upd_ne b2, upd_ne b1, upd_ne b2]
    rw [e2]
    exact q1 d (by rw [upd_ne ne] at fr; exact fr)
  refine wpAny_call ((ownAt NI (I1.kIn _ _ atC) chain).called F small (PySem.W.looks_findIn I1.kIn iC) (fun self => PySem.W.bind_fn I1.kIn self tI)
    (codeAny_mono (G.run _ X.stack _ _ ⟨[Value.ref (hp.objs.size + 1), u0], []⟩ [Value.ref (hp.objs.size + 1), u0] _ _ (fun _ _ _ => False) (hr.make C [u0] []) (J.env0.make C [u0] []) bd rr ask) fun r s2 res => ?_))
  cases r with
  | error er => exact res.elim
  | ok fl =>
    cases fl with
    | ret u =>
      obtain ⟨v, H2, os2, bare2, un2, hok2, rv, ev, d, ea, ed, hd1, q2⟩ := res
      subst ev
      obtain ⟨h2, g2, d2, t2, o2⟩ := s2
      exact ⟨rv, mk_end (raises_own T.exC T.tyC) I1 le1 old un2 hok2 os2 bare2 ea ed hd1 q2⟩
    | next => exact res.elim
    | brk => exact res.elim
    | cont => exact res.elim
end
/-- the text of such an __init__ keeps spI1 -/
theorem init_ok {P : Program} {w : World} {K : PySem.W.Frag} {newId : String} {tl : List Value} {f p1 p2 : Str} {D : Ends} {vs : List V} {H : Hp} {Q : VK} {E : XK} (h : spI1 K newId tl f vs H Q E) :
    tOs1 K newId tl f (tVar 0) (tVar 1) { nx := fun _ H' => Q .non H', rt := Q } (L2.start [p1, p2] vs) H := by
  obtain ⟨a, C, y, ev, T, none_, ea, q⟩ := h
  subst ev
  exact ⟨y, rfl, _, rfl, a, C, rfl, T, none_, ea, fun dx n ne => q dx n ne⟩
end XO
namespace Z
open PySem L2
/-- o.m(..) where it may let an exception out -/
def tMethX (C : Addr) (m : Str) (sp : Sp) (E : L2.St → XK) (ta : TE) (t : TA) : TE := fun σ H Q => ta σ H fun x H1 => ∃ a dx fs, x = .ref a ∧ H1 a = some (.ins C dx fs) ∧ fs.lookup m = none ∧ t σ H1 fun vs H2 => sp (x :: vs) H2 Q (E σ)
abbrev XW := Str → Option Addr → M → Prop
/-- P args store wish out -/
abbrev PT4 := List D → M → (D → M → Prop) → XW → Prop
def spX (K : PySem.W.Frag) (cn : Str → Option Value) (P : PT4) : Sp := fun vs H Q E => ∃ ds μ Φ Ξ, Rels K H vs ds ∧ Z.Con K H μ ∧ P ds μ Φ Ξ ∧ (∀ d μ' v H', Fr μ μ' H H' → Z.Con K H' μ' → Rel K H' v d → Φ d μ' → Q v H') ∧
  ∀ x dx μ' cls H', cn x = some cls → Fr μ μ' H H' → Z.Con K H' μ' → Ξ x dx μ' → E cls dx H'
section
variable {K : PySem.W.Frag} {τ : T} {μ μ1 μ2 : M} {H H1 H2 : Hp} {σ : L2.St} {Φ Ψ : D → M → Prop} {ta tb tc te : TE} {t u : TT} {x y z d e : D} {N : AEnds} {ts us : TS} {P : PT4} {P3 : PT3} {E : XK} {g : TG} {cn : Str → Option Value}
theorem spX_len {vs : List V} {Q : VK} {n : Nat} (h : spX K cn P vs H Q E) (hn : ∀ ds μ Φ Ξ, P ds μ Φ Ξ → ds.length = n) : vs.length = n := by
  obtain ⟨ds, μ, Φ, Ξ, r, _, p, _⟩ := h
  rw [r.length]; exact hn _ _ _ _ p
abbrev endX (cn : Str → Option Value) (E : XK) (Φ : D → M → Prop) (Ξ : XW) : AEnds := { nx := fun _ μ' => Φ .non μ', rt := Φ, W := fun cls d _ H => E cls d H, cn := cn, xs := fun x dx _ μ' => Ξ x dx μ' }
theorem body_okX {Ns : List Str} {vs : List V} {Q : VK} (h : spX K cn P vs H Q E) (hb : ∀ ds μ Φ Ξ, P ds μ Φ Ξ → AS K ts (startD Ns.length ds) μ (endX cn E Φ Ξ)) :
    ts { nx := fun _ H' => Q .non H', rt := Q } (L2.start Ns vs) H := by
  obtain ⟨ds, μ, Φ, Ξ, r, c, p, k, kx⟩ := h
  exact hb ds μ Φ Ξ p _ H (slots_start r) c _ ⟨fun _ μ' _ H' f c' _ q => k .non μ' .non H' f c' .non q, fun d μ' v H' f c' r' q => k d μ' v H' f c' r' q, fun _ _ _ _ _ _ _ q => q.elim, fun _ _ _ _ _ _ _ q => q.elim,
    fun x dx _ μ' cls _ H' e f c' _ q => kx x dx μ' cls H' e f c' q⟩
/-- what a def has made for itself is forgotten at its end -/
abbrev UpX (Ξ : XW) : XW := fun x dx μ' => ∃ μ2, Sub μ2 μ' ∧ Ξ x dx μ2
/-- a call that lets nothing out here -/
theorem a_callX {ta : TA} (h : AA K ta τ μ fun ds μ1 => P ds μ1 Φ fun _ _ _ => False) : AE K (tCall (spX K cn P) [] E ta) τ μ Φ := fun σ H s c Q k =>
  h σ H s c _ fun ds μ1 vs H1 f1 c1 r1 p => by
    show spX K cn P (vs ++ []) H1 Q E
    rw [List.append_nil]
    exact ⟨ds, μ1, Φ, _, r1, c1, p, fun d μ' v H' f c' r q => k d μ' v H' (f1.trans f) c' r q, fun _ _ _ _ _ _ _ _ q => q.elim⟩
def AEX (K : PySem.W.Frag) (t : TE) (τ : T) (μ : M) (N : AEnds) (Φ : D → M → Prop) : Prop :=
  ∀ σ H, Slots K H τ σ → Con K H μ → ∀ Q : VK, (∀ d μ' v H', Fr μ μ' H H' → Con K H' μ' → Rel K H' v d → Φ d μ' → Q v H') →
    (∀ x dx μ' cls H', N.cn x = some cls → Fr μ μ' H H' → Con K H' μ' → N.xs x dx τ μ' → N.W cls dx σ H') → t σ H Q
theorem x_of {E' : Ends} (k : EndsOk K N μ H E') (s : Slots K H τ σ) (c : Con K H μ) : ∀ x dx μ' cls H', N.cn x = some cls → Fr μ μ' H H' → Con K H' μ' → N.xs x dx τ μ' → N.W cls dx σ H' :=
  fun x dx μ' cls H' e f c' q => k.wx x dx τ μ' cls σ H' e f c' (s.mono (f.tx c)) q
theorem s_dropX (h : AEX K te τ μ N fun _ μ' => N.nx τ μ') : AS K (tDrop te) τ μ N := fun σ H s c E k =>
  h σ H s c _ (fun d μ' v H' f c' r p => k.nx τ μ' σ H' f c' (s.mono (f.tx c)) p) (x_of k s c)
theorem s_asgX (h : AEX K te τ μ N fun d μ' => AG K g d τ μ' N.nx) : AS K (tAsg te g) τ μ N := fun σ H s c E k =>
  h σ H s c _ (fun d μ' v H' f c' r p => p σ H' v (s.mono (f.tx c)) c' r _ fun τ2 μ2 σ2 H2 f2 c2 s2 q => k.nx τ2 μ2 σ2 H2 (f.trans f2) c2 s2 q) (x_of k s c)
theorem x_call {ta : TA} (h : AA K ta τ μ fun ds μ1 => P ds μ1 Φ fun x dx μ' => N.xs x dx τ μ') : AEX K (tCallS (spX K N.cn P) (WE N.W) ta) τ μ N Φ := fun σ H s c Q k kx =>
  h σ H s c _ fun ds μ1 vs H1 f1 c1 r1 p => ⟨ds, μ1, Φ, _, r1, c1, p, fun d μ' v H' f c' r q => k d μ' v H' (f1.trans f) c' r q, fun x dx μ' cls H' e f c' q => kx x dx μ' cls H' e (f1.trans f) c' q⟩
theorem look_none {H1 : Hp} {m : Str} : ∀ {vs : List (Str × V)} {fs : List (Str × D)}, RelKV K H1 vs fs → fs.lookup m = none → vs.lookup m = none := by
  intro vs fs r
  induction r with
  | nil => intro _; rfl
  | cons a _ ih =>
    rename_i p q ps qs _
    obtain ⟨e1, _⟩ := a
    intro h
    rw [List.lookup_cons] at h ⊢
    rw [e1]
    split at h
    · cases h
    · exact ih h
/-- o.m(..), what the instance is made of kept -/
theorem a_methX {C : Addr} {m : Str} {ta : TA} (h : AE K te τ μ fun o μ1 => ∃ a dx fs, o = .ref a ∧ μ1 a = some (.ins C dx fs) ∧ fs.lookup m = none ∧ AA K ta τ μ1 fun ds μ2 => P (o :: ds) μ2 Φ fun _ _ _ => False) :
    AE K (tMeth C m (spX K cn P) [] E te ta) τ μ Φ := fun σ H s c Q k =>
  h σ H s c _ fun o μ1 v H1 f1 c1 r1 ⟨a, dx, fs, e, ha, hm, p1⟩ => by
    subst e
    cases r1
    obtain ⟨vs, hv, hr⟩ := c1 a _ ha
    refine ⟨a, dx, vs, rfl, hv, look_none hr hm, p1 σ H1 (s.mono (f1.tx c)) c1 _ fun ds μ2 us H2 f2 c2 r2 p => ?_⟩
    rw [List.append_nil]
    exact ⟨.ref a :: ds, μ2, Φ, _, .cons (.ref a) r2, c2, p, fun d μ' v H' f c' r q => k d μ' v H' ((f1.trans f2).trans f) c' r q, fun _ _ _ _ _ _ _ _ q => q.elim⟩
theorem x_meth {C : Addr} {m : Str} {ta : TA} (h : AE K te τ μ fun o μ1 => ∃ a dx fs, o = .ref a ∧ μ1 a = some (.ins C dx fs) ∧ fs.lookup m = none ∧ AA K ta τ μ1 fun ds μ2 => P (o :: ds) μ2 Φ fun x dx μ' => N.xs x dx τ μ') :
    AEX K (tMethX C m (spX K N.cn P) (WE N.W) te ta) τ μ N Φ := fun σ H s c Q k kx =>
  h σ H s c _ fun o μ1 v H1 f1 c1 r1 ⟨a, dx, fs, e, ha, hm, p1⟩ => by
    subst e
    cases r1
    obtain ⟨vs, hv, hr⟩ := c1 a _ ha
    exact ⟨a, dx, vs, rfl, hv, look_none hr hm, p1 σ H1 (s.mono (f1.tx c)) c1 _ fun ds μ2 us H2 f2 c2 r2 p =>
      ⟨.ref a :: ds, μ2, Φ, _, .cons (.ref a) r2, c2, p, fun d μ' v H' f c' r q => k d μ' v H' ((f1.trans f2).trans f) c' r q, fun x dx μ' cls H' e f c' q => kx x dx μ' cls H' e ((f1.trans f2).trans f) c' q⟩⟩
/-- C(..) with no __init__ of its own -/
theorem s_raise0 {C : Addr} {x : Str} (hc : N.cn x = some (.ref C)) (h : N.xs x none τ μ) : AS K (fun _ σ H => (fun (_ : L2.St) (H : Hp) (Q : XK) => Q (.ref C) none H) σ H fun cls d H' => N.W cls d σ H') τ μ N := fun σ H s c E k =>
  k.wx x none τ μ (.ref C) σ H hc Fr.refl c s h
theorem s_raise1 {C : Addr} {x f : Str} {ta : TA} (hc : N.cn x = some (.ref C)) (h : AA K ta τ μ fun ds μ' => ∃ d, ds = [d] ∧ ∀ dx, μ' dx = none → N.xs x (some dx) τ (μ'.set dx (.xd [(f, d)]))) :
    AS K (fun _ σ H => XO.tMk1 C f ta σ H fun cls d H' => N.W cls d σ H') τ μ N := fun σ H s c E k =>
  h σ H s c _ fun ds μ1 vs H1 f1 c1 r1 ⟨d, e, q⟩ => by
    subst e
    cases r1 with
    | cons r rn =>
      rename_i v0 _
      cases rn
      refine ⟨_, rfl, fun dx hn => ?_⟩
      have n := c1.free hn
      have cc : Con K (upd H1 dx (.xd [(f, v0)])) (μ1.set dx (.xd [(f, d)])) := con_put hn c1 ⟨_, upd_same, .cons ⟨rfl, Rel.mono (tx_new hn) _ _ r⟩ .nil⟩
      have ff : Fr μ (μ1.set dx (.xd [(f, d)])) H (upd H1 dx (.xd [(f, v0)])) := f1.trans (fr_put hn)
      exact k.wx x (some dx) τ _ (.ref C) σ _ hc ff cc (s.mono (ff.tx c)) (q dx n)
end
/-- a def that may let an exception out -/
structure DefX (P : Program) (w : World) (K : PySem.W.Frag) (mg : Str → Option Value) (base : Heap) (x : Str) (ps : List Str) (k : Nat) (sp : Sp) : Prop where
  ex : ∃ f fd, FnOk P w K mg base (L2.CX P w) k f fd ps sp ∧ mg x = some (.ref f) ∧ PySem.W.keepIn K (.ref f) = true ∧ Binds K fd ps []
/-- a method of the class at C -/
structure Mth (P : Program) (w : World) (K : PySem.W.Frag) (mg : Str → Option Value) (base : Heap) (C : Addr) (m : Str) (ps : List Str) (k : Nat) (sp : Sp) : Prop where
  ex : ∃ f fd, FnOk P w K mg base (L2.CX P w) k f fd ps sp ∧ Cls K C ∧ Meth K C m f ∧ Binds K fd ps []
theorem fn_lift {P : Program} {w : World} {K : PySem.W.Frag} {mg : Str → Option Value} {base : Heap} {k : Nat} {f : Addr} {fd : FuncData} {ps : List Str} {sp : Sp} (F : FnOk P w K mg base CX0 k f fd ps sp) : FnOk P w K mg base (L2.CX P w) k f fd ps sp :=
  ⟨F.len, fun A outer s H args us vs Q E hr e b r h => codeAny_mono (F.run A outer s H args us vs Q E hr e b r h) fun r s' q => by
    cases r with
    | error e => exact q.elim
    | ok fl =>
      cases fl with
      | ret u => exact q
      | next => exact q.elim
      | brk => exact q.elim
      | cont => exact q.elim⟩
section
variable {X : Cx} {k : Nat} {ps : List Str} {sp : Sp} {x m : Str} {C : Addr} {p pos apos : Pos} {o e : Expr} {es : List Expr} {to : TE} {t : TA} {W : WX}
/-- how a method's call is read -/
abbrev MCall (X : Cx) (o : Expr) (m : Str) (es : List Expr) (kws : List Keyword) (pos apos : Pos) (pl : Sem Bool) : Prop :=
  eval (.Call (.Attribute o m apos) es kws pos) X.env = (do let ov ← eval o X.env; standAt apos.atName; let (g, own) ← holding [ov] (getMethod ov m pl); callWith pos g own (backTo pos (starEach es X.env)) (backToKw pos (keywordEach kws X.env)))
/-- .. called where it lets nothing out -/
theorem pe_defN (G : DefX X.prog X.w X.K X.mg X.base x ps k sp) (hr : Room k X.A) (hg : Gl X x)
    (ha : PA X (e :: es) t) (hdb : (x == ("__debug__" : Str)) = false := by decide) (he : starEach (e :: es) X.env = (false, eval e X.env) :: starEach es X.env := by rfl) (hpl : (backTo pos (starEach es X.env)).any (·.1) = false := by rfl) :
    PE X (.Call (.Name x p) (e :: es) [] pos) (tCall sp [] E0 t) := by
  obtain ⟨f, fd, F, hm, hk, hb⟩ := G.ex
  exact pe_call F hr hg hm hk hb .nil passL ha hdb he hpl
theorem pe_mthN {pl : Sem Bool} (G : Mth X.prog X.w X.K X.mg X.base C m ps k sp) (hr : Room k X.A) (ho : PE X o to) (ha : PA X (e :: es) t)
    (hst : starEach (e :: es) X.env = (false, eval e X.env) :: starEach es X.env := by rfl) (hpl : (backTo pos (starEach es X.env)).any (·.1) = false := by rfl)
    (ht : MCall X o m (e :: es) [] pos apos pl := by rfl) :
    PE X (.Call (.Attribute o m apos) (e :: es) [] pos) (tMeth C m sp [] E0 to t) := by
  obtain ⟨f, fd, F, c, hm, hb⟩ := G.ex
  exact pe_meth ho c hm F hr hb .nil passL ha hst hpl ht
theorem pe_mthN0 {pl : Sem Bool} (G : Mth X.prog X.w X.K X.mg X.base C m ps k sp) (hr : Room k X.A) (ho : PE X o to)
    (ht : MCall X o m [] [] pos apos pl := by rfl) :
    PE X (.Call (.Attribute o m apos) [] [] pos) (tMeth C m sp [] E0 to tNil) := by
  obtain ⟨f, fd, F, c, hm, hb⟩ := G.ex
  exact pe_meth0 ho c hm F hr hb .nil passL ht
theorem pe_mthX {pl : Sem Bool} (tk : Takes X W) (G : Mth X.prog X.w X.K X.mg X.base C m ps k sp) (hr : Room k X.A) (ho : PE X o to) (ha : PA X (e :: es) t)
    (hst : starEach (e :: es) X.env = (false, eval e X.env) :: starEach es X.env := by rfl) (hpl : (backTo pos (starEach es X.env)).any (·.1) = false := by rfl)
    (ht : MCall X o m (e :: es) [] pos apos pl := by rfl) :
    PE X (.Call (.Attribute o m apos) (e :: es) [] pos) (tMethX C m sp (WE W) to t) := by
  obtain ⟨f, fd, F, c, hm, hb⟩ := G.ex
  exact ⟨fun pins s σ H Q I h => PySem.W.methodCall_KW (pl := pl) (thn (ho.run pins s σ H _ I h) fun u s1 ⟨x, H1, I1, ru, a, _, _, ex, ea, l, q⟩ => by
    subst ex
    cases ru
    exact getmeth_ok I1 ea c hm l (PySem.W.callWith_K (first := [.ref a]) (h₀ := X.base) I.ok.mod.kin hm.kp (thn (ha.run pos pins s1 σ H1 _ I1 q) fun _ s2 ⟨_, H2, I2, r, q2⟩ => ⟨I2.kIn, run_fnS (vs := .ref a :: _) (us := .ref a :: _) F hr hb (passAt tk σ) I2 (.cons rfl r) q2⟩) hst hpl)) ht⟩
end
end Z
namespace Z
open PySem L2
def kD : Key → D
  | .inl i => .int i
  | .inr s => .str s
abbrev kT (k : List Key) : D := .tup (k.map kD)
section
variable {κ : Type} [DecidableEq κ]
def valD (kvs : List (κ × D)) (k : κ) : Option D := (kvs.find? fun kv => decide (kv.1 = k)).map (·.2)
def putKD (kvs : List (κ × D)) (k : κ) (v : D) : List (κ × D) := if (valD kvs k).isSome = true then kvs.map fun kv => if kv.1 = k then (kv.1, v) else kv else kvs ++ [(k, v)]
theorem valD_cons {p : κ × D} {r : List (κ × D)} {k : κ} : valD (p :: r) k = if p.1 = k then some p.2 else valD r k := by
  unfold valD
  by_cases h : p.1 = k
  · rw [if_pos h]; simp [List.find?_cons, h]
  · rw [if_neg h]; simp [List.find?_cons, h]
theorem valD_snoc {r : List (κ × D)} {k j : κ} {v : D} (h : valD r k = none) : valD (r ++ [(k, v)]) j = if k = j then some v else valD r j := by
  induction r with
  | nil => rw [List.nil_append, valD_cons]
  | cons p r ih =>
    rw [valD_cons] at h
    by_cases e : p.1 = k
    · rw [if_pos e] at h; cases h
    · rw [if_neg e] at h
      rw [List.cons_append, valD_cons, ih h, valD_cons]
      by_cases e2 : p.1 = j
      · rw [if_pos e2, if_pos e2, if_neg (fun z => e (by rw [e2, z]))]
      · rw [if_neg e2, if_neg e2]
theorem putKD_new {r : List (κ × D)} {k : κ} {v : D} (h : valD r k = none) : putKD r k v = r ++ [(k, v)] := by
  unfold putKD; rw [h]; rfl
variable {K : PySem.W.Frag} {H : Hp}
theorem kv_val {vs : List (κ × V)} {kvs : List (κ × D)} (r : RelKV K H vs kvs) (k : κ) : (valV vs k = none ∧ valD kvs k = none) ∨ ∃ v d, valV vs k = some v ∧ valD kvs k = some d ∧ Rel K H v d := by
  induction r with
  | nil => exact .inl ⟨rfl, rfl⟩
  | cons a _ ih =>
    rename_i p q ps qs _
    obtain ⟨e, r⟩ := a
    rw [valD_cons]
    by_cases h : p.1 = k
    · rw [valV_pos h, if_pos (e.symm.trans h)]
      exact .inr ⟨_, _, rfl, rfl, r⟩
    · rw [valV_neg h, if_neg (fun z => h (e.trans z))]
      exact ih
theorem kv_isSome {vs : List (κ × V)} {kvs : List (κ × D)} (r : RelKV K H vs kvs) (k : κ) : (valV vs k).isSome = (valD kvs k).isSome := by
  rcases kv_val r k with ⟨a, b⟩ | ⟨v, d, a, b, _⟩ <;> rw [a, b] <;> rfl
theorem kv_len {vs : List (κ × V)} {kvs : List (κ × D)} (r : RelKV K H vs kvs) : vs.length = kvs.length := Paired.length r
theorem kv_app {vs ws : List (κ × V)} {kvs lws : List (κ × D)} (r : RelKV K H vs kvs) (r2 : RelKV K H ws lws) : RelKV K H (vs ++ ws) (kvs ++ lws) := by
  induction r with
  | nil => exact r2
  | cons a _ ih => exact .cons a ih
theorem kv_map (k : κ) {v : V} {d : D} (rv : Rel K H v d) : ∀ {vs : List (κ × V)} {kvs : List (κ × D)}, RelKV K H vs kvs → RelKV K H (vs.map fun kv => if kv.1 = k then (kv.1, v) else kv) (kvs.map fun kv => if kv.1 = k then (kv.1, d) else kv)
  | [], [], .nil => .nil
  | (g, x) :: vs, (g', y) :: kvs, .cons a b => by
    obtain ⟨e, r⟩ := a
    have e : g = g' := e
    subst e
    rw [List.map_cons, List.map_cons]
    refine .cons ?_ (kv_map k rv b)
    dsimp only
    by_cases h : g = k
    · rw [if_pos h, if_pos h]; exact ⟨rfl, rv⟩
    · rw [if_neg h, if_neg h]; exact ⟨rfl, r⟩
theorem kv_put {vs : List (κ × V)} {kvs : List (κ × D)} (r : RelKV K H vs kvs) (k : κ) {v : V} {d : D} (rv : Rel K H v d) : RelKV K H (putK vs k v) (putKD kvs k d) := by
  have hs := kv_isSome r k
  unfold putK putKD
  rw [valV_any, hs]
  split
  · exact kv_map k rv r
  · exact kv_app r (.cons ⟨rfl, rv⟩ .nil)
end
section
variable {K : PySem.W.Frag} {τ : T} {μ μ1 μ2 : M} {H H1 H2 : Hp} {σ : L2.St} {Φ Ψ : D → M → Prop} {ta tb td te tv ty : TE} {tt : TT} {x y z d e : D} {N : AEnds} {ts us : TS}
theorem rel_key {v : V} {k : Key} (r : Rel K H v (kD k)) : v = kV k := by
  cases k with
  | inl i => cases r; rfl
  | inr s => cases r; rfl
theorem rels_keys : ∀ {k : List Key} {vs : List V}, Rels K H vs (k.map kD) → vs = k.map kV
  | [], _, .nil => rfl
  | k :: ks, _, .cons a b => by rw [List.map_cons, rel_key a, rels_keys b]
theorem rel_kT {v : V} {k : List Key} (r : Rel K H v (kT k)) : ∃ b, v = .ref b ∧ H b = some (.tup (k.map kV)) := by
  cases r with
  | tup h hr =>
    cases h with
    | inl h => exact ⟨_, rfl, by rw [h, rels_keys hr]⟩
/-- {} -/
theorem a_dnewT (h : ∀ p, μ p = none → Φ (.ref p) (μ.set p (.dT []))) : AE K tDNewT τ μ Φ := fun σ H s c Q k p hp =>
  k _ _ _ _ (fr_put hp) (con_put (m := .dT []) hp c ⟨[], upd_same, .nil⟩) (.ref p) (h p (c.free hp))
theorem a_dnewK (h : ∀ p, μ p = none → Φ (.ref p) (μ.set p (.dK []))) : AE K tDNewK τ μ Φ := fun σ H s c Q k p hp =>
  k _ _ _ _ (fr_put hp) (con_put (m := .dK []) hp c ⟨[], upd_same, .nil⟩) (.ref p) (h p (c.free hp))
/-- what the dict at a holds at the key y, by the store -/
def Dg (μ : M) (a : Addr) (y : D) (o : Option D) : Prop :=
  (∃ kvs k, μ a = some (.dK kvs) ∧ y = kD k ∧ o = valD kvs k) ∨ (∃ kvs k, μ a = some (.dT kvs) ∧ y = kT k ∧ o = valD kvs k) ∨ ∃ od us kvs k, μ a = some (.fT od us kvs) ∧ y = kT k ∧ o = valD kvs k
theorem dg_ok {v : V} {a : Addr} {o : Option D} (c : Con K H μ) (g : Dg μ a y o) (r : Rel K H v y) : ∃ p, DGet H a v p ∧ p.isSome = o.isSome ∧ ∀ d, o = some d → ∃ u, p = some u ∧ Rel K H u d := by
  have fin : ∀ {κ : Type} [DecidableEq κ] {vs : List (κ × V)} {kvs : List (κ × D)} (k : κ), RelKV K H vs kvs → o = valD kvs k → (valV vs k).isSome = o.isSome ∧ ∀ d, o = some d → ∃ u, valV vs k = some u ∧ Rel K H u d := by
    intro κ _ vs kvs k rr e
    subst e
    refine ⟨kv_isSome rr k, fun d e => ?_⟩
    rcases kv_val rr k with ⟨_, b⟩ | ⟨v', d', a', b, r'⟩
    · rw [b] at e; cases e
    · rw [b] at e; cases e; exact ⟨v', a', r'⟩
  rcases g with ⟨kvs, k, ha, ey, eo⟩ | ⟨kvs, k, ha, ey, eo⟩ | ⟨od, us, kvs, k, ha, ey, eo⟩
  · subst ey
    obtain ⟨vs, hv, hr⟩ := c a _ ha
    rw [rel_key r]
    exact ⟨_, .inl ⟨vs, k, .inl hv, rfl, rfl⟩, fin k hr eo⟩
  · subst ey
    obtain ⟨vs, hv, hr⟩ := c a _ ha
    obtain ⟨b, e, hb⟩ := rel_kT r
    subst e
    exact ⟨_, .inr ⟨vs, k, b, .inl hv, rfl, hb, rfl⟩, fin k hr eo⟩
  · subst ey
    obtain ⟨vs, hv, hr, _⟩ := c a _ ha
    obtain ⟨b, e, hb⟩ := rel_kT r
    subst e
    exact ⟨_, .inr ⟨vs, k, b, .inr ⟨od, hv⟩, rfl, hb, rfl⟩, fin k hr eo⟩
/-- d[y] -/
theorem a_dget (h : AE K td τ μ fun o μ1 => AE K ty τ μ1 fun y μ2 => ∃ a d, o = .ref a ∧ Dg μ2 a y (some d) ∧ Φ d μ2) : AE K (tDGet td ty) τ μ Φ := fun σ H s c Q k =>
  h σ H s c _ fun o μ1 v H1 f1 c1 r1 p1 => p1 σ H1 (s.mono (f1.tx c)) c1 _ fun y μ2 w H2 f2 c2 r2 ⟨a, d, e, g, q⟩ => by
    subst e
    cases r1
    obtain ⟨p, g', _, hp⟩ := dg_ok c2 g r2
    obtain ⟨u, eu, ru⟩ := hp d rfl
    subst eu
    exact ⟨a, u, rfl, g', k d μ2 u H2 (f1.trans f2) c2 ru q⟩
/-- y in d -/
theorem a_din (h : AE K ty τ μ fun y μ1 => AE K td τ μ1 fun o μ2 => ∃ a p, o = .ref a ∧ Dg μ2 a y p ∧ Φ (.bl p.isSome) μ2) : AE K (tDIn ty td) τ μ Φ := fun σ H s c Q k =>
  h σ H s c _ fun y μ1 w H1 f1 c1 r1 p1 => p1 σ H1 (s.mono (f1.tx c)) c1 _ fun o μ2 v H2 f2 c2 r2 ⟨a, p, e, g, q⟩ => by
    subst e
    cases r2
    obtain ⟨p', g', hs, _⟩ := dg_ok c2 g (Rel.mono (f2.tx c1) _ _ r1)
    refine ⟨a, p', rfl, g', ?_⟩
    rw [hs]
    exact k _ μ2 _ H2 (f1.trans f2) c2 (.bl _) q
theorem a_dnotin (h : AE K ty τ μ fun y μ1 => AE K td τ μ1 fun o μ2 => ∃ a p, o = .ref a ∧ Dg μ2 a y p ∧ Φ (.bl (!p.isSome)) μ2) : AE K (tDNotIn ty td) τ μ Φ := fun σ H s c Q k =>
  h σ H s c _ fun y μ1 w H1 f1 c1 r1 p1 => p1 σ H1 (s.mono (f1.tx c)) c1 _ fun o μ2 v H2 f2 c2 r2 ⟨a, p, e, g, q⟩ => by
    subst e
    cases r2
    obtain ⟨p', g', hs, _⟩ := dg_ok c2 g (Rel.mono (f2.tx c1) _ _ r1)
    refine ⟨a, p', rfl, g', ?_⟩
    rw [hs]
    exact k _ μ2 _ H2 (f1.trans f2) c2 (.bl _) q
/-- d[y] = v -/
theorem s_dput (h : AE K tv τ μ fun v μ1 => AE K td τ μ1 fun o μ2 => AE K ty τ μ2 fun y μ3 => ∃ a, o = .ref a ∧
      ((∃ kvs k, μ3 a = some (.dT kvs) ∧ y = kT k ∧ kvs.length < sizeLine ∧ N.nx τ (μ3.set a (.dT (putKD kvs k v)))) ∨ ∃ kvs k, μ3 a = some (.dK kvs) ∧ y = kD k ∧ kvs.length < sizeLine ∧ N.nx τ (μ3.set a (.dK (putKD kvs k v))))) :
    AS K (sDPut td ty tv) τ μ N := fun σ H s c E k =>
  h σ H s c _ fun v μ1 w H1 f1 c1 r1 p1 => p1 σ H1 (s.mono (f1.tx c)) c1 _ fun o μ2 u H2 f2 c2 r2 p2 => p2 σ H2 (s.mono ((f1.trans f2).tx c)) c2 _ fun y μ3 x H3 f3 c3 r3 ⟨a, e, q⟩ => by
    subst e
    cases r2
    have fa := (f1.trans f2).trans f3
    have rw' : Rel K H3 w v := Rel.mono ((f2.trans f3).tx c1) _ _ r1
    rcases q with ⟨kvs, kk, ha, ey, hl, q⟩ | ⟨kvs, kk, ha, ey, hl, q⟩
    · subst ey
      obtain ⟨vs, hv, hr⟩ := c3 a _ ha
      obtain ⟨b, eb, hb⟩ := rel_kT r3
      subst eb
      have fr := fr_mut (H := H3) (o := .dT (putK vs kk w)) (m' := .dT (putKD kvs kk v)) ha
      have tx := tx_mut (o := .dT (putK vs kk w)) c3 ha
      exact ⟨a, _, rfl, .inr ⟨vs, kk, b, hv, rfl, hb, by rw [kv_len hr]; exact hl, rfl⟩, k.nx τ _ σ _ (fa.trans fr) (con_mut c3 ha ⟨_, upd_same, kv_put (RelKV.mono tx hr) kk (Rel.mono tx _ _ rw')⟩) (s.mono ((fa.trans fr).tx c)) q⟩
    · subst ey
      obtain ⟨vs, hv, hr⟩ := c3 a _ ha
      have ek := rel_key r3
      subst ek
      have fr := fr_mut (H := H3) (o := .dK (putK vs kk w)) (m' := .dK (putKD kvs kk v)) ha
      have tx := tx_mut (o := .dK (putK vs kk w)) c3 ha
      exact ⟨a, _, rfl, .inl ⟨vs, kk, hv, rfl, by rw [kv_len hr]; exact hl, rfl⟩, k.nx τ _ σ _ (fa.trans fr) (con_mut c3 ha ⟨_, upd_same, kv_put (RelKV.mono tx hr) kk (Rel.mono tx _ _ rw')⟩) (s.mono ((fa.trans fr).tx c)) q⟩
end
end Z
namespace ST
open PySem PySem.Spec PyProof.Rows L2 PpSet
section
variable {X : Cx} {pins : List (Addr × Obj)} {σ : L2.St} {H : Hp} {s : Shared} {E : Value → Shared → Prop}
/-- set.add of a tuple of ints -/
theorem add_tup {Dl b : Addr} {L : List (Addr × List Int)} {k : List Int} {Q : Value → Shared → Prop} (hu : X.A.units + 1 < cLine) (I : Inv X pins σ H s) (hD : H Dl = some (SetTO X.prog X.w Dl L)) (hb : H b = some (.tup (k.map V.int)))
    (hL : ∀ p ∈ L, H p.1 = some (.tup (p.2.map V.int))) (few : L.length + 1 < 64)
    (fin : ∀ L2 s2, (k ∈ L.map (·.2) → L2 = L) → (k ∉ L.map (·.2) → L2.Perm ((b, k) :: L)) → Inv X pins σ (upd H Dl (SetTO X.prog X.w Dl L2)) s2 → Q .none s2) :
    wpAny (model X.prog X.w) X.A (call (.builtin "set.add") [.ref Dl, .ref b]) Q E s := by
  have tup : ∀ {c : Addr} {l : List Int}, H c = some (.tup (l.map V.int)) → IsT X.prog X.w s.heap l c := fun h => I.isT (.inl (.inl h))
  have sT : SetT0 X.prog X.w s.heap Dl L := (I.hok Dl _ hD).1
  obtain ⟨es, ep, t, R⟩ := sT.full fun p hp => tup (hL p hp)
  obtain ⟨o, ho, hex, hd⟩ := R.ob
  have isSet : s.TypeIs (.ref Dl) "set" := ⟨o, ho, hex.1⟩
  refine wpAny_call_entry F.slot_set_add isSet F.entry_set_add ?_ (F.args_set_add_2 _ _)
  have hash := fun Q => wpAny_pyHash_tuple (prog := X.prog) (w := X.w) (A := X.A.in1) (E := E) (Q := Q) (show X.A.units + 1 < cLine from hu) (tup hb)
  simp only [Builtin.«set.add», Builtin.Frozenset.oneOther, Builtin.Frozenset.addrOf, setAdd, List.isEmpty_nil, bind_assoc]
  refine wpAny_bind (wpAny_pure (wpAny_bind (wpAny_pure (wpAny_bind (wpAny_holding (wpAny_bind (hash _ ?_)))))))
  refine add_at (s := { s with toks := s.toks + (k.length + 1) }) R (tup hb) (by show X.A.units + 1 < cLine; exact hu) few fun _ h2 L2 es2 ep2 t2 sb R2 c1 c2 => ?_
  obtain ⟨o2, ho2, _⟩ := R2.ob
  show wpAny _ _ (ret Value.none) _ _ _
  exact wpAny_pure ⟨_, rfl, fin L2 _ c1 c2 (I.write (e := Dl) (t' := s.toks + (k.length + 1)) (by rw [hD]; trivial) (.inl rfl) (fun c u hc hu => (sb.2 c hc).trans hu) ⟨o2, ho2⟩ (setTO_new R2.t0))⟩
/-- {elt for target in iter if ..}, elt a tuple of ints: Dl the new set -/
def tScT (P : Program) (w : World) (wi : TI) (g : TG) (tt : TT) (te : TE) (vs : List Nat) : TE := fun σ H Q => wi σ H fun J H1 => ∀ Dl, H1 Dl = none → ∃ W : Nat → Nat → Hp → Prop, (∃ m, W 0 m (upd H1 Dl (SetTO P w Dl []))) ∧ ∀ i m H, W i m H →
  (J.stop i H ∧ Q (.ref Dl) H) ∨ (J.go i H ∧ ∃ Nx : Hp → Prop, (∀ H', Nx H' → ∃ m', m' < m ∧ W (i + 1) m' H') ∧ ∀ x H', J.yld i H x H' → g x (wipe σ vs) H' fun σ2 H2 => wipe σ2 vs = wipe σ vs ∧ tt σ2 H2 fun b H3 =>
    if b = true then te σ2 H3 fun y H4 => ∃ (c : Addr) (k : List Int) (L : List (Addr × List Int)), y = .ref c ∧ H4 c = some (.tup (k.map V.int)) ∧ H4 Dl = some (SetTO P w Dl L) ∧ (∀ p ∈ L, H4 p.1 = some (.tup (p.2.map V.int))) ∧ L.length + 1 < 64 ∧
      ∀ L2, (k ∈ L.map (·.2) → L2 = L) → (k ∉ L.map (·.2) → L2.Perm ((c, k) :: L)) → Nx (upd H4 Dl (SetTO P w Dl L2)) else Nx H3)
theorem fresh_set {P : Program} {w : World} {H : Hp} {h : Heap} : ObjOk P w H (h.push { cls := .type "set", dict := none, data := .set #[] 0 (.fresh 0 0 (!w.params.followText "set-order")) }) h.objs.size (SetTO P w h.objs.size []) :=
  setTO_new (SetTR.t0 (setTR_fresh (P := P) (w := w) (Heap.get?_push_size _ rfl)))
theorem pe_scT {elt tg iter : Expr} {ifs : List Expr} {scope : Scope} {own : List (PySem.Str × Nat)} {pos : Pos} {wi : TI} {g : TG} {tt : TT} {te : TE} (hu : X.A.units + 1 < cLine) (hc : X.calm = true) (hN : X.N.Nodup) (hi : PI X tg iter wi) (ok : BlkOk X.N X.env.scope scope own)
    (hg : ∀ (s : Shared) (H : Hp) (C : Addr) (cl : List (PySem.Str × Addr)) (fp : List Addr), PG (X.blk s H scope (compEnvC scope cl C X.env) fp) tg g)
    (ht : ∀ (s : Shared) (H : Hp) (C : Addr) (cl : List (PySem.Str × Addr)) (fp : List Addr), PTs (X.blk s H scope (compEnvC scope cl C X.env) fp) ifs tt)
    (he : ∀ (s : Shared) (H : Hp) (C : Addr) (cl : List (PySem.Str × Addr)) (fp : List Addr), PE (X.blk s H scope (compEnvC scope cl C X.env) fp) elt te)
    (hs : ∀ x, foldedSetIterable iter X.env x = pure x := by intro _; rfl) :
    PE X (.SetComp elt [⟨tg, iter, ifs, 0⟩] scope pos) (tScT X.prog X.w wi g tt te (own.map (·.2))) := by
  refine ⟨fun pins s0 σ H0 Q I0 ask => ?_⟩
  rw [eval_SetComp]
  have cells : ∀ y ∈ scope.names, y.2 = .free → ∃ c, X.env.cells.lookup y.1 = some c := fun y hy e => I0.ok.has _ (ok.free y hy e)
  refine wpAny_comprehension_free (use := none) rfl hs (closure_ok cells) ok.kind (fun y hy e => by rw [ok.uniq y hy, e]) (thn (hi.run pins s0 σ H0 _ I0 ask) fun xv s1 hx => thn hx fun itv s2 got => ?_)
  obtain ⟨it, fp, tn, J, HI, eit, I2, T, st2, f2, q⟩ := got
  subst eit
  refine newSet_ok (newEnv_comp ?_)
  -- the new set
  obtain ⟨Dl, eD⟩ : ∃ d, d = s2.heap.objs.size := ⟨_, rfl⟩
  rw [← eD]
  obtain ⟨s3, e3⟩ : ∃ z : Shared, z = { s2 with heap := s2.heap.push { cls := .type "set", dict := none, data := .set #[] 0 (.fresh 0 0 (!X.w.params.followText "set-order")) } } := ⟨_, rfl⟩
  rw [← e3]
  have no : HI Dl = none := I2.hok.fresh (Nat.le_of_eq eD.symm)
  obtain ⟨H3, eH⟩ : ∃ z, z = upd HI Dl (SetTO X.prog X.w Dl []) := ⟨_, rfl⟩
  obtain ⟨W, ⟨m0, w0⟩, turn⟩ := q Dl no
  rw [← eH] at w0
  have I3 : Inv X pins σ H3 s3 := by
    subst e3 eH eD
    exact I2.laid (t' := s2.toks) (fun b o e => Heap.get?_push_of_some _ e) (Nat.le_refl _) fresh_set
  have old3 : ∀ b o, s2.heap.get? b = some o → s3.heap.get? b = some o := fun b o e => by subst e3; exact Heap.get?_push_of_some _ e
  have f3 : ∀ b ∈ fp, FpOk X pins H3 b ∧ b < s3.heap.objs.size := fun b hb => by
    obtain ⟨o, ob, _⟩ := T.obj _ _ st2 b hb
    refine ⟨⟨?_, (f2 b hb).2⟩, Heap.lt_size (old3 b o ob)⟩
    rw [eH, upd_ne (by rw [eD]; exact Nat.ne_of_lt (Heap.lt_size ob))]
    exact (f2 b hb).1
  have st3 := T.keep _ _ s3.heap st2 fun b _ o e => old3 b o e
  have I4 := block_start I3 ok hN f3
  have pg := hg s3 H3 s3.heap.objs.size (cellsFrom (s3.heap.objs.size + 1) scope.names (cloFrom X.env.cells scope.names [])) fp
  have pt := ht s3 H3 s3.heap.objs.size (cellsFrom (s3.heap.objs.size + 1) scope.names (cloFrom X.env.cells scope.names [])) fp
  have pe := he s3 H3 s3.heap.objs.size (cellsFrom (s3.heap.objs.size + 1) scope.names (cloFrom X.env.cells scope.names [])) fp
  have Cl : (compEnvC scope (cellsFrom (s3.heap.objs.size + 1) scope.names (cloFrom X.env.cells scope.names [])) s3.heap.objs.size X.env).locals = s3.heap.objs.size := rfl
  show codeAny _ _ (.compStart _ 0 (.ref it) (.ref Dl) (compEnvC scope (cellsFrom (s3.heap.objs.size + 1) scope.names (cloFrom X.env.cells scope.names [])) s3.heap.objs.size X.env)) _ { s3 with heap := pushCells (s3.heap.push { cls := .type "dict", data := .dict #[] }) scope.names }
  generalize compEnvC scope (cellsFrom (s3.heap.objs.size + 1) scope.names (cloFrom X.env.cells scope.names [])) s3.heap.objs.size X.env = ce at I4 pg pt pe Cl ⊢
  obtain ⟨s4, e4⟩ : ∃ z : Shared, z = { s3 with heap := pushCells (s3.heap.push { cls := .type "dict", data := .dict #[] }) scope.names } := ⟨_, rfl⟩
  rw [← e4] at I4 ⊢
  have st4 := T.keep _ _ s4.heap st3 fun b _ o e => by rw [e4]; exact pushCells_keeps _ _ _ _ (Heap.get?_push_of_some _ e)
  have stay : ∀ {σ' : L2.St} {H' : Hp} {s' : Shared}, Inv (X.blk s3 H3 scope ce fp) [] σ' H' s' → (∀ b ∈ fp, H' b = none) → ∀ b ∈ fp, FpOk (X.blk s3 H3 scope ce fp) [] H' b := fun {σ' H' s'} I' hn b hb =>
    ⟨hn b hb, (I'.ok.exf b hb).1, I'.ok.exfs b hb, .inl hb, fun x c e => (I'.ok.exf b hb).2 x c e, fun p hp => nomatch (show p ∈ ([] : List (Addr × Obj)) from hp)⟩
  let Lp : Nat → Shared → Prop := fun n s' => ∃ i H', Inv (X.blk s3 H3 scope ce fp) [] (wipe σ (own.map (·.2))) H' s' ∧ tn i s'.heap ∧ (∀ b ∈ fp, H' b = none) ∧ W i n H'
  refine (fun loop => codeAny_compStart_set loop (T.self X.A 0 s4 _ _ st4 loop)) (compLoopS_any Lp (fun n s5 lp => ?_) m0 ⟨0, H3, I4, st4, fun b hb => (f3 b hb).1.1, w0⟩)
  obtain ⟨i, H5, I5, st5, n5, w5⟩ := lp
  rcases turn i n H5 w5 with ⟨stop, qq⟩ | ⟨go, Nx, hNx, step⟩
  · -- the end: back in the def
    refine thnF (T.done (X.blk s3 H3 scope ce fp) rfl rfl rfl hc i [] s5 _ H5 (fun _ _ => False) I5 (stay I5 n5) st5 stop) fun r s6 ⟨er, I6⟩ => ?_
    subst er
    have I7 : Inv X pins σ H5 s6 := I3.call' (ch := fp) I6.os I6.base I6.hok I6.bare fun b hb => ⟨(f3 b hb).1.2.2.2.1, (f3 b hb).1.2.1, (f3 b hb).1.2.2.2.2.1, (f3 b hb).1.2.2.2.2.2⟩
    have freeC : H5 s3.heap.objs.size = none := by rw [← Cl]; exact I6.free
    obtain ⟨m, hn, _⟩ := I6.loc
    have hn : s6.heap.Ns s3.heap.objs.size m := by rw [← Cl]; exact hn
    obtain ⟨g0, g1, g2, g3, g4, g5⟩ := I3.fpOk (Nat.le_refl _) freeC
    exact ⟨m, hn, fun h2 sb => ⟨.ref Dl, H5, I7.turned (t' := s6.toks) (fun b o hb e => (sb.2 b hb).trans e) g0 g1 g3 g4 g5, rfl, qq⟩⟩
  · refine thnF (T.item (X.blk s3 H3 scope ce fp) rfl rfl rfl hc i [] s5 _ H5 (fun _ _ => False) I5 (stay I5 n5) st5 go) fun r s6 ⟨u, er, h6⟩ => ?_
    subst er
    refine thnF h6 fun _ s7 ⟨x, H7, I7, r7, y7, st7, n7⟩ => ?_
    refine thnF (pg.run _ s7 _ H7 x u _ (I7.pinned (stay I7 n7) (T.obj _ _ st7)) r7 (step x H7 y7)) fun _ s8 ⟨σ8, H8, I8, w8, q8⟩ => ?_
    refine thnF (pt.run _ s8 σ8 H8 _ I8 q8) fun b s9 ⟨H9, I9, q9⟩ => ?_
    have next : ∀ {s' : Shared} {H' : Hp}, Inv (X.blk s3 H3 scope ce fp) ([] ++ pinsAt fp s7.heap) σ8 H' s' → Nx H' → ∃ m, m < n ∧ Lp m s' := fun {s' H'} I' nx => by
      obtain ⟨m2, lt, w2⟩ := hNx H' nx
      have there : ∀ b ∈ fp, ∃ o, s7.heap.get? b = some o ∧ s'.heap.get? b = some o ∧ H' b = none := fun b hb => by
        obtain ⟨o, e, _⟩ := T.obj _ _ st7 b hb
        have z := I'.pin (b, o) (List.mem_append_right _ (List.mem_append_right _ (mem_pinsAt hb e)))
        exact ⟨o, e, z.1, z.2.1⟩
      refine ⟨m2, lt, i + 1, H', (I'.unpinned (pins := [])).weak (by rw [← w8, wipe_length]) (fun j v e => (wipe_some (by rw [← w8] at e; exact e)).1), T.keep _ _ _ st7 fun b hb o e => ?_, fun b hb => ?_, w2⟩
      · obtain ⟨o2, e2, e3', _⟩ := there b hb
        rw [e] at e2; cases e2; exact e3'
      · obtain ⟨_, _, _, z⟩ := there b hb
        exact z
    cases b with
    | false =>
      simp only [Bool.false_eq_true, if_false] at q9 ⊢
      exact next I9 q9
    | true =>
      simp only [if_true] at q9 ⊢
      refine thnF (pe.run _ s9 σ8 H9 _ I9 q9) fun z s10 ⟨yv, H10, I10, r10, c, k, L, ey, hcT, hDl, hL, few, nx⟩ => ?_
      subst ey
      cases (show z = Value.ref c from r10)
      exact add_tup (X := X.blk s3 H3 scope ce fp) hu I10 hDl hcT hL few fun L2 s11 c1 c2 I11 => next I11 (nx L2 c1 c2)
/-- len of it -/
def rLenST (P : Program) (w : World) : List V → Hp → VK → Prop := fun xs H Q => ∃ (a : Addr) (L : List (Addr × List Int)), xs = [.ref a] ∧ H a = some (SetTO P w a L) ∧ Q (.int L.length) H
theorem cr_lenST : CallR X (.builtin "len") (rLenST X.prog X.w) := by
  intro pins s σ H xs us Q I r h
  obtain ⟨a, L, e, ha, q⟩ := h
  subst e
  cases r with
  | @cons _ u _ ur r rn =>
    cases rn
    cases (show u = Value.ref a from r)
    have sT : SetT0 X.prog X.w s.heap a L := (I.hok a _ ha).1
    obtain ⟨es, ep, t, ⟨o, ho, hex, hd⟩, rows, tab, _, _, _, room, few⟩ := sT.ex
    have sz : es.size = L.length := by rw [← Array.length_toList, rows]; exact List.length_map ..
    have fit : t.fits es.size = true := by
      have a1 : t.place.size = L.length := by rw [tab.sz, List.length_map]
      have a2 : t.dummies.size = 0 := by rw [tab.dm]; rfl
      unfold SetTable.fits SetTable.fill
      rw [Bool.and_eq_true, beq_iff_eq, decide_eq_true_eq, a2, sz]
      omega
    refine call_len_set ho hex hd fit (by rw [sz]; have := sizeLine_eq; omega) ⟨.int L.length, H, I.tok _, ⟨_, by rw [sz]⟩, q⟩
end
end ST
namespace Z
open PySem L2 ST
structure StAt (P : Program) (w : World) (K : PySem.W.Frag) (Dl : Addr) (μ : M) (H0 : Hp) (acc : List (List Int)) (H' : Hp) : Prop where
  fr : Fr μ μ H0 H'
  con : Z.Con K H' μ
  no : μ Dl = none
  at_ : ∃ L : List (Addr × List Int), H' Dl = some (SetTO P w Dl L) ∧ (∀ p ∈ L, H' p.1 = some (.tup (p.2.map V.int))) ∧ (L.map (·.2)).Nodup ∧ L.length ≤ acc.length ∧ ∀ k, k ∈ L.map (·.2) ↔ k ∈ acc
theorem seto_ne {P : Program} {w : World} {a : Addr} {L : List (Addr × List Int)} {o : HO} (h : SetTO P w a L = o) (n : ∀ φ, o ≠ .ext φ) : False := n _ h.symm
theorem seto_nc {P : Program} {w : World} {a : Addr} {L : List (Addr × List Int)} {q : Str} (h : SetTO P w a L = LamX.CodeO a q) : False := by
  unfold SetTO LamX.CodeO at h
  injection h with h
  obtain ⟨o, ho⟩ : ∃ o : Obj, o = { cls := .none, data := .fields #[.none, .str q 0] } := ⟨_, rfl⟩
  have e : (Heap.mk (Array.replicate (a + 1) o) {}).get? a = some o := by
    subst ho
    unfold Heap.get?
    simp
  have z := congrFun h (Heap.mk (Array.replicate (a + 1) o) {})
  have k : SetT0 P w (Heap.mk (Array.replicate (a + 1) o) {}) a L := by
    rw [z]
    subst ho
    exact ⟨_, _, 0, e, rfl, rfl⟩
  obtain ⟨es, ep, t, ⟨o2, h2, _, h3⟩, _⟩ := k.ex
  rw [e] at h2
  cases h2
  rw [ho] at h3
  cases h3
theorem rels_ints {K : PySem.W.Frag} {H : Hp} : ∀ {k : List Int} {vs : List V}, Rels K H vs (k.map D.int) → vs = k.map V.int
  | [], _, .nil => rfl
  | _ :: _, _, .cons (.int _) b => by rw [List.map_cons, rels_ints b]
theorem rel_tupI {K : PySem.W.Frag} {H : Hp} {v : V} {k : List Int} (r : Rel K H v (.tup (k.map D.int))) : ∃ c, v = .ref c ∧ H c = some (.tup (k.map V.int)) := by
  cases r with
  | tup h hr =>
    cases h with
    | inl h => exact ⟨_, rfl, by rw [h, rels_ints hr]⟩
section
variable {P : Program} {w : World} {K : PySem.W.Frag} {τ : T} {μ : M} {H H0 H' : Hp} {σ : L2.St} {Φ : D → M → Prop} {te : TE} {wi : TI} {g : TG} {Dl : Addr} {acc : List (List Int)}
theorem st_upd {L L2 : List (Addr × List Int)} (c : Z.Con K H μ) (no : μ Dl = none) (h : H Dl = some (SetTO P w Dl L)) : Tx H (upd H Dl (SetTO P w Dl L2)) ∧ Z.Con K (upd H Dl (SetTO P w Dl L2)) μ := by
  have t : Tx H (upd H Dl (SetTO P w Dl L2)) := ⟨fun a xs e => by rw [upd_ne (fun z => by subst z; rw [h] at e; exact seto_ne (Option.some.inj e) (fun _ z => nomatch z))]; exact e,
    fun a ob xs e => by rw [upd_ne (fun z => by subst z; rw [h] at e; exact seto_ne (Option.some.inj e) (fun _ z => nomatch z))]; exact e,
    fun a q e => by rw [upd_ne (fun z => by subst z; rw [h] at e; exact seto_nc (Option.some.inj e))]; exact e⟩
  exact ⟨t, fun a m e => (c a m e).mono t (upd_ne (fun z => by subst z; rw [no] at e; cases e))⟩
theorem st_start (c : Z.Con K H μ) (hD : H Dl = none) : StAt P w K Dl μ H [] (upd H Dl (SetTO P w Dl [])) :=
  ⟨fr_new hD, con_new hD c, c.free hD, [], upd_same, (fun _ h => absurd h List.not_mem_nil), List.nodup_nil, Nat.le_refl _, fun _ => Iff.rfl⟩
/-- how many different ones there are -/
def NumOf (l : List (List Int)) (n : Nat) : Prop := ∃ d : List (List Int), d.Nodup ∧ (∀ k, k ∈ d ↔ k ∈ l) ∧ n = d.length
theorem a_lenSc {js : List Nat} {dec : D → List D → Prop} (hg : TgOk K g js dec)
    (h : AI K wi τ μ fun xs μw back => ∃ f : D → List Int, xs.length < 63 ∧ (∀ x ∈ xs, ∃ ds, dec x ds ∧ ds.length = js.length ∧ AE K te (sets τ js ds) μw fun y μ2 => y = .tup ((f x).map D.int) ∧ μ2 = μw) ∧ ∀ n, NumOf (xs.map f) n → Φ (.int (n : Int)) (back μw)) :
    AE K (tCB (rLenST P w) (tCons (tScT P w wi g tYes te js) tNil)) τ μ Φ := fun σ H s c Q k => by
  refine h σ H s c _ fun J xs out G H1 μw back tx c1 W g1 o1 B ⟨f, hz, hs, hd⟩ Dl hD => ?_
  have s1 := s.mono tx
  refine ⟨fun i m H' => m = xs.length - i ∧ i ≤ xs.length ∧ StAt P w K Dl μw H1 ((xs.take i).map f) H', ⟨xs.length, by omega, Nat.zero_le _, st_start c1 hD⟩, ?_⟩
  rintro i m H' ⟨rfl, hi, S⟩
  have gH : G H' := W.keep _ _ _ _ c1 o1 g1 S.fr
  by_cases hlt : i < xs.length
  · refine .inr ⟨W.go i H' hlt gH, fun H2 => StAt P w K Dl μw H1 ((xs.take (i + 1)).map f) H2, fun H2 S2 => ⟨xs.length - (i + 1), by omega, rfl, hlt, S2⟩, fun v H2 y => ?_⟩
    obtain ⟨x, hx, rx, hH⟩ := W.yld i H' v H2 hlt gH y
    have S2 : StAt P w K Dl μw H1 ((xs.take i).map f) H2 := by
      rcases hH with e | ⟨T0, vs, hT, e⟩
      · rw [e]; exact S
      · obtain ⟨f2, c2⟩ := yld_ok (vs := vs) S.con hT
        obtain ⟨L, a1, a2, a3, a4, a5⟩ := S.at_
        rw [e]
        exact ⟨S.fr.trans f2, c2, S.no, L, (f2 Dl _ S.no a1).1, fun p hp => (f2.tx S.con).t _ _ (a2 p hp), a3, a4, a5⟩
    obtain ⟨ds, hdec, hl, he⟩ := hs x (List.mem_of_getElem? hx)
    refine hg x ds v _ H2 hdec rx _ fun vs hvs => ⟨by rw [wipe_sets (fun _ h => h), wipe_wipe], ?_⟩
    have s' : Slots K H2 (sets τ js ds) (sets (wipe σ js) js vs) := slots_block (s1.mono (S2.fr.tx c1)) hvs hl
    refine he _ H2 s' S2.con _ fun y μ2 u H4 f4 c4 r4 ⟨ey, em⟩ => ?_
    subst ey em
    obtain ⟨ca, eu, hc⟩ := rel_tupI r4
    subst eu
    obtain ⟨L, a1, a2, a3, a4, a5⟩ := S2.at_
    have b1 : H4 Dl = some (SetTO P w Dl L) := (f4 Dl _ S2.no a1).1
    have b2 : ∀ p ∈ L, H4 p.1 = some (.tup (p.2.map V.int)) := fun p hp => (f4.tx S2.con).t _ _ (a2 p hp)
    have tl : ((xs.take i).map f).length ≤ i := by rw [List.length_map, List.length_take]; omega
    refine ⟨ca, f x, L, rfl, hc, b1, b2, by omega, fun L2 k1 k2 => ?_⟩
    obtain ⟨t5, c5⟩ := st_upd (L2 := L2) c4 S2.no b1
    have more : (xs.take (i + 1)).map f = (xs.take i).map f ++ [f x] := by
      rw [List.take_add_one, hx, List.map_append]; rfl
    have ff : Fr μ2 μ2 H1 (upd H4 Dl (SetTO P w Dl L2)) := fun a o n e => by
      obtain ⟨e2, m2⟩ := (S2.fr.trans f4) a o n e
      exact ⟨by rw [upd_ne (ne_of_none e hD)]; exact e2, m2⟩
    refine ⟨ff, c5, S2.no, L2, upd_same, ?_⟩
    rw [more]
    by_cases hm : f x ∈ L.map (·.2)
    · have e := k1 hm
      subst e
      refine ⟨fun p hp => t5.1 _ _ (b2 p hp), a3, by rw [List.length_append]; omega, fun k => ?_⟩
      rw [List.mem_append, a5 k]
      exact ⟨.inl, fun z => z.elim id fun z => by rw [List.mem_singleton.mp z]; exact (a5 _).mp hm⟩
    · have pm := k2 hm
      refine ⟨fun p hp => t5.1 _ _ ?_, ?_, ?_, fun k => ?_⟩
      · rcases List.mem_cons.mp (pm.mem_iff.mp hp) with e | z
        · rw [e]; exact hc
        · exact b2 p z
      · exact (pm.map (·.2)).nodup_iff.mpr (List.nodup_cons.mpr ⟨hm, a3⟩)
      · rw [pm.length_eq, List.length_cons, List.length_append]
        simp only [List.length_cons, List.length_nil]
        omega
      · rw [(pm.map (·.2)).mem_iff, List.map_cons, List.mem_cons, List.mem_append, List.mem_singleton, a5 k]
        exact ⟨fun z => z.symm, fun z => z.symm⟩
  · have e : i = xs.length := by omega
    subst e
    obtain ⟨L, a1, a2, a3, a4, a5⟩ := S.at_
    rw [List.take_length] at a5
    refine .inl ⟨W.stop _ H' (Nat.le_refl _) gH, ?_⟩
    refine ⟨Dl, L, rfl, a1, k _ (back μw) _ H' (B.fr _ _ S.fr) (B.con _ _ S.fr S.con) (.int _) (hd L.length ⟨L.map (·.2), a3, a5, by rw [List.length_map]⟩)⟩
end
theorem num_all {l : List (List Int)} {n : Nat} (h : l.Nodup) (m : NumOf l n) : n = l.length := by
  obtain ⟨d, h1, h2, e⟩ := m
  rw [e]
  exact Nat.le_antisymm (List.Nodup.length_le_of_subset h1 fun k hk => (h2 k).mp hk) (List.Nodup.length_le_of_subset h fun k hk => (h2 k).mpr hk)
theorem few_of_dup : ∀ (l d : List (List Int)), d.Nodup → (∀ k, k ∈ d → k ∈ l) → ¬ l.Nodup → d.length < l.length
  | [], _, _, _, h => absurd List.nodup_nil h
  | x :: r, d, hd, hs, h => by
    rw [List.length_cons]
    by_cases hx : x ∈ r
    · have := List.Nodup.length_le_of_subset hd fun k hk => by
        rcases List.mem_cons.mp (hs k hk) with e | z
        · rw [e]; exact hx
        · exact z
      omega
    · have hr : ¬ r.Nodup := fun z => h (List.nodup_cons.mpr ⟨hx, z⟩)
      have := few_of_dup r (d.erase x) (hd.erase x) (fun k hk => by
        have hk2 := (List.Nodup.mem_erase_iff hd).mp hk
        rcases List.mem_cons.mp (hs k hk2.2) with e | z
        · exact absurd e hk2.1
        · exact z) hr
      have h2 : d.length ≤ (d.erase x).length + 1 := by rw [List.length_erase]; split <;> omega
      omega
theorem num_some {l : List (List Int)} {n : Nat} (h : ¬ l.Nodup) (m : NumOf l n) : n < l.length := by
  obtain ⟨d, h1, h2, e⟩ := m
  rw [e]
  exact few_of_dup l d h1 (fun k hk => (h2 k).mp hk) h
end Z
namespace Z
open PySem L2 PyProof.Rows
section
variable {X : Cx} {a b c e : Expr} {ta tb tc te : TE} {pos : Pos}
def tChain3 (r1 r2 r3 : R2) (ta tb tc te : TE) : TE := fun σ H Q => ta σ H fun x H1 => tb σ H1 fun y H2 => r1 x y H2 fun z H3 => ∃ k, z = .bl k ∧
  (if k = true then tc σ H3 fun w H4 => r2 y w H4 fun z' H5 => ∃ k', z' = .bl k' ∧ (if k' = true then te σ H5 fun u H6 => r3 w u H6 Q else Q (.bl false) H5) else Q (.bl false) H3)
theorem pe_chain3 {o1 o2 o3 : CmpOp} {r1 r2 r3 : R2} (h1 : OpR X (compareOp o1) r1) (h2 : OpR X (compareOp o2) r2) (h3 : OpR X (compareOp o3) r3) (ha : PE X a ta) (hb : PE X b tb) (hc : PE X c tc) (he : PE X e te)
    (hm : lastMarks [o1, o2, o3] [b, c, e] = false := by with_unfolding_all rfl) : PE X (.Compare a [o1, o2, o3] [b, c, e] pos) (tChain3 r1 r2 r3 ta tb tc te) := by
  refine ⟨fun pins s σ H Q I h => ?_⟩
  refine Compare_chain (thn (ha.run pins s σ H _ I h) fun v s1 ⟨x, H1, I1, k1, q1⟩ => chain_link (thn (hb.run pins s1 σ H1 _ I1 q1) fun u s2 ⟨y, H2, I2, k2, q2⟩ =>
    thn (h1 pins s2 σ H2 x y v u _ I2 k1 k2 q2) fun d s3 ⟨z, H3, I3, k3, b1, eb, q3⟩ => ?_)) hm
  subst eb
  cases k3
  refine wpAny_truthy_bool ?_
  cases b1 with
  | false => exact ite_ff ⟨.bl false, H3, I3, rfl, q3⟩
  | true =>
    refine ite_tt (chain_link (thn (hc.run pins s3 σ H3 _ I3 q3) fun w s4 ⟨z', H4, I4, k4, q4⟩ => thn (h2 pins s4 σ H4 y z' u w _ I4 k2 k4 q4) fun d2 s5 ⟨z2, H5, I5, k5, b2, eb2, q5⟩ => ?_))
    subst eb2
    cases k5
    refine wpAny_truthy_bool ?_
    cases b2 with
    | false => exact ite_ff ⟨.bl false, H5, I5, rfl, q5⟩
    | true => exact ite_tt (chain_last (thn (he.run pins s5 σ H5 _ I5 q5) fun w' s6 ⟨z6, H6, I6, k6, q6⟩ => h3 pins s6 σ H6 z' z6 w w' Q I6 k4 k6 q6))
end
section
variable {K : PySem.W.Frag} {τ : T} {μ μ1 μ2 : M} {H H1 H2 : Hp} {σ : L2.St} {Φ Ψ : D → M → Prop} {ta tb tc td te : TE} {r1 r2 r3 : R2} {d e : D} {N : AEnds}
theorem a_chain3 (h : AE K ta τ μ fun d μ1 => AE K tb τ μ1 fun e μ2 => RO K r1 d e μ2 fun z μ3 => ∃ b, z = .bl b ∧
      if b = true then AE K tc τ μ3 fun w μ4 => RO K r2 e w μ4 fun z' μ5 => ∃ b', z' = .bl b' ∧ if b' = true then AE K te τ μ5 fun u μ6 => RO K r3 w u μ6 Φ else Φ (.bl false) μ5 else Φ (.bl false) μ3) :
    AE K (tChain3 r1 r2 r3 ta tb tc te) τ μ Φ := by
  intro σ H s c Q k
  refine h σ H s c _ fun d μ1 v H1 f1 c1 k1 p1 => ?_
  refine p1 σ H1 (s.mono (f1.tx c)) c1 _ fun e μ2 u H2 f2 c2 k2 p2 => ?_
  refine p2 H2 v u c2 (Rel.mono (f2.tx c1) _ _ k1) k2 _ fun z μ3 w H3 f3 c3 kz ⟨b, ez, p3⟩ => ?_
  subst ez
  cases kz
  refine ⟨b, rfl, ?_⟩
  have f13 := (f1.trans f2).trans f3
  cases b with
  | false => exact k _ μ3 _ H3 f13 c3 (.bl false) (show Φ (.bl false) μ3 from p3)
  | true =>
    have p3' : AE K tc τ μ3 fun w μ4 => RO K r2 e w μ4 fun z' μ5 => ∃ b', z' = .bl b' ∧ if b' = true then AE K te τ μ5 fun u μ6 => RO K r3 w u μ6 Φ else Φ (.bl false) μ5 := p3
    rw [if_pos rfl]
    refine p3' σ H3 (s.mono (f13.tx c)) c3 _ fun x4 μ4 w' H4 f4 c4 k4 p4 => ?_
    refine p4 H4 u w' c4 (Rel.mono ((f3.trans f4).tx c2) _ _ k2) k4 _ fun z' μ5 o H5 f5 c5 kz' ⟨b', ez', p5⟩ => ?_
    subst ez'
    cases kz'
    refine ⟨b', rfl, ?_⟩
    have f15 := (f13.trans f4).trans f5
    cases b' with
    | false => exact k _ μ5 _ H5 f15 c5 (.bl false) (show Φ (.bl false) μ5 from p5)
    | true =>
      have p5' : AE K te τ μ5 fun u μ6 => RO K r3 x4 u μ6 Φ := p5
      rw [if_pos rfl]
      refine p5' σ H5 (s.mono (f15.tx c)) c5 _ fun u2 μ6 v6 H6 f6 c6 k6 p6 => ?_
      exact p6 H6 w' v6 c6 (Rel.mono ((f5.trans f6).tx c4) _ _ k4) k6 Q fun z μ7 o7 H7 f7 c7 k7 p7 => k z μ7 o7 H7 ((f15.trans f6).trans f7) c7 k7 p7
end
theorem rc_max3 {K : PySem.W.Frag} {i j l : Int} {μ : M} {Φ : D → M → Prop} (q : Φ (.int (max (max i j) l)) μ) : RC K (rNuC3 nuMax3) [.int i, .int j, .int l] μ Φ := fun H xs c r Q k => by
  cases r with
  | cons a r =>
    cases r with
    | cons b r =>
      cases r with
      | cons d r =>
        cases a; cases b; cases d; cases r
        refine ⟨_, _, _, .int (max (max i j) l), rfl, ?_, k _ μ _ H Fr.refl c (.int _) q⟩
        have m2 : ∀ x y : Int, nuMax2 (.int x) (.int y) = some (.int (max x y)) := fun x y => by
          unfold nuMax2 nuLt nuCB
          simp only [Option.map_some]
          by_cases h : x < y
          · rw [if_pos (decide_eq_true h)]; congr 2; omega
          · rw [if_neg (by simpa using h)]; congr 2; omega
        unfold nuMax3
        rw [m2, Option.bind_some, m2]
def gFld (K : PySem.W.Frag) (to : TE) (f : Str) : TG := fun v σ H Q => to σ H fun x H2 => ∃ a C dx fs, x = .ref a ∧ H2 a = some (.ins C dx fs) ∧ Cls K C ∧ NoAttr K C f ∧ fs.length < 1000 ∧ Q σ (upd H2 a (.ins C dx (putF f v fs)))
theorem pg_fld {X : Cx} {o : Expr} {f : Str} {to : TE} {pos : Pos} (ho : PE X o to) : PG X (.Attribute o f pos) (gFld X.K to f) := by
  refine ⟨fun pins s σ H v u Q I r h => ?_⟩
  rw [PySem.assign_Attribute]
  refine wpAny_bind (wpAny_holding (thn (ho.run pins s σ H _ I h) fun ov s1 ⟨x, H2, I2, rx, a, C, dx, fs, ex, ea, c, n, l, q⟩ => ?_))
  subst ex
  obtain rfl : ov = Value.ref a := rx
  refine wpAny_bind (wpAny_standAt (wpAny_bind (wpAny_holding (setattr_ok I2 ea c n l r fun s3 I3 => ?_))))
  exact wpAny_release ⟨σ, _, I3, q⟩
section
variable {K : PySem.W.Frag} {τ : T} {μ μ1 μ2 : M} {H H1 H2 : Hp} {σ : L2.St} {Φ : D → M → Prop} {to te : TE} {d e : D} {N : AEnds}
theorem kvF_len {vs : List (Str × V)} {fs : List (Str × D)} (r : RelKV K H vs fs) : vs.length = fs.length := Paired.length r
theorem g_fld {f : Str} {Θ : T → M → Prop} (h : AE K to τ μ fun o μ2 => ∃ a C dx fs, o = .ref a ∧ μ2 a = some (.ins C dx fs) ∧ Cls K C ∧ NoAttr K C f ∧ fs.length < 1000 ∧ Θ τ (μ2.set a (.ins C dx (putD f d fs)))) : AG K (gFld K to f) d τ μ Θ := fun σ H v s c r Q k =>
  h σ H s c _ fun o μ2 w H2 f2 c2 r2 ⟨a, C, dx, fs, e, ha, hc, hn, hz, q⟩ => by
    subst e
    cases r2
    obtain ⟨vs, hv, hr⟩ := c2 a _ ha
    have fr := fr_mut (H := H2) (o := .ins C dx (putF f v vs)) (m' := .ins C dx (putD f d fs)) ha
    exact ⟨a, C, dx, vs, rfl, hv, hc, hn, by rw [kvF_len hr]; exact hz, k τ _ σ _ (f2.trans fr) (con_mut c2 ha ⟨_, upd_same, put_rel (Rel.mono ((f2.trans fr).tx c) _ _ r) (RelKV.mono (tx_mut c2 ha) hr)⟩) (s.mono ((f2.trans fr).tx c)) q⟩
theorem a_makeK {C : Addr} {n m : Nat} {cn : Str → Option Value} {P : PT4} {gV : List V → List V → List V} (gD : List D → List D → List D) {E : XK} {t tk : TA} (hg : ∀ H vs zs ds es, Rels K H vs ds → Rels K H zs es → ds.length = n + 1 → es.length = m → Rels K H (gV vs zs) (gD ds es))
    (h : AA K t τ μ fun ds μ1 => AA K tk τ μ1 fun es μ2 => ds.length = n ∧ es.length = m ∧ ∀ x dx, μ2 x = none → P (gD (.ref x :: ds) es) (μ2.set x (.ins C dx [])) (fun v μ3 => v = .non ∧ Φ (.ref x) μ3) fun _ _ _ => False) :
    AE K (tMakeK C n m (spX K cn P) gV E t tk) τ μ Φ := fun σ H s c Q k =>
  h σ H s c _ fun ds μ1 vs H1 f1 c1 r1 p1 => p1 σ H1 (s.mono (f1.tx c)) c1 _ fun es μ2 zs H2 f2 c2 r2 ⟨l1, l2, p2⟩ => by
    refine ⟨by rw [r1.length]; exact l1, by rw [r2.length]; exact l2, fun x dx hx hdx ne => ?_⟩
    have c3 : Con K (upd H2 dx (.own x)) μ2 := con_new hdx c2
    have hx3 : upd H2 dx (.own x) x = none := by rw [upd_ne (Ne.symm ne)]; exact hx
    have c4 : Con K (upd (upd H2 dx (.own x)) x (.ins C dx [])) (μ2.set x (.ins C dx [])) := con_put (m := .ins C dx []) hx3 c3 ⟨[], upd_same, .nil⟩
    have f4 : Fr μ2 (μ2.set x (.ins C dx [])) H2 (upd (upd H2 dx (.own x)) x (.ins C dx [])) := (fr_new hdx).trans (fr_put hx3)
    have r1' := (Rels.mono ((f2.trans f4).tx c1) _ _ r1)
    have r2' := (Rels.mono (f4.tx c2) _ _ r2)
    refine ⟨gD (.ref x :: ds) es, _, _, _, hg _ _ _ _ _ (.cons (.ref x) r1') r2' (by rw [List.length_cons, l1]) l2, c4, p2 x dx (c2.free hx), fun d μ' v H' f c' r ⟨ed, q⟩ => ?_, fun _ _ _ _ _ _ _ _ q => q.elim⟩
    subst ed
    cases r
    exact ⟨rfl, k _ μ' _ H' (((f1.trans f2).trans f4).trans f) c' (.ref x) q⟩
end
end Z
namespace Z
open PySem L2 PyProof.Rows
/-- an own error with one field -/
structure Exc1 (P : Program) (w : World) (K : PySem.W.Frag) (mg : Str → Option Value) (base : Heap) (x f : Str) (C : Addr) : Prop where
  ex : ∃ (B newId initId : String) (tl0 tl : List Value) (fI : Addr) (fd : FuncData) (p1 p2 : Str), ExcBaseFacts B newId initId tl0 ∧ PySem.HandSPX.NewIn B tl ∧ XO.OexB K C newId tl ∧ PySem.W.findIn K (.ref C) "__init__" = some (some (.ref fI)) ∧ PySem.W.typeIn K (.ref fI) = some (.type "function") ∧
    FnOk P w K mg base CX0 1 fI fd [p1, p2] (XO.spI1 K newId tl f) ∧ Binds K fd [p1, p2] []
  no : PySem.W.findIn K (.ref C) f = some none
  mg : mg x = some (.ref C)
  xf : XfC K C
/-- an own error with a text -/
structure Exc0 (K : PySem.W.Frag) (mg : Str → Option Value) (x : Str) (C : Addr) : Prop where
  ex : ∃ (B newId initId : String) (tl : List Value), ExcBaseFacts B newId initId tl ∧ PySem.W.excIn K C tl newId = true
  mg : mg x = some (.ref C)
  kp : PySem.W.keepIn K (.ref C) = true
  r1 : PySem.W.subIn K (.ref C) (.type "BaseException") = some true
  r2 : PySem.W.typeIn K (.ref C) = some (.type "type")
section
variable {X : Cx} {C : Addr} {x f m : Str} {j : Nat} {p p2 pos : Pos} {e : Expr} {es : List Expr} {ta : TA}
theorem pmk_e1 (G : Exc1 X.prog X.w X.K X.mg X.base x f C) (hr : Room 2 X.A) (hg : Gl X x) (ha : PA X (e :: es) ta)
    (hdb : (x == ("__debug__" : Str)) = false := by decide) (he : starEach (e :: es) X.env = (false, eval e X.env) :: starEach es X.env := by rfl) (hpl : (backTo pos (starEach es X.env)).any (·.1) = false := by rfl) :
    PMk X (.Call (.Name x p) (e :: es) [] pos) (XO.tMk1 C f ta) := by
  obtain ⟨B, newId, initId, tl0, tl, fI, fd, p1, p2, F, NI, T, iC, tI, FI, hb⟩ := G.ex
  exact XO.pmk_1 F NI T G.no iC tI FI hr hb hg G.mg ha hdb he hpl
theorem pmk_e0 (G : Exc0 X.K X.mg x C) (hg : Gl X x) (hdb : (x == ("__debug__" : Str)) = false := by decide) : PMk X (.Call (.Name x p) [.Constant (.str m) j p2] [] pos) (fun _ H Q => Q (.ref C) none H) := by
  obtain ⟨B, newId, initId, tl, F, q⟩ := G.ex
  exact pmk_own F q G.mg G.kp (raises_own G.r1 G.r2) hg hdb
end
/-- the values by the parameters' order: behind the written ones, those by name (true) and the lacking ones (false) -/
def gK {α : Type} (π : List (Bool × Nat)) (us mv ws : List α) : List α := us ++ π.filterMap fun p => if p.1 = true then ws[p.2]? else mv[p.2]?
theorem vals_at {vs : List V} {us : List Value} (r : Vals vs us) (i : Nat) : (vs[i]? = none ∧ us[i]? = none) ∨ ∃ v u, vs[i]? = some v ∧ us[i]? = some u ∧ RelV v u := by
  induction r generalizing i with
  | nil => exact .inl ⟨by simp, by simp⟩
  | cons a _ ih =>
    cases i with
    | zero => exact .inr ⟨_, _, by simp, by simp, a⟩
    | succ i => simpa using ih i
theorem rels_at {K : PySem.W.Frag} {H : Hp} : ∀ {vs : List V} {ds : List D} (r : Rels K H vs ds) (i : Nat), (vs[i]? = none ∧ ds[i]? = none) ∨ ∃ v d, vs[i]? = some v ∧ ds[i]? = some d ∧ Rel K H v d
  | [], [], .nil, i => .inl ⟨by simp, by simp⟩
  | v :: vs, d :: ds, .cons a b, 0 => .inr ⟨v, d, by simp, by simp, a⟩
  | v :: vs, d :: ds, .cons a b, i + 1 => by simpa using rels_at b i
theorem vals_gK (π : List (Bool × Nat)) {vs mz zs : List V} {us mv ws : List Value} (r : Vals vs us) (r1 : Vals mz mv) (r2 : Vals zs ws) : Vals (gK π vs mz zs) (gK π us mv ws) := by
  refine r.append ?_
  induction π with
  | nil => exact .nil
  | cons p π ih =>
    have z : (((if p.1 = true then zs[p.2]? else mz[p.2]?) = none ∧ (if p.1 = true then ws[p.2]? else mv[p.2]?) = none)) ∨ ∃ v u, (if p.1 = true then zs[p.2]? else mz[p.2]?) = some v ∧ (if p.1 = true then ws[p.2]? else mv[p.2]?) = some u ∧ RelV v u := by
      by_cases h : p.1 = true
      · rw [if_pos h, if_pos h]; exact vals_at r2 _
      · rw [if_neg h, if_neg h]; exact vals_at r1 _
    rw [List.filterMap_cons, List.filterMap_cons]
    rcases z with ⟨a, b⟩ | ⟨v, u, a, b, k⟩
    · rw [a, b]; exact ih
    · rw [a, b]; exact .cons k ih
theorem rels_gK {K : PySem.W.Frag} {H : Hp} (π : List (Bool × Nat)) {vs mz zs : List V} {us mv ws : List D} (r : Rels K H vs us) (r1 : Rels K H mz mv) (r2 : Rels K H zs ws) : Rels K H (gK π vs mz zs) (gK π us mv ws) := by
  refine r.append ?_
  induction π with
  | nil => exact .nil
  | cons p π ih =>
    have z : (((if p.1 = true then zs[p.2]? else mz[p.2]?) = none ∧ (if p.1 = true then ws[p.2]? else mv[p.2]?) = none)) ∨ ∃ v u, (if p.1 = true then zs[p.2]? else mz[p.2]?) = some v ∧ (if p.1 = true then ws[p.2]? else mv[p.2]?) = some u ∧ Rel K H v u := by
      by_cases h : p.1 = true
      · rw [if_pos h, if_pos h]; exact rels_at r2 _
      · rw [if_neg h, if_neg h]; exact rels_at r1 _
    rw [List.filterMap_cons, List.filterMap_cons]
    rcases z with ⟨a, b⟩ | ⟨v, u, a, b, k⟩
    · rw [a, b]; exact ih
    · rw [a, b]; exact .cons k ih
/-- C(.., k = v, ..), its __init__ keeping sp -/
structure MkK (P : Program) (w : World) (K : PySem.W.Frag) (mg : Str → Option Value) (base : Heap) (x : Str) (C : Addr) (ps : List Str) (n : Nat) (ks : List Str) (π : List (Bool × Nat)) (mz : List V) (k : Nat) (sp : Sp) : Prop where
  ex : ∃ f fd g, Mk K C f ∧ FnOk P w K mg base (L2.CX P w) k f fd ps sp ∧ mg x = some (.ref C) ∧ KBn K fd ps (n + 1) ks g (fun vs zs => gK π vs mz zs)
section
variable {X : Cx} {C : Addr} {x : Str} {ps ks : List Str} {n k : Nat} {π : List (Bool × Nat)} {mz : List V} {sp : Sp} {p pos : Pos} {e : Expr} {es : List Expr} {kws : List Keyword} {t tk : TA}
theorem pe_mkK (G : MkK X.prog X.w X.K X.mg X.base x C ps n ks π mz k sp) (hr : Room (k + 1) X.A) (hg : Gl X x) (ha : PA X (e :: es) t) (hkw : PK X kws tk)
    (hall : (backToKw pos (keywordEach kws X.env)).all (·.1.isSome) = true := by rfl) (hks : (backToKw pos (keywordEach kws X.env)).filterMap (·.1) = ks := by rfl) (hdb : (x == ("__debug__" : Str)) = false := by decide)
    (he : starEach (e :: es) X.env = (false, eval e X.env) :: starEach es X.env := by rfl) (hpl : ((backTo pos (starEach (e :: es) X.env)).any (·.1) || (backToKw pos (keywordEach kws X.env)).any (·.1.isNone)) = false := by rfl) :
    PE X (.Call (.Name x p) (e :: es) kws pos) (tMakeK C n ks.length sp (fun vs zs => gK π vs mz zs) E0 t tk) := by
  obtain ⟨f, fd, g, M, F, hm, hb⟩ := G.ex
  exact pe_makeK M F hr hg hm hb passL ha hkw hall hks hdb he hpl
end
theorem a_mkK {K : PySem.W.Frag} {τ : T} {μ : M} {Φ : D → M → Prop} {C : Addr} {n m : Nat} {π : List (Bool × Nat)} {mz : List V} (mD : List D) (hmz : ∀ H, Rels K H mz mD) {cn : Str → Option Value} {P : PT4} {E : XK} {t tk : TA}
    (h : AA K t τ μ fun ds μ1 => AA K tk τ μ1 fun es μ2 => ds.length = n ∧ es.length = m ∧ ∀ x dx, μ2 x = none → P (gK π (.ref x :: ds) mD es) (μ2.set x (.ins C dx [])) (fun v μ3 => v = .non ∧ Φ (.ref x) μ3) fun _ _ _ => False) :
    AE K (tMakeK C n m (spX K cn P) (fun vs zs => gK π vs mz zs) E t tk) τ μ Φ := a_makeK (fun ds es => gK π ds mD es) (fun H vs zs ds es r1 r2 _ _ => rels_gK π r1 (hmz H) r2) h
/-- a def of a class, its keyword defaults by name -/
theorem kbn_of {K : PySem.W.Frag} {x qual : Str} {params : Arguments} {body : List Stmt} {scope : Scope} {kws : List (Str × V)} {f : Addr} {fd : FuncData} {ps : List Str} (F : FunD K x qual params body scope [] kws f fd) (n : Nat) (ks : List Str) (ms : List (Str × V)) (π : List (Bool × Nat)) (hk : kws ≠ []) (hms : ∀ q ∈ ms, q ∈ kws)
    (h : ∀ (D : Addr) (doc pm : Value) (an : Option Addr) (cdv ct : Value) (us mv ws : List Value), us.length = n → mv.length = ms.length → ws.length = ks.length →
      KwChain D ((ms.map (·.1)).zip mv) (bindArgs (PySem.W.fnOf x qual params body scope .none (.ref D) doc pm an cdv ct) ⟨us, ks.zip ws⟩) (ps.zip (gK π us mv ws))) : ∃ g, KBn K fd ps n ks g (fun vs zs => gK π vs (ms.map (·.2)) zs) := by
  obtain ⟨mv, hb⟩ := F.kbinds0 n ks ms (fun us mv ws => gK π us mv ws) hk hms (fun r1 r2 r3 => vals_gK π r1 r2 r3) h
  exact ⟨_, hb⟩
section
variable {X : Cx} {K : PySem.W.Frag} {o value : Expr} {f : PySem.Str} {ta tv : TE} {pos pos' : Pos}
theorem ps_fldK (h : X.K = K) (ha : PE X o ta) (hv : PE X value tv) (hs : swapsWith value (some (.Attribute o f pos')) pos.line X.env = pure false) : PS X (.Assign [.Attribute o f pos'] value pos) (sFld K ta tv f) := by
  subst h; exact ps_fld ha hv hs
theorem pg_fldK (h : X.K = K) (ho : PE X o ta) : PG X (.Attribute o f pos) (gFld K ta f) := by subst h; exact pg_fld ho
end
/-- what a def that may raise has made for itself is forgotten at its end -/
theorem body_okXU {K : PySem.W.Frag} {H : Hp} {ts : TS} {P : PT4} {E : XK} {Ns : List Str} {vs : List V} {Q : VK} {cn : Str → Option Value} (h : spX K cn P vs H Q E) (hb : ∀ ds μ Φ Ξ, P ds μ Φ Ξ → AS K ts (startD Ns.length ds) μ (endX cn E (Up Φ) (UpX Ξ))) :
    ts { nx := fun _ H' => Q .non H', rt := Q } (L2.start Ns vs) H := by
  obtain ⟨ds, μ, Φ, Ξ, r, c, p, k, kx⟩ := h
  refine hb ds μ Φ Ξ p _ H (slots_start r) c _ ⟨fun _ μ' _ H' f c' _ ⟨μ2, sb, q⟩ => k .non μ2 .non H' (f.sub sb) (c'.sub sb) .non q, fun d μ' v H' f c' r' ⟨μ2, sb, q⟩ => k d μ2 v H' (f.sub sb) (c'.sub sb) r' q, fun _ _ _ _ _ _ _ q => q.elim, fun _ _ _ _ _ _ _ q => q.elim,
    fun x dx _ μ' cls _ H' e f c' _ ⟨μ2, sb, q⟩ => kx x dx μ2 cls H' e (f.sub sb) (c'.sub sb) q⟩
/-- a written constant of the top -/
structure Cst (mg : Str → Option Value) (x : Str) (v : V) : Prop where
  ex : ∃ u, mg x = some u ∧ RelV v u
theorem pe_cst {X : Cx} {x : Str} {v : V} {pos : Pos} (G : Cst X.mg x v) (hg : Gl X x) (hd : (x == ("__debug__" : Str)) = false := by decide) : PE X (.Name x pos) (tC v) := by
  obtain ⟨u, hm, r⟩ := G.ex
  exact pe_glob hg hm r hd
end Z
namespace SD
open PySem PySem.Spec PyProof.Rows L2 PySem.W
/-- a list of data is held, each value with what it reads as -/
def rSortD (K : PySem.W.Frag) : List V → Hp → VK → Prop := fun vs H Q => ∃ (a : Addr) (bs : List (V × PyData)), vs = [.ref a] ∧ SqL K H a (bs.map (·.1)) ∧ (∀ b ∈ bs, Dp K H b.1 b.2) ∧ AllAlike (bs.map (·.2)) ∧ Sortable (bs.map (·.2)) ∧
  (∀ b ∈ bs, b.2.depth ≤ 8) ∧ ∀ p, H p = none → Q (.ref p) (upd H p (.lst ((bs.mergeSort (dataLe false (·.2))).map (·.1))))
theorem each_of {α β γ : Type} {R : α → β → Prop} (f : γ → α) : ∀ {bs : List γ} {us : List β}, Paired R (bs.map f) us → EachIs (fun u b => R (f b) u) us bs
  | [], [], .nil => .nil
  | _ :: _, _ :: _, .cons a b => .cons a (each_of f b)
theorem each_imp {α β : Type} {R S : α → β → Prop} : ∀ {us : List α} {bs : List β}, EachIs R us bs → (∀ u b, b ∈ bs → R u b → S u b) → EachIs S us bs
  | [], [], .nil, _ => .nil
  | _ :: _, _ :: _, .cons a b, h => .cons (h _ _ List.mem_cons_self a) (each_imp b fun u c hc => h u c (List.mem_cons_of_mem _ hc))
theorem vals_each {γ : Type} (f : γ → V) : ∀ {us : List Value} {bs : List γ}, EachIs (fun u b => RelV (f b) u) us bs → Vals (bs.map f) us
  | [], [], .nil => .nil
  | _ :: _, _ :: _, .cons a b => .cons a (vals_each f b)
theorem cr_sortD {X : Cx} (hu : X.A.units + 64 < cLine) : CallR X (.builtin "sorted") (rSortD X.K) := by
  intro pins s σ H vs us Q I r h
  obtain ⟨a, bs, rfl, hs, hd, hal, hk, hde, q⟩ := h
  obtain ⟨its, rv, hl, hz⟩ := I.list hs
  rw [Vals.ref1 r]
  have e : EachIs (fun u (b : V × PyData) => RelV b.1 u) its bs := each_of (fun b : V × PyData => b.1) rv
  have er : EachIs (fun v (b : V × PyData) => ∃ as, Reads s.heap v b.2 as) its bs := each_imp e fun u b hb rb => Dp.reads I b.2 b.1 u (hd b hb) rb
  have len : bs.length = its.length := e.length.symm
  have small : bs.length ≤ sizeLine := by
    rw [List.length_map] at hz
    exact hz
  refine sorted_data (enc := fun b : V × PyData => b.2) hl.isList e er hal hk small (fun b hb => by have := hde b hb; omega) fun out ho eo => ?_
  obtain ⟨c, hc⟩ := sortedAll_at s.heap its out.toArray
  have rr := vals_each (fun b : V × PyData => b.1) eo
  have big : ((bs.mergeSort (dataLe false (·.2))).map (·.1)).length ≤ sizeLine := by
    rw [List.length_map, List.length_mergeSort]
    exact small
  exact ⟨.ref (s.heap.objs.size + 1), upd H (s.heap.objs.size + 1) (.lst ((bs.mergeSort (dataLe false (·.2))).map (·.1))), I.laid (t' := s.toks) (fun b u e => sortedAll_old e) (Nat.le_succ _) ⟨big, out, c, rr, hc⟩, rfl, q _ (I.hok.fresh (Nat.le_succ _))⟩
theorem cr_sortDK {X : Cx} {K : PySem.W.Frag} (h : X.K = K) (hu : X.A.units + 64 < cLine) : CallR X (.builtin "sorted") (rSortD K) := by subst h; exact cr_sortD hu
end SD
namespace Z
open PySem L2 SD PySem.W
/-- a list of data, sorted as Python has it -/
def srtD (ds : List D) : List D := ds.mergeSort (dataLe false D.py)
theorem zip_rels {K : PySem.W.Frag} {H : Hp} : ∀ {vs : List V} {ds : List D}, Rels K H vs ds → (vs.zip ds).map (·.1) = vs ∧ (vs.zip ds).map (·.2) = ds ∧ ∀ p ∈ vs.zip ds, Rel K H p.1 p.2
  | [], [], .nil => ⟨rfl, rfl, fun _ h => (by cases h)⟩
  | v :: vs, d :: ds, .cons a b => by
    obtain ⟨h1, h2, h3⟩ := zip_rels b
    refine ⟨by rw [List.zip_cons_cons, List.map_cons, h1], by rw [List.zip_cons_cons, List.map_cons, h2], fun p hp => ?_⟩
    rcases List.mem_cons.mp hp with e | z
    · rw [e]; exact a
    · exact h3 p z
theorem rels_of_pairs {K : PySem.W.Frag} {H : Hp} : ∀ {ps : List (V × D)}, (∀ p ∈ ps, Rel K H p.1 p.2) → Rels K H (ps.map (·.1)) (ps.map (·.2))
  | [], _ => .nil
  | p :: ps, h => .cons (h p List.mem_cons_self) (rels_of_pairs fun q hq => h q (List.mem_cons_of_mem _ hq))
section
variable {K : PySem.W.Frag} {μ : M} {Φ : D → M → Prop} {a : Addr}
theorem rc_sorted {ds : List D} (h : μ a = some (.lst ds)) (ok : ∀ x ∈ ds, OkN 8 x) (hal : AllAlike (ds.map D.py)) (hk : Sortable (ds.map D.py)) (q : ∀ p, μ p = none → Φ (.ref p) (μ.set p (.lst (srtD ds)))) : RC K (rSortD K) [.ref a] μ Φ := fun H xs c r Q k => by
  cases r with
  | cons r rn =>
  cases r; cases rn
  obtain ⟨vs, hv, hr⟩ := c a _ h
  obtain ⟨z1, z2, z3⟩ := zip_rels hr
  have e1 : ((vs.zip ds).map fun p => (p.1, D.py p.2)).map (·.1) = vs := by rw [List.map_map]; exact z1
  have e2 : ((vs.zip ds).map fun p => (p.1, D.py p.2)).map (·.2) = ds.map D.py := by
    rw [List.map_map]
    have : ((fun x : V × PyData => x.2) ∘ fun p : V × D => (p.1, D.py p.2)) = D.py ∘ (·.2) := rfl
    rw [this, ← List.map_map, z2]
  have inD : ∀ p ∈ vs.zip ds, p.2 ∈ ds := fun p hp => by rw [← z2]; exact List.mem_map.mpr ⟨p, hp, rfl⟩
  refine ⟨a, (vs.zip ds).map fun p => (p.1, D.py p.2), rfl, by rw [e1]; exact SqL.of hv, fun b hb => ?_, by rw [e2]; exact hal, by rw [e2]; exact hk, fun b hb => ?_, fun p hp => ?_⟩
  · obtain ⟨p, hp, rfl⟩ := List.mem_map.mp hb
    exact Rel.dp _ _ (z3 p hp) (ok _ (inD p hp)).p
  · obtain ⟨p, hp, rfl⟩ := List.mem_map.mp hb
    exact (ok _ (inD p hp)).d
  · have m1 : (((vs.zip ds).map fun p => (p.1, D.py p.2)).mergeSort (dataLe false (·.2))).map (·.1) = ((vs.zip ds).mergeSort (dataLe false fun p => D.py p.2)).map (·.1) := by
      rw [← List.map_mergeSort (r := dataLe false fun p : V × D => D.py p.2) (s := dataLe false (·.2)) (f := fun p => (p.1, D.py p.2)) (fun _ _ _ _ => rfl), List.map_map]
      rfl
    have m2 : srtD ds = ((vs.zip ds).mergeSort (dataLe false fun p => D.py p.2)).map (·.2) := by
      unfold srtD
      rw [List.map_mergeSort (r := dataLe false fun p : V × D => D.py p.2) (s := dataLe false D.py) (f := fun p : V × D => p.2) (fun _ _ _ _ => rfl), z2]
    rw [m1]
    have rr : Rels K H (((vs.zip ds).mergeSort (dataLe false fun p => D.py p.2)).map (·.1)) (srtD ds) := by
      rw [m2]
      exact rels_of_pairs fun p hp => z3 p ((List.mergeSort_perm _ _).mem_iff.mp hp)
    exact k _ _ _ _ (fr_put hp) (con_put (m := .lst (srtD ds)) hp c ⟨_, upd_same, Rels.mono (tx_new hp) _ _ rr⟩) (.ref p) (q p (c.free hp))
end
/-- pairs of ints stand as tuples do -/
def leP (p q : Int × Int) : Bool := decide (p.1 < q.1) || (decide (p.1 = q.1) && decide (p.2 ≤ q.2))
theorem le_pt (a b c d : Int) : dataLe false D.py (pt a b) (pt c d) = leP (a, b) (c, d) := by
  unfold dataLe sortLe leP
  simp only [cond_false, D.py, D.pys, keyToks, keyToksAll, List.singleton_append, List.cons_append, List.nil_append]
  show (!PyProof.Rows.lexLt PyProof.Rows.itemOrd [.inl 1, .inl c, .inl 1, .inl d, .inl 0] [.inl 1, .inl a, .inl 1, .inl b, .inl 0]) = _
  rw [PyProof.Rows.lex_cons, PyProof.Rows.lex_cons, PyProof.Rows.lex_cons, PyProof.Rows.lex_cons, PyProof.Rows.lex_cons]
  show (!(decide ((1 : Int) < 1) || (!decide ((1 : Int) < 1) && (decide (c < a) || (!decide (a < c) && (decide ((1 : Int) < 1) || (!decide ((1 : Int) < 1) && (decide (d < b) || (!decide (b < d) && (decide ((0 : Int) < 0) || (!decide ((0 : Int) < 0) && false)))))))))) ) = _
  by_cases h1 : a < c <;> by_cases h2 : c < a <;> by_cases h3 : b ≤ d <;> by_cases h4 : d < b <;> by_cases h5 : a = c <;> simp [h1, h2, h3, h4, h5] <;> omega
end Z
namespace ZT
open PySem PySem.Spec PyProof.Rows L2
section
variable {M : Model} {h : Heap} {a : Addr} {oe : Obj} {vs : Array Value}
theorem lk_type (ha : h.get? a = some oe) : PySem.W.Looks M h (typeOf (.ref a)) oe.cls :=
  fun _ _ _ _ k q => wpAny_typeOf_ref (k _ _ ha) q
end
/-- a record made over h0, on its way to be raised -/
structure Made (M : Model) (h0 h : Heap) (a : Addr) (cls : Value) (d : Option Addr) : Prop where
  new : h0.get? a = none
  old : ∀ b o, h0.get? b = some o → h.get? b = some o
  fin : ∃ oe vs, h.get? a = some oe ∧ oe.data = .fields vs ∧ oe.cls = cls ∧ oe.dict = d ∧ vs[1]? = some .none ∧ 4 < vs.size
  exc : PySem.W.Looks M h0 (isSubtype cls (.type "BaseException")) true
  met : PySem.W.Looks M h0 (typeOf cls) (.type "type")
section
variable {M : Model} {h0 : Heap} {a : Addr} {cls : Value} {d : Option Addr} {A : Around} {E : Value → Shared → Prop} {s : Shared}
/-- one more field is told -/
theorem Made.upd {h : Heap} (m : Made M h0 h a cls d) {i : Nat} (v : Value) (hi : i ≠ 1) : Made M h0 (h.update a (Obj.mapFields (·.setIfInBounds i v))) a cls d := by
  obtain ⟨oe, vs, ha, hd, hc, hx, h1, hz⟩ := m.fin
  have hd' := Obj.data_mapFields hd (·.setIfInBounds i v)
  exact ⟨m.new, fun b o e => (Heap.get?_update_other _ _ fun z => Option.some_ne_none _ (((congrArg h0.get? z).trans e).symm.trans m.new)).trans (m.old b o e),
    ⟨_, _, Heap.get?_update_self _ ha (Obj.isFreed_of_fields hd'), hd', (Obj.cls_mapFields ..).trans hc, (HandSPX.dict_mapFields ..).trans hx, HotX.set_other hi h1, by rw [HotX.set_size]; exact hz⟩, m.exc, m.met⟩
theorem Made.put (m : Made M h0 s.heap a cls d) {i : Nat} {v : Value} {Q : Unit → Shared → Prop} (hi : i ≠ 1) (h4 : i ≤ 4)
    (q : ∀ h', Made M h0 h' a cls d → Q () { s with heap := h' }) : wpAny M A (setField (.ref a) i v) Q E s := by
  obtain ⟨oe, vs, ha, hd, -, -, -, hz⟩ := id m.fin
  exact wpAny_setField ha hd (Nat.lt_of_le_of_lt h4 hz) (q _ (m.upd v hi))
end
end ZT
namespace ZT
open PySem PySem.Spec PyProof.Rows L2
/-- kinds of records: with any context, with none -/
structure Kind (Z : Value → Option Addr → Obj → Prop) : Prop where
  zc : ∀ {c d o}, Z c d o → Zc c d o
  land : ∀ {M : Model} {A : Around} {E₁ : Value → Shared → Prop} {env : Env} {outer : List Env} {B : Heap} {L a : Addr} {c : Value} {d : Option Addr} {Q : Unit → Shared → Prop} {s : Shared}, A.frames = some (env :: outer) → env.frame = some L →
    Sky B (env :: outer) a (Z c d) L s.heap → (∀ h', HandSPX.FlyingZ B (env :: outer) a (Z c d) h' → s.heap.UpToSlots h' → Q () { s with heap := h' }) →
      wpAny M A (noteFrame (.ref a) env) (fun _ s₂ => wpAny M A (setFlight (.ref a) none) Q E₁ s₂) E₁ s
/-- the own frame is on top -/
structure Top (X : Cx) : Prop where
  ok : X.Ok
  stk : X.stack = X.env :: X.outer
  frm : X.env.frame = some X.env.locals
theorem Top.frames {X : Cx} (t : Top X) (hd : Option Value) : (X.A.mark hd).frames = some (X.env :: X.outer) := t.stk ▸ t.ok.frames
/-- an error at a: sI is the state without it, B the ground -/
structure Aloft (Z : Value → Option Addr → Obj → Prop) (X : Cx) (B : Heap) (sI : Shared) (pins : List (Addr × Obj)) (σ : L2.St) (H : Hp) (c : Value) (d : Option Addr) (a : Addr) (s : Shared) : Prop where
  inv : Inv X pins σ H sI
  gnd : ∀ b o, sI.heap.get? b = some o → b ∉ frs X.stack → B.get? b = some o
  up : sI.heap.UpToSlots s.heap
  sky : Sky B X.stack a (Z c d) X.env.locals s.heap
  na : H a = none
  os : s.os = sI.os
  ag : AllBare s.gens
section
variable {Z : Value → Option Addr → Obj → Prop} {X : Cx} {B : Heap} {sI s : Shared} {pins : List (Addr × Obj)} {σ : L2.St} {H : Hp} {c : Value} {d : Option Addr} {a : Addr}
theorem Aloft.xe {W : WX} (x : Aloft Zc X B sI pins σ H c d a s) (w : W c d σ H) : L2.XE X W (.ref a) s := ⟨a, B, sI, pins, σ, H, c, d, rfl, x.inv, x.gnd, x.up, x.sky, x.na, x.os, x.ag, w⟩
/-- the same, caught: it flies over this frame, noted nowhere -/
structure Got (Z : Value → Option Addr → Obj → Prop) (X : Cx) (B : Heap) (sI : Shared) (pins : List (Addr × Obj)) (σ : L2.St) (H : Hp) (c : Value) (d : Option Addr) (a : Addr) (s : Shared) : Prop where
  top : Top X
  inv : Inv X pins σ H sI
  gnd : ∀ b o, sI.heap.get? b = some o → b ∉ frs X.stack → B.get? b = some o
  up : sI.heap.UpToSlots s.heap
  fl : HandSPX.FlyingZ B (X.env :: X.outer) a (Z c d) s.heap
  na : H a = none
  os : s.os = sI.os
  ag : AllBare s.gens
theorem Got.here (g : Got Z X B sI pins σ H c d a s) : Inv X pins σ H s := g.inv.landed g.gnd g.fl.1 g.up g.os g.ag
/-- its record stands apart from all frames, and from the ground -/
theorem Got.apart (g : Got Z X B sI pins σ H c d a s) : ∃ oe vs, s.heap.get? a = some oe ∧ Z c d oe ∧ oe.data = .fields vs ∧ a ≠ X.env.locals ∧ a ∉ X.fs ∧ X.base.get? a = none := by
  obtain ⟨oe, vs, he, hz, hd⟩ := g.fl.there
  have off : a ∉ frs (X.env :: X.outer) := fun hm => by
    obtain ⟨-, o, e, nf⟩ := g.fl.2.2.1.mem hm
    exact nf vs (Option.some.inj (he.symm.trans e) ▸ hd)
  have nl : a ≠ X.env.locals := fun z => off (List.mem_filterMap.mpr ⟨X.env, List.mem_cons_self, z ▸ g.top.frm⟩)
  have nf : a ∉ X.fs := fun hm => off (by
    obtain ⟨e, he, q⟩ := List.mem_filterMap.mp hm
    exact List.mem_filterMap.mpr ⟨e, List.mem_cons_of_mem _ he, q⟩)
  refine ⟨oe, vs, he, hz, hd, nl, nf, Option.eq_none_iff_forall_not_mem.mpr fun o e => ?_⟩
  have b1 := g.gnd a o (g.inv.bk a o e) (g.top.stk ▸ off)
  exact Option.some_ne_none _ (b1.symm.trans g.fl.2.1)
/-- .. and stays so in a greater heap, or when its flight is told again -/
theorem Got.grow (g : Got Z X B sI pins σ H c d a s) (o : Obj) : Got Z X B sI pins σ H c d a { s with heap := s.heap.push o } := by
  have k : ∀ b u, s.heap.get? b = some u → (s.heap.push o).get? b = some u := fun b u e => Heap.get?_push_of_some _ e
  obtain ⟨f1, f2, f3, oe, vs, T, oT, ts, k1, k2, k3, k4, k5, k6, k7, k8⟩ := g.fl
  exact ⟨g.top, g.inv, g.gnd, g.up.trans (.of_keeps k), ⟨fun b u e => k b u (f1 b u e), f2, f3.of_keeps fun b u e _ => ⟨u, k b u e, rfl⟩, oe, vs, T, oT, ts, k _ _ k1, k2, k3, k4, k5, k6, k _ _ k7, k8⟩, g.na, g.os, g.ag⟩
end
section
variable {X : Cx} {pins : List (Addr × Obj)} {σ : L2.St} {H : Hp} {s : Shared}
/-- h' is h but for the object at L -/
def Off (L : Addr) (h h' : Heap) : Prop := ∀ b, b ≠ L → h'.get? b = h.get? b
theorem Off.cell {L b : Addr} {h h' : Heap} {v : Option Value} (f : Off L h h') (n : b ≠ L) : h.IsCell b v → h'.IsCell b v := fun ⟨o, e, d⟩ => ⟨o, (f b n).trans e, d⟩
theorem Off.un {fs ex : List Addr} {H' : Hp} {L : Addr} {h0 h h' : Heap} (u : Un fs ex H' H h0 h) (f : Off L h h') (n : ∀ b o, h0.get? b = some o → b ≠ L) : Un fs ex H' H h0 h' where
  keep b o e z i j := (f b (n b o e)).trans (u.keep b o e z i j)
  slot b o e z i j := (u.slot b o e z i j).imp fun _ q => (f b (n b o e)).trans q
  free := u.free
  there b o e j := (u.there b o e j).imp fun _ q => (f b (n b o e)).trans q
  tups := u.tups
  frzs := u.frzs
  tbls := u.tbls
theorem Off.hok {P : Program} {w : World} {L : Addr} {h h' : Heap} (k : HOk P w H h) (f : Off L h h') (n : H L = none) : HOk P w H h' := fun b o e =>
  (k b o e).stay (fun x u way q => (f x fun z => way.elim (fun w => by rw [← w, z, n] at e; cases e) fun w => by rw [z, n] at w; cases w).trans q) (fun _ q => q) fun _ _ q => q
end
end ZT
namespace ZT
open PySem PySem.Spec PyProof.Rows L2
/-- the context of a suite, F about what leaves it -/
abbrev sctx (X : Cx) (a : Addr) (pn : List (Addr × Obj)) (F : Value → Shared → Prop) : Cx := { X with A := X.A.mark (some (.ref a)), calm := false, pn := pn, xe := F }
end ZT
namespace ZT
open PySem PySem.Spec PyProof.Rows L2
/-- the names in a clause's tuple -/
inductive NsL (X : Cx) : List Expr → List Value → Prop
  | nil : NsL X [] []
  | cons {x : Str} {c : Value} {np : Pos} {es : List Expr} {cs : List Value} (hc : Names X x c) (r : NsL X es cs) : NsL X (.Name x np :: es) (c :: cs)
/-- a clause's classes, by what they answer -/
inductive Test (X : Cx) : Expr → (Value → Option Bool) → Prop
  | one {x : Str} {c : Value} {np : Pos} (hc : Names X x c) : Test X (.Name x np) (fun cls => PySem.W.exmOne X.K cls c)
  | tup {es : List Expr} {cs : List Value} {k : Nat} {np : Pos} (h : NsL X es cs) (z : cs.length = 2 ∨ cs.length = 3 ∨ cs.length = 4) : Test X (.Tuple es k np) (fun cls => PySem.W.exmAny X.K cls cs)
section
variable {Z : Value → Option Addr → Obj → Prop} {X : Cx} {B : Heap} {sI s : Shared} {pins : List (Addr × Obj)} {σ : L2.St} {H : Hp} {c : Value} {d : Option Addr} {a : Addr}
/-- the state as a suite's -/
theorem Got.suite (g : Got Z X B sI pins σ H c d a s) : ∃ oe, Z c d oe ∧ (∃ vs, oe.data = .fields vs) ∧ X.base.get? a = none ∧ s.heap.get? a = some oe ∧ ∀ F, Inv (sctx X a ((a, oe) :: (X.pn ++ pins)) F) [] σ H s := by
  obtain ⟨oe, vs, he, hz, hd, nl, nf, nb⟩ := g.apart
  exact ⟨oe, hz, ⟨vs, hd⟩, nb, he, fun F => Inv.unwish (X := sctx X a _ F) (E := fun _ _ => False) (g.here.suite he hd g.na nl nf)⟩
theorem name_ld {x : Str} {v : Value} {np : Pos} {pn : List (Addr × Obj)} {Q E : Value → Shared → Prop} (I : Inv (X.suite a pn) [] σ H s) (hc : Names X x v) (q : Q v s) : wpAny (model X.prog X.w) (X.A.mark (some (.ref a))) (eval (.Name x np) X.env) Q E s :=
  match hc with
  | ⟨g, dbg, .inl m⟩ => ld_glob (X := X.suite a pn) I g m q dbg
  | ⟨g, dbg, .inr ⟨m, v, nn⟩⟩ => ld_blt (X := X.suite a pn) I g m v q nn dbg
theorem names_ld {es : List Expr} {cs : List Value} {pos : Pos} {pn : List (Addr × Obj)} {E : Value → Shared → Prop} (I : Inv (X.suite a pn) [] σ H s) (hn : NsL X es cs) : ∀ {Q : List Value → Shared → Prop}, Q cs s → wpAny (model X.prog X.w) (X.A.mark (some (.ref a))) (spliced (backTo pos (starEach es X.env))) Q E s := by
  induction hn with
  | nil => exact fun q => wpAny_items_nil q
  | cons hc _ ih => exact fun q => wpAny_items_cons (name_ld I hc (ih q))
theorem Test.run {te : Expr} {ans : Value → Option Bool} {b : Bool} {G : Bool → Shared → Prop} {E1 E2 : Value → Shared → Prop} (t : Test X te ans) (k : Kind Z) (g : Got Z X B sI pins σ H c d a s) (hb : ans c = some b)
    (q : ∀ h', Got Z X B sI pins σ H c d a { s with heap := h' } → G b { s with heap := h' }) :
    wpAny (model X.prog X.w) (X.A.mark (some (.ref a))) (eval te X.env) (fun v s₁ => wpAny (model X.prog X.w) (X.A.mark (some (.ref a))) (excMatches (.ref a) v) G E2 s₁) E1 s := by
  obtain ⟨oe, hz, -, -, he, J⟩ := g.suite
  have I := J fun _ _ => False
  have ty : PySem.W.Looks (model X.prog X.w) s.heap (typeOf (.ref a)) c := (k.zc hz).1 ▸ lk_type he
  cases t with
  | one hc => exact name_ld I hc ((PySem.W.exm_one I.kIn ty hb).here (q _ g))
  | @tup es cs n np hn z =>
    refine wpAny_Tuple (names_ld I hn ⟨by have := sizeLine_eq; omega, ?_⟩)
    have more : ∀ b o, s.heap.get? b = some o → (s.heap.push { cls := .type "tuple", data := .seq cs.toArray }).get? b = some o := fun b o e => Heap.get?_push_of_some _ e
    have at_ := Heap.get?_push_size s.heap (o := { cls := .type "tuple", data := .seq cs.toArray }) rfl
    have fin := q _ (g.grow { cls := .type "tuple", data := .seq cs.toArray })
    match cs, z, hb with
    | [_, _], _, hb => exact (PySem.W.exm_tup2 (I.kIn.keeps more) (ty.keeps more) at_ hb).here fin
    | [_, _, _], _, hb => exact (PySem.W.exm_tup3 (I.kIn.keeps more) (ty.keeps more) at_ hb).here fin
    | [_, _, _, _], _, hb => exact (PySem.W.exm_tup4 (I.kIn.keeps more) (ty.keeps more) at_ hb).here fin
end
end ZT
namespace Z
open PySem PySem.Spec PyProof.Rows L2
end Z
namespace Z
open PySem PySem.Spec PyProof.Rows L2
end Z
namespace Z
open PySem PySem.Spec PyProof.Rows L2
/-- x(.., k = v ..): n places, the names ks; gK π puts them, and the defaults mz, in the parameters' order -/
structure DefN (P : Program) (w : World) (K : PySem.W.Frag) (mg : Str → Option Value) (base : Heap) (x : Str) (ps : List Str) (n : Nat) (ks : List Str) (π : List (Bool × Nat)) (mz : List V) (k : Nat) (sp : Sp) : Prop where
  ex : ∃ f fd g, FnOk P w K mg base (L2.CX P w) k f fd ps sp ∧ mg x = some (.ref f) ∧ PySem.W.keepIn K (.ref f) = true ∧ KBn K fd ps n ks g (fun vs zs => gK π vs mz zs)
section
variable {X : Cx} {x : Str} {ps ks : List Str} {n k : Nat} {π : List (Bool × Nat)} {mz : List V} {sp : Sp} {p pos : Pos} {e : Expr} {es : List Expr} {kws : List Keyword} {t tk : TA}
theorem pe_defK (G : DefN X.prog X.w X.K X.mg X.base x ps n ks π mz k sp) (hr : Room k X.A) (hg : Gl X x) (ha : PA X (e :: es) t) (hkw : PK X kws tk)
    (hall : (backToKw pos (keywordEach kws X.env)).all (·.1.isSome) = true := by rfl) (hks : (backToKw pos (keywordEach kws X.env)).filterMap (·.1) = ks := by rfl) (hdb : (x == ("__debug__" : Str)) = false := by decide)
    (he : starEach (e :: es) X.env = (false, eval e X.env) :: starEach es X.env := by rfl) (hpl : ((backTo pos (starEach (e :: es) X.env)).any (·.1) || (backToKw pos (keywordEach kws X.env)).any (·.1.isNone)) = false := by rfl) :
    PE X (.Call (.Name x p) (e :: es) kws pos) (tCallN n ks.length sp (fun vs zs => gK π vs mz zs) E0 t tk) := by
  obtain ⟨f, fd, g, F, hm, hk, hb⟩ := G.ex
  exact pe_callN F hr hg hm hk hb passL ha hkw hall hks hdb he hpl
end
theorem a_defK {K : PySem.W.Frag} {τ : T} {μ : M} {Φ : D → M → Prop} {n m : Nat} {π : List (Bool × Nat)} {mz : List V} (mD : List D) (hmz : ∀ H, Rels K H mz mD) {cn : Str → Option Value} {P : PT4} {E : XK} {t tk : TA}
    (h : AA K t τ μ fun ds μ1 => AA K tk τ μ1 fun es μ2 => ds.length = n ∧ es.length = m ∧ P (gK π ds mD es) μ2 Φ fun _ _ _ => False) :
    AE K (tCallN n m (spX K cn P) (fun vs zs => gK π vs mz zs) E t tk) τ μ Φ := fun σ H s c Q k =>
  h σ H s c _ fun ds μ1 vs H1 f1 c1 r1 p1 => p1 σ H1 (s.mono (f1.tx c)) c1 _ fun es μ2 zs H2 f2 c2 r2 ⟨l1, l2, p2⟩ =>
    ⟨by rw [r1.length]; exact l1, by rw [r2.length]; exact l2, gK π ds mD es, μ2, Φ, _, rels_gK π (r1.mono (f2.tx c1)) (hmz H2) r2, c2, p2, fun d μ' v H' f c' r q => k d μ' v H' ((f1.trans f2).trans f) c' r q, fun _ _ _ _ _ _ _ _ q => q.elim⟩
end Z
namespace Z
open PySem PySem.Spec PyProof.Rows L2
end Z
namespace Z
open PySem
end Z
namespace LK
open PySem PySem.Spec PyProof.Rows L2 LamX NdefX PySem.W
section
variable {prog : Program} {w : World} {A : Around} {E : Value → Shared → Prop} {s : Shared} {a kS : Addr} {b : Bool} {vs : List Value} {e1 : Nat} {P : PySem.Fin → Shared → Prop} {kz : List PyData} {f : Value}
/-- what is asked of the word: the calls keep it, the two lists of the sort may change under it -/
structure Wd (prog : Program) (w : World) (A : Around) (f : Value) (kS a : Addr) (vs : List Value) (kz : List PyData) (G : List Value → Shared → Prop) : Prop where
  turn : ∀ (us : List Value) (v : Value) (s' : Shared), vs[us.length]? = some v → G us s' → wpAny (model prog w) A (call f [v]) (fun u s2 => G (us ++ [u]) s2 ∧ ∀ c o, c = kS ∨ c = a → s'.heap.get? c = some o → s2.heap.get? c = some o) (fun _ _ => False) s'
  push : ∀ (us : List Value) (s' : Shared) (h' : Heap) (tk : Nat), G us s' → (∀ c o, c ≠ kS → s'.heap.get? c = some o → h'.get? c = some o) → (∃ o, h'.get? kS = some o) → G us { s' with heap := h', toks := tk }
  reads : ∀ (us : List Value) (s' : Shared), us.length = vs.length → G us s' → EachIs (fun v k => ∃ as, Reads s'.heap v k as) us kz
theorem rest_g {G : List Value → Shared → Prop} (X : Wd prog w A f kS a vs kz G) (g0 : G [] s) (nk : s.heap.get? kS = some (seqObj "list" #[] 0)) (na : s.heap.get? a = some (seqObj "list" #[] e1)) (hka : kS ≠ a)
    (hlen : kz.length = vs.length) (hZ : vs.length ≤ sizeLine) (hal : AllAlike kz) (hsk : Sortable kz) (hu : ∀ d, d ∈ kz → A.units + d.depth < cLine)
    (fin : ∀ (us : List Value) (s' : Shared) (h' : Heap) (tk : Nat) (out : List Value) (c : Nat), us.length = vs.length → G us s' → (∀ d o, d ≠ kS → d ≠ a → s'.heap.get? d = some o → h'.get? d = some o) →
      h'.get? a = some (seqObj "list" (List.toArray out) c) → KeyedOut b kz vs out → P (.done (.ret .none)) { s' with heap := h', toks := tk }) :
    wpAny (model prog w) A (ksk_rest a f b vs.toArray e1 (.ref kS)) P E s := by
  unfold ksk_rest
  refine wpAny_bind (wpAny_rule ?_)
  first | rw [List.forIn_toArray] | (rw [← Array.forIn_toList]; simp only [List.toList_toArray])
  refine wpAny_bind (ksk_fold (fun i s' => ∃ (us : List Value) (e : Nat), us.length = i ∧ G us s' ∧ s'.heap.get? kS = some (seqObj "list" us.toArray e) ∧ s'.heap.get? a = some (seqObj "list" #[] e1)) vs 0 s ⟨[], 0, rfl, g0, nk, na⟩ ?one ?all)
  case one =>
    rintro j x s1 hx ⟨us, e, hl, g, k1, k2⟩
    have hj : j < vs.length := (List.getElem?_eq_some_iff.mp hx).1
    refine wpAny_bind (wpAny_attempt (wpAny_mono (X.turn us x s1 (by rw [hl, Nat.zero_add]; exact hx) g) (fun v s2 hv => ?_) fun _ _ hF => hF.elim))
    obtain ⟨g2, kp⟩ := hv
    have m1 := kp kS _ (.inl rfl) k1
    have m2 := kp a _ (.inr rfl) k2
    try dsimp only
    have sb := Heap.SameBut.update s2.heap kS (Obj.mapSeq (·.push v))
    obtain ⟨c2, hc2⟩ : ∃ c2, (s2.heap.update kS (Obj.mapSeq (·.push v))).get? kS = some (seqObj "list" (us.toArray.push v) c2) := ⟨_, get?_update_seq m1 (·.push v)⟩
    have hz : us.toArray.size ≤ vs.length := by
      rw [List.size_toArray]
      omega
    refine wpAny_bind (listUpdate_at m1 rfl ?_ (Nat.le_trans hz hZ) (Nat.le_trans (Nat.le_of_eq (Array.size_push ..)) (Nat.succ_le_succ (Nat.le_trans hz hZ))))
    refine wpAny_pure ⟨rfl, us ++ [v], c2, by rw [List.length_append, hl]; rfl, ?_, ?_, (sb.2 a hka.symm).trans m2⟩
    · exact X.push (us ++ [v]) s2 _ _ g2 (fun c o hc q => (sb.2 c hc).trans q) ⟨_, hc2⟩
    · have e2 : (us ++ [v]).toArray = us.toArray.push v := by simp
      rw [e2]
      exact hc2
  case all =>
    rintro s1 ⟨us, e, hl, g, k1, k2⟩
    rw [Nat.zero_add] at hl
    have rd := X.reads us s1 hl g
    try dsimp only
    refine wpAny_bind (listItems_at k1 rfl ?_)
    have old : KeepsBut a (hidT s1.heap fun c => if c = kS then some (.lst []) else none) s1.heap := fun c o _ q => (of_hidT q).1
    have hid : (hidT s1.heap fun c => if c = kS then some (.lst []) else none).get? kS = none := by
      cases q : (hidT s1.heap fun c => if c = kS then some (.lst []) else none).get? kS with
      | none => rfl
      | some o =>
        have z := (of_hidT q).2
        simp at z
    have sz : us.toArray.size = vs.length := by rw [List.size_toArray]; exact hl
    have rd2 : EachIs (fun v k => ∃ as, Reads s1.heap v k as) us.toArray.toList kz := by simpa using rd
    refine keyH_end (κ := dataKind s1.heap kz) old hid k1 k2 hka (SortsAt.data (s := s1) rd2 hal hsk hu) sz hZ fun h3 tk3 c k3 n3 => ?_
    exact fin us s1 h3 tk3 _ c hl g (fun d o d1 d2 q => k3 d o d2 (hidT_get q (if_neg d1))) n3 ⟨s1.heap, us.toArray.toList, hal, rfl, rd2⟩
/-- the list's own sort -/
theorem tree_g {n : Nat} (ho : s.heap.get? a = some (seqObj "list" vs.toArray n)) (hlen : kz.length = vs.length) (hZ : vs.length ≤ sizeLine) (hal : AllAlike kz) (hsk : Sortable kz) (hu : ∀ d, d ∈ kz → A.units + d.depth < cLine)
    (step : ∀ (kS : Addr) (h1 : Heap), s.heap.objs.size ≤ kS → (∀ c o, c ≠ a → s.heap.get? c = some o → h1.get? c = some o) → h1.get? kS = some (seqObj "list" #[] 0) → (∃ o, h1.get? a = some o) → ∃ G : List Value → Shared → Prop, Wd prog w A f kS a vs kz G ∧ G [] { s with heap := h1 } ∧
      ∀ (us : List Value) (s' : Shared) (h' : Heap) (tk : Nat) (out : List Value) (c : Nat), us.length = vs.length → G us s' → (∀ d o, d ≠ kS → d ≠ a → s'.heap.get? d = some o → h'.get? d = some o) →
        h'.get? a = some (seqObj "list" (List.toArray out) c) → KeyedOut b kz vs out → P (.done (.ret .none)) { s' with heap := h', toks := tk }) :
    wpAny (model prog w) A (ksk_tree a f b) P E s := by
  have sb := Heap.SameBut.update s.heap a (Obj.mapSeq fun _ => (#[] : Array Value))
  have ho1 := get?_update_seq ho fun _ => (#[] : Array Value)
  have z1 : ((s.heap.update a (Obj.mapSeq fun _ => (#[] : Array Value))).push (seqObj "tuple" vs.toArray 0)).objs.size = s.heap.objs.size + 1 := by rw [size_push', Heap.size_update]
  have small : vs.toArray.size ≤ sizeLine := (List.size_toArray ..).symm ▸ hZ
  unfold ksk_tree
  refine wpAny_bind (listItems_at ho rfl (wpAny_bind (listUpdate_at ho rfl (wpAny_bind (seqEpoch_at ho1 rfl (wpAny_bind (wpAny_newTuple (wpAny_bind (wpAny_newList (wpAny_holding ?_) (Nat.zero_le _))) small)))) small (Nat.zero_le _))))
  obtain ⟨G, X, g0, fin⟩ := step ((s.heap.update a (Obj.mapSeq fun _ => (#[] : Array Value))).push (seqObj "tuple" vs.toArray 0)).objs.size _ (by rw [z1]; exact Nat.le_succ _)
    (fun c o hc q => Heap.get?_push_of_some _ (Heap.get?_push_of_some _ ((sb.2 c hc).trans q))) (Heap.get?_push_size _ rfl) ⟨_, Heap.get?_push_of_some _ (Heap.get?_push_of_some _ ho1)⟩
  exact rest_g X g0 (Heap.get?_push_size _ rfl) (Heap.get?_push_of_some _ (Heap.get?_push_of_some _ ho1)) (by rw [z1]; exact Nat.ne_of_gt (Nat.lt_succ_of_lt (Heap.lt_size ho))) hlen hZ hal hsk hu fin
end
end LK
namespace LK
open PySem PySem.Spec PyProof.Rows L2 LamX NdefX PySem.W
/-- the object of a lambda -/
def LmO (f : Addr) (q : Str) (params : Arguments) (body : Expr) (scope : Scope) (cl : List (Str × Addr)) (c' : Addr) : HO := .ext fun h => ∃ pm ctv : Value, h.get? f = some (kla_obj "<lambda>" q params body scope cl pm c' ctv)
/-- the table at P: what it tells bears the name q -/
def TabX (H : Hp) (P : Addr) (q : Str) : Prop := ∃ ps : Array Value, H P = some (.tbl ps) ∧ TriplesOk ps.toList ∧ ∀ (pos : Pos) (cv : Value), codeAmong pos ps.toList = some cv → ∃ c, cv = .ref c ∧ H c = some (CodeO c q)
/-- all but the table at P stays -/
def KeepX (P : Addr) (H H' : Hp) : Prop := ∀ b o, b ≠ P → H b = some o → H' b = some o
/-- the reading of a lambda's making -/
def tLam1 (P : Addr) (q : Str) (mk : Addr → Addr → HO) : TE := fun σ H Q => TabX H P q ∧ ∀ f c' H1, KeepX P H H1 → TabX H1 P q → H1 f = some (mk f c') → H1 c' = some (CodeO c' q) → Q (.ref f) H1
theorem codeO_tbl {c : Addr} {q : Str} {ps : Array Value} (h : CodeO c q = .tbl ps) : False := by
  unfold CodeO at h
  cases h
section
variable {X : Cx}
theorem lam_put {pins : List (Addr × Obj)} {σ : L2.St} {H : Hp} {s : Shared} {params : Arguments} {body : Expr} {scope : Scope} {cl : List (Str × Addr)} {q : Str} {pm ctv : Value} {c' : Addr} {t' : Nat} (I : Inv X pins σ H s) :
    Inv X pins σ (upd H s.heap.objs.size (LmO s.heap.objs.size q params body scope cl c')) { s with heap := s.heap.push (kla_obj "<lambda>" q params body scope cl pm c' ctv), toks := t' } := by
  refine I.laid (a := s.heap.objs.size) (fun b u e => Heap.get?_push_of_some _ e) (Nat.le_refl _) ?_
  have e := Heap.get?_push_size s.heap (o := kla_obj "<lambda>" q params body scope cl pm c' ctv) rfl
  exact ⟨⟨pm, ctv, e⟩, ⟨_, e⟩, fun h1 h2 ⟨a, b, z⟩ st => ⟨a, b, st _ z⟩⟩
theorem pe_lam {c P : Addr} {params : Arguments} {body : Expr} {scope : Scope} {pos : Pos} (TB : TabB X.base X.mg c P) (hcode : X.env.code = .ref c) (hdef : defaultsOf params X.env = ([], []))
    (hfree : ∀ y ∈ scope.names, y.2 = .free → X.env.scope.names.lookup y.1 = some .cell ∨ X.env.scope.names.lookup y.1 = some .free) :
    PE X (.Lambda params body scope pos) (tLam1 P (X.env.qual ++ "<lambda>") fun f c' => LmO f (X.env.qual ++ "<lambda>") params body scope (cloFrom X.env.cells scope.names []) c') := by
  refine ⟨fun pins s σ H Q I ⟨⟨ps, hP, ht, ha⟩, h⟩ => kla_eval hdef ?_⟩
  have bP : s.heap.BuiltinsAt X.mg P := TB.bm.keeps I.bk
  have oP : s.heap.get? P = some { cls := .none, data := .fields ps } := I.hok P _ hP
  have cl_ok : ∀ y ∈ scope.names, y.2 = .free → ∃ c, X.env.cells.lookup y.1 = some c := fun y hy e => (hfree y hy e).elim (fun z => I.ok.has _ (.inl z)) fun z => I.ok.has _ (.inr z)
  cases hc : codeAmong pos ps.toList with
  | some cv =>
    obtain ⟨c', e, hco⟩ := ha pos cv hc
    subst e
    refine kla_makeFunctionHit (mg := X.mg) (c := c) (P := P) (ps := ps) (closure_ok cl_ok) I.ok.glob (I.mod.glob.keeps I.bk) hcode (TB.code.keeps I.bk) oP ht hc bP fun ctv h1 tk hx _ => ?_
    have I1 : Inv X pins σ H { s with heap := h1, toks := tk } := I.kept hx
    have I2 := lam_put (q := X.env.qual ++ "<lambda>") (params := params) (body := body) (scope := scope) (cl := cloFrom X.env.cells scope.names []) (pm := (X.mg "__name__").getD .none) (ctv := ctv) (c' := c') (t' := tk) I1
    have nF : H h1.objs.size = none := I1.hok.fresh (Nat.le_refl _)
    refine ⟨.ref _, _, I2, rfl, h _ c' _ (fun b o _ e => (upd_ne (ne_of_none e nF)).trans e) ⟨ps, (upd_ne (ne_of_none hP nF)).trans hP, ht, fun p2 cv2 q2 => ?_⟩ upd_same ((upd_ne (ne_of_none hco nF)).trans hco)⟩
    obtain ⟨c0, e1, e2⟩ := ha p2 cv2 q2
    exact ⟨c0, e1, (upd_ne (ne_of_none e2 nF)).trans e2⟩
  | none =>
    refine kla_makeFunction (mg := X.mg) (c := c) (P := P) (ps := ps) (closure_ok cl_ok) I.ok.glob (I.mod.glob.keeps I.bk) hcode (TB.code.keeps I.bk) oP ht hc TB.gP bP fun c' ctv h1 tk hx hge hlt hrec htb => ?_
    obtain ⟨c2, oc, vs, t, e2, hoc, hd, hv⟩ := hrec
    cases e2
    have nC : H c' = none := I.hok.fresh hge
    have PnC : P ≠ c' := ne_of_none hP nC
    have I1 := inv_table (t' := tk) (more := #[rawInt pos.line, rawInt pos.col, .ref c']) (h' := h1) I hP (fun b o hb e => hx b o hb e) htb hge ⟨oc, vs, t, hoc, hd, hv⟩
    have I2 := lam_put (q := X.env.qual ++ "<lambda>") (params := params) (body := body) (scope := scope) (cl := cloFrom X.env.cells scope.names []) (pm := (X.mg "__name__").getD .none) (ctv := ctv) (c' := c') (t' := tk) I1
    have nF := I1.hok.fresh (Nat.le_refl _)
    have step : KeepX P H (upd (upd H P (.tbl (ps ++ #[rawInt pos.line, rawInt pos.col, .ref c']))) c' (CodeO c' (X.env.qual ++ "<lambda>"))) := fun b o hb e => by
      rw [upd_ne (ne_of_none e nC), upd_ne hb]
      exact e
    have atP : (upd (upd H P (.tbl (ps ++ #[rawInt pos.line, rawInt pos.col, .ref c']))) c' (CodeO c' (X.env.qual ++ "<lambda>"))) P = some (.tbl (ps ++ #[rawInt pos.line, rawInt pos.col, .ref c'])) := by rw [upd_ne PnC, upd_same]
    have el : (ps ++ #[rawInt pos.line, rawInt pos.col, .ref c']).toList = ps.toList ++ [rawInt pos.line, rawInt pos.col, .ref c'] := by simp
    refine ⟨.ref _, _, I2, rfl, h _ c' _ (fun b o hb e => (upd_ne (ne_of_none (step b o hb e) nF)).trans (step b o hb e)) ⟨_, (upd_ne (ne_of_none atP nF)).trans atP, by rw [el]; exact TriplesOk_snoc _ _ _ _ ht, fun p2 cv2 q2 => ?_⟩ upd_same ((upd_ne (ne_of_none upd_same nF)).trans upd_same)⟩
    rw [el] at q2
    rcases among_app2 _ ht q2 with z | ⟨z, _, _⟩
    · obtain ⟨c0, e1, e2⟩ := ha p2 cv2 z
      have nP0 : c0 ≠ P := fun y => by
        rw [y, hP] at e2
        exact codeO_tbl (Option.some.inj e2).symm
      exact ⟨c0, e1, (upd_ne (ne_of_none (step _ _ nP0 e2) nF)).trans (step _ _ nP0 e2)⟩
    · exact ⟨c', z, (upd_ne (ne_of_none upd_same nF)).trans upd_same⟩
end
section
variable {CX : CXT} {P : Program} {w : World} {K : PySem.W.Frag} {mg : Str → Option Value} {base : Heap} {N ps fr : List Str} {F : NF} {f : Addr} {k : Nat}
/-- a lambda called -/
theorem lam_run {body : Expr} {A : Around} {outer : List Env} {s : Shared} {H : Hp} {us : List Value} {vs : List V} {ws : List (Option V)} {Q : VK} {E : XK} {tb : TE} (S : NScope N ps fr F.scope)
    (hb : ∀ (pm ctv : Value) (us : List Value), us.length = ps.length → bindArgs (kla_fn "<lambda>" F.qual F.params body F.scope F.cl pm (.ref F.c) ctv) ⟨us, []⟩ = pure (ps.zip us))
    (hr : Room (k + 1) A) (e0 : Env0 P w K mg base A outer s H) (hf : H f = some (LmO f F.qual F.params body F.scope F.cl F.c)) (hc : H F.c = some (CodeO F.c F.qual)) (C : CellsAt F.cl fr ws s.heap H) (r : Vals vs us) (hl : vs.length = ps.length)
    (hbody : Room k (A.deeper (envF F f s.heap.objs.size)) → PE (ncx CX P w K mg base N F f A outer s H E) body tb) (hq : tb (startF N vs ws) H Q) :
    codeAny (model P w) A (.call (.ref f) ⟨us, []⟩) (CR CX outer P w H s Q E) s := by
  have lim : s.heap.NoLimit := e0.mod.nolimit.keeps fun b o e => (e0.bs b o e).1
  obtain ⟨⟨pm, ctv, ho⟩, _, _⟩ := e0.hok f _ hf
  refine kla_callFunE hr.depth ho rfl S.co S.gen rfl (codeO_at e0.hok hc) ?_
  rw [hb pm ctv us (by rw [← r.length]; exact hl)]
  refine wpAny_pure (wpAny_newFunctionEnv S.nocell (fun ⟨n, _⟩ hy => S.par n (List.of_mem_zip hy).1) (fun h₁ hns hsb => ⟨lim.fresh _ hsb, ?_⟩) S.kind)
  show codeAny _ _ (.expr body (envF F f s.heap.objs.size)) _ _
  have kp : ∀ b o, s.heap.get? b = some o → h₁.get? b = some o := fun b o e => hsb.extBut b o (Nat.ne_of_lt (Heap.lt_size e)) (Heap.get?_push_of_some _ e)
  have I : Inv (ncx CX P w K mg base N F f A outer s H E) [] (startF N vs ws) H { s with heap := h₁, toks := s.toks + (ps.zip us).length } := inv_startN S hr.hd e0 hl r C hns kp
  refine kla_codeExpr (wpAny_mono ((hbody (hr.deeper _)).run [] _ (startF N vs ws) H Q I hq) (fun v s' hv => ?_) fun e s' he => he)
  obtain ⟨w', H', J, rv, q⟩ := hv
  exact ⟨w', H', J.os, J.bare, J.base, J.hok, rv, q⟩
end
/-- J: what holds while the keys are made -/
def rSortL (K : PySem.W.Frag) (q : Str) (mk : Addr → Addr → HO) (N : List Str) (js : List Nat) (tb : TE) (σ : L2.St) : List V → List V → Hp → VK → Prop := fun xs zs H Q => ∃ (a f c' : Addr) (vs : List V) (J : List V → Hp → Prop) (kz : List PyData),
  xs = [.ref a] ∧ zs = [.ref f] ∧ SqL K H a vs ∧ H f = some (mk f c') ∧ H c' = some (CodeO c' q) ∧ kz.length = vs.length ∧ AllAlike kz ∧ Sortable kz ∧ (∀ k ∈ kz, k.depth ≤ 8) ∧ J [] H ∧
  (∀ ks H2, J ks H2 → H2 f = some (mk f c') ∧ H2 c' = some (CodeO c' q)) ∧ (∀ ks H2 v, vs[ks.length]? = some v → J ks H2 → tb (startF N [v] (js.map (slotAt σ))) H2 fun k H3 => J (ks ++ [k]) H3) ∧
  ∀ ks H2, ks.length = vs.length → J ks H2 → Paired (Dp K H2) ks kz ∧ ∀ p, H2 p = none → Q (.ref p) (upd H2 p (.lst (((vs.zip kz).mergeSort (dataLe false (·.2))).map (·.1))))
/-- the whole -/
def tSortL (K : PySem.W.Frag) (P : Addr) (q : Str) (mk : Addr → Addr → HO) (N : List Str) (js : List Nat) (tb : TE) (tl : TE) : TE := fun σ H Q => tCons tl tNil σ H fun xs H0 => tCons (tLam1 P q mk) tNil σ H0 fun zs H1 => rSortL K q mk N js tb σ xs zs H1 Q
theorem each_by {α β γ : Type} {R : α → β → Prop} (f : γ → α) : ∀ {bs : List γ} {us : List β}, Paired R (bs.map f) us → EachIs (fun u b => R (f b) u) us bs
  | [], [], .nil => .nil
  | _ :: _, _ :: _, .cons a b => .cons a (each_by f b)
theorem zip_fst : ∀ {vs : List V} {kz : List PyData}, kz.length = vs.length → (vs.zip kz).map (·.1) = vs ∧ (vs.zip kz).map (·.2) = kz
  | [], [], _ => ⟨rfl, rfl⟩
  | v :: vs, k :: kz, h => by
    obtain ⟨h1, h2⟩ := zip_fst (vs := vs) (kz := kz) (by simpa using h)
    exact ⟨by rw [List.zip_cons_cons, List.map_cons, h1], by rw [List.zip_cons_cons, List.map_cons, h2]⟩
  | [], _ :: _, h => by simp at h
  | _ :: _, [], h => by simp at h
theorem reads_of {X : Cx} {pins : List (Addr × Obj)} {σ : L2.St} {H : Hp} {s : Shared} (I : Inv X pins σ H s) : ∀ {ks : List V} {us : List Value} {kz : List PyData}, Paired (Dp X.K H) ks kz → Vals ks us → EachIs (fun v k => ∃ as, Reads s.heap v k as) us kz
  | [], [], [], .nil, .nil => .nil
  | _ :: _, _ :: _, _ :: _, .cons a b, .cons r rs => .cons (Dp.reads I _ _ _ a r) (reads_of I b rs)
section
variable {X : Cx}
/-- the frame's own objects lie below -/
theorem low {pins : List (Addr × Obj)} {σ : L2.St} {H : Hp} {s : Shared} (I : Inv X pins σ H s) {b : Addr} (h : s.heap.objs.size ≤ b) :
    (b ∈ X.ex ∨ X.s_0.heap.objs.size ≤ b) ∧ b ≠ X.env.locals ∧ (∀ x c, X.env.cells.lookup x = some c → c ≠ b) ∧ ∀ p ∈ X.pn ++ pins, p.1 ≠ b := by
  refine ⟨.inr (Nat.le_trans I.sz h), Nat.ne_of_gt (Nat.lt_of_lt_of_le I.lt h), fun x c e => ?_, fun p hp => ?_⟩
  · obtain ⟨v, o, ho, _⟩ := I.cell x c e
    exact Nat.ne_of_lt (Nat.lt_of_lt_of_le (Heap.lt_size ho) h)
  · exact Nat.ne_of_lt (Nat.lt_of_lt_of_le (Heap.lt_size (I.pin p hp).1) h)
theorem sort_call {pins : List (Addr × Obj)} {σ : L2.St} {H : Hp} {s : Shared} {us ws : List Value} {xs zs : List V} {Q : VK} {N ps fr : List Str} {js : List Nat} {params : Arguments} {body : Expr} {scope : Scope} {q : Str} {cl : List (Str × Addr)} {k : Nat} {tb : TE}
    (S : NScope N ps fr scope) (hp1 : ps.length = 1) (hb : ∀ (c' : Addr) (pm ctv : Value) (us : List Value), us.length = ps.length → bindArgs (kla_fn "<lambda>" q params body scope cl pm (.ref c') ctv) ⟨us, []⟩ = pure (ps.zip us)) (cp : X.Ok → Caps X cl fr js)
    (hr : Room (k + 3) X.A)
    (hbody : ∀ (f c' : Addr) (s : Shared) (H : Hp), Room k (X.A.in1.in1.deeper (envF ⟨"<lambda>", q, params, [], scope, cl, c'⟩ f s.heap.objs.size)) → PE (ncx CX0 X.prog X.w X.K X.mg X.base N ⟨"<lambda>", q, params, [], scope, cl, c'⟩ f X.A.in1.in1 X.stack s H fun _ _ _ => False) body tb)
    (I : Inv X pins σ H s) (r : Vals xs us) (rz : Vals zs ws) (h : rSortL X.K q (fun f c' => LmO f q params body scope cl c') N js tb σ xs zs H Q) :
    wpAny (model X.prog X.w) X.A (call (.builtin "sorted") us ((["key"] : List Str).zip ws)) (EP X pins σ Q) X.xe s := by
  obtain ⟨a, f, c', vs, J, kz, rfl, rfl, hs, hf, hc, hkl, hal, hsk, hde, j0, jk, jt, jd⟩ := h
  rw [Vals.ref1 r, Vals.ref1 rz]
  obtain ⟨its, rv, hl, hz⟩ := I.list hs
  obtain ⟨z1, z2⟩ := zip_fst hkl
  have lv := rv.length
  have un0 := hr.un
  refine sorted_of_sort (kw := [("key", .ref f)]) hl.isList (by rw [← lv]; exact hz) (ksk_s1 _ _) (fun x => ksk_l1 _ _) fun E' => ?_
  have eT : Builtin.«list.sort» ⟨[.ref (s.heap.objs.size + 1)], [("key", .ref f)]⟩ = ksk_tree (s.heap.objs.size + 1) (.ref f) false := ksk_t1 f _
  rw [eT]
  have fr0 : s.heap.objs.size ≤ s.heap.objs.size + 1 := Nat.le_succ _
  refine tree_g (kz := kz) (s := { s with heap := copyHeap s.heap its }) (copyHeap_at s.heap its) (by rw [hkl, lv]) (by rw [← lv]; exact hz) hal hsk (fun d hd => by have := hde d hd; show X.A.units + 1 + 1 + _ < _; omega) fun kS h1 k1 k2 k3 k4 => ?_
  have hsz : s.heap.objs.size + 1 < (copyHeap s.heap its).objs.size := Heap.lt_size (copyHeap_at s.heap its)
  have k1' : s.heap.objs.size + 1 < kS := Nat.lt_of_lt_of_le hsz k1
  have lowA := low I (b := s.heap.objs.size + 1) fr0
  have lowS := low I (b := kS) (by omega)
  refine ⟨fun us s' => ∃ ks H', Inv X pins σ H' s' ∧ Vals ks us ∧ J ks H' ∧ H' kS = none ∧ H' (s.heap.objs.size + 1) = none ∧ (∃ o, s'.heap.get? kS = some o) ∧ ∃ o, s'.heap.get? (s.heap.objs.size + 1) = some o, ⟨?turn, ?push, ?reads⟩, ?start, ?fin⟩
  case start =>
    have old : ∀ b o, s.heap.get? b = some o → h1.get? b = some o := fun b o e => k2 b o (Nat.ne_of_lt (Nat.lt_succ_of_lt (Heap.lt_size e))) (copyHeap_old e)
    exact ⟨[], H, I.kept (t' := s.toks) old, .nil, j0, I.hok.fresh (by omega), I.hok.fresh fr0, ⟨_, k3⟩, k4⟩
  case push =>
    rintro us s' h' tk ⟨ks, H', I', r', j', n1, n2, o1, ⟨o2, e2⟩⟩ keep hk
    exact ⟨ks, H', I'.turned keep n1 lowS.2.1 lowS.1 lowS.2.2.1 lowS.2.2.2, r', j', n1, n2, hk, o2, keep (s.heap.objs.size + 1) o2 (Nat.ne_of_lt k1') e2⟩
  case reads =>
    rintro us s' hul ⟨ks, H', I', r', j', _⟩
    exact reads_of I' (jd ks H' (by rw [r'.length, hul, lv]) j').1 r'
  case turn =>
    rintro us v s' hv ⟨ks, H', I', r', j', n1, n2, ⟨o1, e1⟩, ⟨o2, e2⟩⟩
    obtain ⟨f1, c1⟩ := jk ks H' j'
    obtain ⟨x, hx, rx⟩ : ∃ x, vs[us.length]? = some x ∧ RelV x v := by
      have hi : us.length < vs.length := by
        rw [lv]
        exact (List.getElem?_eq_some_iff.mp hv).1
      obtain ⟨u, e1, e2⟩ := rv.get (List.getElem?_eq_getElem hi)
      rw [e1] at hv
      cases hv
      exact ⟨_, List.getElem?_eq_getElem hi, e2⟩
    have j2 := jt ks H' x (by rw [r'.length]; exact hx) j'
    have C := cells_of I' (cp I'.ok)
    have rc := lam_run (F := ⟨"<lambda>", q, params, [], scope, cl, c'⟩) (CX := CX0) (E := fun _ _ _ => False) (k := k) S (hb c') hr.in1.in1 (I'.env0.in1).in1 f1 c1 C (.cons rx .nil : Vals [x] [v]) hp1.symm (fun hr2 => hbody f c' s' H' hr2) j2
    refine wpAny_call (codeAny_mono rc fun res s2 hq => ?_)
    cases res with
    | error e => exact (show False from hq).elim
    | ok fl =>
      cases fl with
      | next => exact False.elim hq
      | brk => exact False.elim hq
      | cont => exact False.elim hq
      | ret u =>
        obtain ⟨w1, H2, os, bare, un, hok, ru, jq⟩ := (show CE X.stack X.prog X.w H' s' _ u s2 from hq)
        have nfS : ∀ b, s.heap.objs.size ≤ b → b ∉ frs X.stack := fun b hb z => by
          rcases List.mem_cons.mp (I.stkSub _ z) with e | e
          · exact (low I hb).2.1 e
          · exact I.nofs hb e
        have keepN : ∀ c o, c = kS ∨ c = s.heap.objs.size + 1 → s'.heap.get? c = some o → s2.heap.get? c = some o ∧ H2 c = none := fun c o hc2 e => by
          have hb : s.heap.objs.size ≤ c := by rcases hc2 with z | z <;> (subst z; omega)
          have hn : H' c = none := by
            rcases hc2 with z | z
            · rw [z]; exact n1
            · rw [z]; exact n2
          exact ⟨un.keep c o e hn (nfS c hb) (by simp), un.free c o e hn (by simp)⟩
        exact ⟨⟨ks ++ [w1], H2, I'.call' os un hok bare (fun b z => absurd z (by simp)), r'.append (.cons ru .nil), jq, (keepN kS o1 (.inl rfl) e1).2, (keepN _ o2 (.inr rfl) e2).2, ⟨o1, (keepN kS o1 (.inl rfl) e1).1⟩, o2, (keepN _ o2 (.inr rfl) e2).1⟩, fun c o hc2 e => (keepN c o hc2 e).1⟩
  case fin =>
    rintro us s' h' tk out c hul ⟨ks, H', I', r', j', n1, n2, _⟩ keep na ko
    refine ⟨rfl, .ref (s.heap.objs.size + 1), upd H' (s.heap.objs.size + 1) (.lst (((vs.zip kz).mergeSort (dataLe false (·.2))).map (·.1))), ?_, rfl, (jd ks H' (by rw [r'.length, hul, lv]) j').2 _ n2⟩
    have rr : Vals (((vs.zip kz).mergeSort (dataLe false (·.2))).map (·.1)) out := by
      have ee : EachIs (fun u (b : V × PyData) => RelV b.1 u) its (vs.zip kz) := each_by (fun b : V × PyData => b.1) (by rw [z1]; exact rv)
      rw [← z2] at ko
      exact SD.vals_each (fun b : V × PyData => b.1) (keyedOut_each (fun b : V × PyData => b.2) ko ee)
    have big : (((vs.zip kz).mergeSort (dataLe false (·.2))).map (·.1)).length ≤ sizeLine := by
      rw [List.length_map, List.length_mergeSort, List.length_zip, hkl, Nat.min_self]
      exact hz
    have ne : ∀ b u, H' b = some u → b ≠ kS ∧ b ≠ s.heap.objs.size + 1 := fun b u e => ⟨fun z => (by rw [z, n1] at e; cases e), fun z => (by rw [z, n2] at e; cases e)⟩
    have off : ∀ b, b ∉ [kS, s.heap.objs.size + 1] → b ≠ kS ∧ b ≠ s.heap.objs.size + 1 := fun b hb => by
      simp only [List.mem_cons, List.not_mem_nil, or_false, not_or] at hb
      exact hb
    refine I'.step (g' := s'.gens) (d' := s'.drawn) (t' := tk) (ch := [kS, s.heap.objs.size + 1]) (fun b hb => ?_) (fun b o _ _ hc e _ => keep b o (off b hc).1 (off b hc).2 e) (fun b o _ _ hc e _ => ⟨o.slots, keep b o (off b hc).1 (off b hc).2 e⟩)
      (fun b o hc _ hn => by rw [upd_ne (off b hc).2]; exact hn) (fun b o hc e => ⟨o, keep b o (off b hc).1 (off b hc).2 e⟩) (fun b xs e => by rw [upd_ne (ne b _ e).2]; exact e) (fun b o u e => by rw [upd_ne (ne b _ e).2]; exact e)
      (fun b ps e => ⟨#[], by rw [upd_ne (ne b _ e).2, e]; simp⟩) (fun m hm => ?_) (fun b u e => ?_) I'.bare
    · simp only [List.mem_cons, List.not_mem_nil, or_false] at hb
      rcases hb with z | z
      · rw [z]; exact lowS
      · rw [z]; exact lowA
    · obtain ⟨o, es, ep, ho, z⟩ := hm
      exact ⟨o, es, ep, keep _ o (Ne.symm lowS.2.1) (Ne.symm lowA.2.1) ho, z⟩
    · by_cases hb2 : b = s.heap.objs.size + 1
      · subst hb2
        rw [upd_same] at e
        cases e
        exact ⟨big, out, c, rr, na⟩
      · rw [upd_ne hb2] at e
        refine (I'.hok b u e).stay (fun d v hd q2 => ?_) (fun d q2 => by rw [upd_ne (ne d _ q2).2]; exact q2) fun d xs q2 => by rw [upd_ne (ne d _ q2).2]; exact q2
        have dn : d ≠ kS ∧ d ≠ s.heap.objs.size + 1 := by
          rcases hd with z | z
          · rw [z]; exact ne b u e
          · exact ne d _ z
        exact keep d v dn.1 dn.2 q2
end
end LK
namespace LK
open PySem PySem.Spec PyProof.Rows L2 LamX NdefX PySem.W
theorem pe_sortL {X : Cx} {K : PySem.W.Frag} {N ps fr : List Str} {js : List Nat} {params : Arguments} {body : Expr} {scope : Scope} {c P : Addr} {k : Nat} {tb tl : TE} {e : Expr} {p pos lpos kpos : Pos} (h : X.K = K) (hg : Gl X "sorted") (hm : X.mg "sorted" = none) (TB : TabB X.base X.mg c P) (hcode : X.env.code = .ref c)
    (hr : Room (k + 3) X.A) (S : NScope N ps fr scope) (hp1 : ps.length = 1) (hfr : ndefB X.env.scope scope fr = true) (hjs : js.map (fun j => X.N[j]?) = fr.map some) (hdef : defaultsOf params X.env = ([], []))
    (hb : ∀ (q : Str) (cl : List (Str × Addr)) (c' : Addr) (pm ctv : Value) (us : List Value), us.length = ps.length → bindArgs (kla_fn "<lambda>" q params body scope cl pm (.ref c') ctv) ⟨us, []⟩ = pure (ps.zip us)) (ha : PE X e tl)
    (hbody : ∀ (f c' : Addr) (s : Shared) (H : Hp), Room k (X.A.in1.in1.deeper (envF ⟨"<lambda>", X.env.qual ++ "<lambda>", params, [], scope, cloFrom X.env.cells scope.names [], c'⟩ f s.heap.objs.size)) →
      PE (ncx CX0 X.prog X.w X.K X.mg X.base N ⟨"<lambda>", X.env.qual ++ "<lambda>", params, [], scope, cloFrom X.env.cells scope.names [], c'⟩ f X.A.in1.in1 X.stack s H fun _ _ _ => False) body tb)
    (he : backTo pos (starEach [e] X.env) = (false, eval e X.env) :: backTo pos (starEach [] X.env) := by rfl) (hs : starEach [e] X.env = (false, eval e X.env) :: starEach [] X.env := by rfl) (hpl : (backTo pos (starEach [e] X.env)).any (·.1) = false := by rfl) :
    PE X (.Call (.Name "sorted" p) [e] [⟨some "key", .Lambda params body scope lpos, kpos⟩] pos) (tSortL K P (X.env.qual ++ "<lambda>") (fun f c' => LmO f (X.env.qual ++ "<lambda>") params body scope (cloFrom X.env.cells scope.names []) c') N js tb tl) := by
  subst h
  have hfree := ndef_free hfr
  refine ⟨fun pins s σ H Q I h => ?_⟩
  refine wpAny_Call_Name_kw (ld_blt I hg hm (by rfl) ?_ (by decide) (by decide))
  have pa : PA X [e] (tCons tl tNil) := pa_cons ha pa_nil hs
  have pk : PK X [⟨some "key", .Lambda params body scope lpos, kpos⟩] (tCons (tLam1 P (X.env.qual ++ "<lambda>") fun f c' => LmO f (X.env.qual ++ "<lambda>") params body scope (cloFrom X.env.cells scope.names []) c') tNil) := pk_cons (pe_lam TB hcode hdef hfree) pk_nil
  refine PyProof.Rows.callWith_kw (thn (pa.run pos pins s σ H _ I h) fun us s1 ⟨xs, H1, I1, r1, q1⟩ => thn (pk.run pos pins s1 σ H1 _ I1 q1) fun ws s2 ⟨zs, H2, I2, r2, q2⟩ => ?_) he hpl (by rfl) (by rfl)
  exact sort_call S hp1 (hb _ _) (fun ok => Caps.made ok hfree (ndef_fr hfr) hjs) hr hbody I2 r1 r2 q2
structure FunT (K : PySem.W.Frag) (x qual : Str) (st : Stmt) (c f : Addr) (fd : FuncData) : Prop where
  ex : ∃ (oc : Value) (od : Option Addr) (kV doc pm : Value) (an : Option Addr) (ct : Value) (osl : Array (Option Value)),
    fd = PySem.W.fnOf x qual (defArgs st) (defBody st) (defScope st) .none kV doc pm an (.ref c) ct ∧ K.lookup f = some ⟨oc, od, .func fd, osl⟩ ∧ PySem.W.codeIn K (.ref c) qual = true
  kp : PySem.W.keepIn K (.ref f) = true
section
variable {P : Program} {w : World} {K : PySem.W.Frag} {mg : Str → Option Value} {base : Heap} {x qual : Str} {st : Stmt} {c f : Addr} {fd : FuncData}
theorem FunT.ok {CX : CXT} {N ps : List Str} {k : Nat} {sp : Sp} (F : FunT K x qual st c f fd) (S : FnScope N ps (defScope st)) (len : ∀ vs H Q E, sp vs H Q E → vs.length = ps.length)
    (hbody : ∀ (A : Around) (outer : List Env) (s : Shared) (H : Hp) (vs : List V) (Q : VK) (E : XK), Room k (A.deeper (envOfC qual (defScope st) s.heap.objs.size f (.ref c))) → sp vs H Q E →
      ∃ t, PSs (cxOf CX P w K mg base N qual (defScope st) f (.ref c) A outer s H E) (defBody st) t ∧ t { nx := fun _ H' => Q .non H', rt := Q } (start N vs) H) : FnOk P w K mg base CX (k + 1) f fd ps sp := by
  obtain ⟨oc, od, kV, doc, pm, an, ct, osl, rfl, lk, hcd⟩ := F.ex
  exact fn_of lk hcd S len hbody
theorem FunT.ok0 {N ps : List Str} {k : Nat} {sp : Sp} (F : FunT K x qual st c f fd) (S : FnScope N ps (defScope st)) (len : ∀ vs H Q E, sp vs H Q E → vs.length = ps.length)
    (hbody : ∀ (A : Around) (outer : List Env) (s : Shared) (H : Hp) (vs : List V) (Q : VK) (E : XK), Room k (A.deeper (envOfC qual (defScope st) s.heap.objs.size f (.ref c))) → sp vs H Q E →
      ∃ t, PSs (cxOf CX0 P w K mg base N qual (defScope st) f (.ref c) A outer s H E).nox (defBody st) t ∧ t { nx := fun _ H' => Q .non H', rt := Q } (start N vs) H) : FnOk P w K mg base CX0 (k + 1) f fd ps sp :=
  F.ok S len fun A outer s H vs Q E hr hsp => let ⟨t, h, q⟩ := hbody A outer s H vs Q E hr hsp; ⟨t, h.nox, q⟩
theorem FunT.fn (F : FunT K x qual st c f fd) : Fun K x qual st f fd := by
  obtain ⟨oc, od, kV, doc, pm, an, ct, osl, e, lk, hcd⟩ := F.ex
  exact ⟨⟨oc, od, kV, doc, pm, an, .ref c, ct, osl, e, lk, hcd⟩, F.kp⟩
end
end LK
namespace Z
open PySem L2 LK PySem.W
section
variable {K : PySem.W.Frag} {τ : T} {μ μ1 μ2 : M} {H H1 H2 : Hp} {σ : L2.St} {Φ : D → M → Prop} {tl tb : TE}
def slotD (τ : T) (j : Nat) : Option D := match τ[j]? with
  | some o => o
  | none => none
/-- sorted by a key -/
def srtBy (key : D → D) (ds : List D) : List D := ds.mergeSort (dataLe false fun d => D.py (key d))
theorem tab_of {P : Addr} {q : Str} (c : Con K H μ) (h : μ P = some (.tab q)) : TabX H P q := c P _ h
theorem keep_con {P : Addr} {q : Str} (c : Con K H μ) (h : μ P = some (.tab q)) (k : KeepX P H H1) (t : TabX H1 P q) : Con K H1 μ ∧ Fr μ μ H H1 := by
  have ne : ∀ {a : Addr} {o : HO}, μ a = none → H a = some o → a ≠ P := fun e _ z => by rw [z, h] at e; cases e
  have f : Fr μ μ H H1 := fun a o n e => ⟨k a o (ne n e) e, n⟩
  refine ⟨fun a m e => ?_, f⟩
  by_cases ha : a = P
  · rw [ha, h] at e
    cases e
    rw [ha]
    exact t
  · have r := c a m e
    have e2 : H1 a = H a := by
      cases m <;> (obtain ⟨vs, h1, _⟩ := r; rw [h1]; exact k a _ ha h1)
    exact r.mono (f.tx c) e2
theorem slots_lam {N : List Str} {js : List Nat} {x : D} {v : V} (s : Slots K H τ σ) (r : Rel K H v x) : Slots K H (some x :: (js.map (slotD τ) ++ List.replicate (N.length - 1 - js.length) none)) (NdefX.startF N [v] (js.map (NdefX.slotAt σ))) := by
  unfold NdefX.startF
  refine ⟨by simp, fun i d e => ?_⟩
  cases i with
  | zero =>
    simp only [List.getElem?_cons_zero, Option.some.injEq] at e
    subst e
    exact ⟨v, rfl, r⟩
  | succ i =>
    rw [List.getElem?_cons_succ] at e
    show ∃ v', ((js.map (NdefX.slotAt σ) ++ List.replicate (N.length - [v].length - (js.map (NdefX.slotAt σ)).length) none))[i]? = some (some v') ∧ _
    by_cases hi : i < js.length
    · rw [List.getElem?_append_left (by rw [List.length_map]; exact hi), List.getElem?_map, List.getElem?_eq_getElem hi] at e
      rw [List.getElem?_append_left (by rw [List.length_map]; exact hi), List.getElem?_map, List.getElem?_eq_getElem hi]
      have e2 : slotD τ js[i] = some d := by simpa using e
      have e3 : τ[js[i]]? = some (some d) := by
        unfold slotD at e2
        split at e2
        · rename_i o ho
          rw [ho, e2]
        · cases e2
      obtain ⟨v', h1, h2⟩ := s.2 _ d e3
      exact ⟨v', by show some (NdefX.slotAt σ js[i]) = _; rw [NdefX.slotAt_of h1], h2⟩
    · rw [List.getElem?_append_right (by rw [List.length_map]; omega), List.getElem?_replicate] at e
      split at e <;> cases e
theorem rels_dp (key : D → D) : ∀ {ks : List V} {ds : List D}, Rels K H ks (ds.map key) → (∀ x ∈ ds, OkN 8 (key x)) → Paired (Dp K H) ks (ds.map fun x => D.py (key x))
  | [], [], .nil, _ => .nil
  | _ :: _, d :: ds, .cons a b, h => .cons (Rel.dp _ _ a (h d List.mem_cons_self).p) (rels_dp key b fun x hx => h x (List.mem_cons_of_mem _ hx))
/-- values sorted by what the data beside them give -/
theorem rels_srtBy (key : D → D) {vs : List V} {ds : List D} (r : Rels K H vs ds) : Rels K H (((vs.zip (ds.map fun x => D.py (key x))).mergeSort (dataLe false (·.2))).map (·.1)) (srtBy key ds) := by
  obtain ⟨z1, z2, z3⟩ := zip_rels r
  have e1 : vs.zip (ds.map fun x => D.py (key x)) = (vs.zip ds).map fun p => (p.1, D.py (key p.2)) := by
    rw [List.zip_map_right]
    rfl
  have m1 : (((vs.zip ds).map fun p => (p.1, D.py (key p.2))).mergeSort (dataLe false (·.2))).map (·.1) = ((vs.zip ds).mergeSort (dataLe false fun p => D.py (key p.2))).map (·.1) := by
    rw [← List.map_mergeSort (r := dataLe false fun p : V × D => D.py (key p.2)) (s := dataLe false (·.2)) (f := fun p => (p.1, D.py (key p.2))) (fun _ _ _ _ => rfl), List.map_map]
    rfl
  have m2 : srtBy key ds = ((vs.zip ds).mergeSort (dataLe false fun p => D.py (key p.2))).map (·.2) := by
    unfold srtBy
    rw [List.map_mergeSort (r := dataLe false fun p : V × D => D.py (key p.2)) (s := dataLe false fun d => D.py (key d)) (f := fun p : V × D => p.2) (fun _ _ _ _ => rfl), z2]
  rw [e1, m1, m2]
  exact rels_of_pairs fun p hp => z3 p ((List.mergeSort_perm _ _).mem_iff.mp hp)
theorem a_sortL {P : Addr} {q : Str} {mk : Addr → Addr → HO} {N : List Str} {js : List Nat} (hmk : ∀ f c', ∃ φ, mk f c' = .ext φ)
    (h : AE K tl τ μ fun d μ1 => ∃ (a : Addr) (ds : List D) (key : D → D), d = .ref a ∧ μ1 a = some (.lst ds) ∧ μ1 P = some (.tab q) ∧ (∀ x ∈ ds, OkN 8 (key x)) ∧ AllAlike (ds.map fun x => D.py (key x)) ∧ Sortable (ds.map fun x => D.py (key x)) ∧
      (∀ x ∈ ds, AE K tb (some x :: (js.map (slotD τ) ++ List.replicate (N.length - 1 - js.length) none)) μ1 fun k μ2 => k = key x ∧ μ2 = μ1) ∧ ∀ p, μ1 p = none → Φ (.ref p) (μ1.set p (.lst (srtBy key ds)))) :
    AE K (tSortL K P q mk N js tb tl) τ μ Φ := fun σ H s c Q k => by
  refine h σ H s c _ fun d μ1 v H1 f1 c1 r1 ⟨a, ds, key, e, ha, hP, hok, hal, hsk, ht, hq⟩ => ?_
  subst e
  cases r1
  refine ⟨tab_of c1 hP, fun f c' H2 kp tx hf hc => ?_⟩
  obtain ⟨c2, f2⟩ := keep_con c1 hP kp tx
  obtain ⟨vs, hv, hr⟩ := c2 a _ ha
  have nf : μ1 f = none := by
    cases e : μ1 f with
    | none => rfl
    | some m =>
      have r := c2 f m e
      obtain ⟨φ, eφ⟩ := hmk f c'
      rw [eφ] at hf
      cases m <;> (obtain ⟨vs, h, _⟩ := r; rw [hf] at h; cases h)
  have nc : μ1 c' = none := c2.cn hc
  refine ⟨a, f, c', vs, fun ks H3 => Fr μ1 μ1 H2 H3 ∧ Con K H3 μ1 ∧ Rels K H3 ks ((ds.take ks.length).map key) ∧ ks.length ≤ ds.length, ds.map fun x => D.py (key x), rfl, rfl, SqL.of hv, hf, hc, by rw [List.length_map, hr.length], hal, hsk, fun x hx => ?_, ⟨Fr.refl, c2, .nil, Nat.zero_le _⟩, fun ks H3 ⟨g, _⟩ => ⟨(g f _ nf hf).1, (g c' _ nc hc).1⟩, fun ks H3 v hv2 ⟨g, c3, rk, hk⟩ => ?_, fun ks H3 hl ⟨g, c3, rk, _⟩ => ?_⟩
  · obtain ⟨y, hy, rfl⟩ := List.mem_map.mp hx
    exact (hok y hy).d
  · have hr3 := Rels.mono (g.tx c2) _ _ hr
    obtain ⟨x, hx, rx⟩ := hr3.getV hv2
    refine ht x (List.mem_of_getElem? hx) _ H3 (slots_lam ((s.mono (f1.tx c)).mono ((f2.trans g).tx c1)) rx) c3 _ fun k1 μ2 u H4 f4 c4 r4 ⟨ek, em⟩ => ?_
    subst ek em
    have hlt := (List.getElem?_eq_some_iff.mp hx).1
    refine ⟨g.trans f4, c4, ?_, by rw [List.length_append]; simp only [List.length_cons, List.length_nil]; omega⟩
    have e1 : List.map key (List.take (ks ++ [u]).length ds) = List.map key (List.take ks.length ds) ++ [key x] := by
      rw [List.length_append, List.length_cons, List.length_nil, List.take_add_one, hx, List.map_append]
      rfl
    rw [e1]
    exact (Rels.mono (f4.tx c3) _ _ rk).append (.cons r4 .nil)
  · have hl2 : ks.length = ds.length := by rw [hl, hr.length]
    rw [hl2, List.take_length] at rk
    have f3 : Fr μ μ1 H H3 := (f1.trans f2).trans g
    exact ⟨rels_dp key rk hok, fun p hp => k _ _ _ _ (f3.trans (fr_put hp)) (con_put (m := .lst (srtBy key ds)) hp c3 ⟨_, upd_same, Rels.mono (tx_new hp) _ _ (rels_srtBy key (Rels.mono (g.tx c2) _ _ hr))⟩) (.ref p) (hq p (c3.free hp))⟩
end
end Z
namespace EK
open PySem PySem.Spec PyProof.Rows L2
section
variable {M : Model} {A : Around} {E : Value → Shared → Prop} {s : Shared} {env : Env}
theorem with_type {pos : Pos} {T : String} {args : List (Bool × Sem Value)} {keywords : List (Option Str × Sem Value)} {Q : Value → Shared → Prop} (hplain : args.any (·.1) = false) (hkw : keywords.any (·.1.isNone) = false)
    (h : wpAny M A (evalArgs (.type T) true args keywords) (fun a s₁ => wpAny M A (call (.type T) a.pos a.kw) Q E s₁) E s) : wpAny M A (callWith pos (.type T) [] args keywords) Q E s := by
  unfold callWith
  refine wpAny_bind (wpAny_holding (wpAny_mono h (fun a s1 h1 => wpAny_bind (wpAny_standAt ?_)) fun _ _ x => x))
  simp only [hplain, hkw, Bool.or_false]
  refine wpAny_bind (wpAny_pure ?_)
  exact wpAny_bind (wpAny_mono h1 (fun r s2 hr => wpAny_bind (wpAny_holding (wpAny_point (wpAny_pure hr)))) fun _ _ x => x)
end
/-- the tuple at a, each item in a new pair, counted from k -/
def IteT (K : PySem.W.Frag) (a : Addr) (k : Int) : It :=
  ⟨fun i H => ∃ (xs : List V) (x : V), SqT K H a xs ∧ xs[i]? = some x, fun i H v H' => ∃ T x, v = .ref T ∧ H T = none ∧ H' = upd H T (.tup [.int (k + (i : Nat)), x]) ∧ ∀ xs, SqT K H a xs → xs[i]? = some x, fun i H => ∃ xs : List V, SqT K H a xs ∧ xs.length ≤ i⟩
/-- the tuple, the record and the iterator are three objects -/
theorem three {h : Heap} {a e it : Addr} {xs : Array Value} {k : Int} {old : Value} {i : Nat} (tup : h.IsTuple a xs) (rec : IsEnum h e it k old) (src : h.IsTupleIter it a i) : e ≠ a ∧ a ≠ it := by
  obtain ⟨o, at_, cls, _⟩ := tup
  refine ⟨?_, ?_⟩
  · rintro rfl
    obtain rfl := Option.some.inj (Eq.trans at_.symm rec)
    injection cls with c
    exact absurd c (by decide)
  · rintro rfl
    obtain ⟨o', at', cls', _⟩ := src
    obtain rfl := Option.some.inj (at_.symm.trans at')
    injection cls.symm.trans cls' with c
    exact absurd c (by decide)
theorem turn_enumT {P : Program} {w : World} {K : PySem.W.Frag} {elts : List Expr} {kk : Nat} {tpos : Pos} (a e it : Addr) (k : Int) :
    Turn P w K (.Tuple elts kk tpos) (IteT K a k) [e, it] e (fun i h => (∃ old, IsEnum h e it (k + (i : Nat)) old) ∧ h.IsTupleIter it a i ∧ e ≠ it) where
  mem := List.mem_cons_self
  obj := by
    rintro i h ⟨⟨old, rec⟩, ⟨o, at_, _, data⟩, _⟩ b hb
    rcases List.mem_cons.mp hb with rfl | hb
    · exact ⟨_, rec, nofun⟩
    · obtain rfl := List.mem_singleton.mp hb
      exact ⟨o, at_, fun v c => nomatch data.symm.trans c⟩
  keep := by
    rintro i h h' ⟨⟨old, rec⟩, src, ne⟩ kept
    exact ⟨⟨old, kept e List.mem_cons_self _ rec⟩, src.at fun o q => kept it (List.mem_cons_of_mem _ List.mem_cons_self) o q, ne⟩
  item := by
    rintro X rfl rfl rfl calm i pins s σ H E I hid ⟨⟨old, rec⟩, src, ne⟩ ⟨xs, x, isT, hx⟩
    obtain ⟨ys, rel, tup, _⟩ := I.tuple isT
    obtain ⟨u, hu, ru⟩ := rel.get hx
    obtain ⟨ea, ai⟩ := three tup rec src
    have few : i < ys.length := (List.getElem?_eq_some_iff.mp hu).1
    have D := Draws.tuple (prog := X.prog) (w := X.w) (A := X.A.in1) (I.ok.hd calm) it a ai ys.toArray
    apply wpAny_pyNext_enum_itemC D rec ⟨src, tup⟩ (by simpa using few) ne (by simp [ne, ea])
    intro y g tk drawn out onward two _ kept
    obtain rfl : y = u := Option.some.inj (Eq.trans (by simpa using Eq.symm drawn) hu)
    refine ⟨_, rfl, wpAny_letOwnedTupleGo_enum (s := { s with heap := g, toks := tk + 1 }) out fun g2 rec2 but => ?_⟩
    have there : ∀ b ∈ [e, it], b < s.heap.objs.size := by
      intro b hb
      rcases List.mem_cons.mp hb with rfl | hb
      · exact Heap.lt_size rec
      · obtain rfl := List.mem_singleton.mp hb
        obtain ⟨_, at_, _⟩ := src
        exact Heap.lt_size at_
    have J := I.turnedNew (ch := [e, it]) (h' := g2) (t' := tk + 1) (ob := .tup [.int (k + (i : Nat)), x])
      (fun b o out z => by
        have b1 : b ≠ e := fun y => out (y ▸ List.mem_cons_self)
        have b2 : b ≠ it := fun y => out (y ▸ List.mem_cons_of_mem _ List.mem_cons_self)
        exact (but.2 b b1).trans (kept b o b1 b2 z)) hid (Nat.le_refl s.heap.objs.size)
      ⟨(by decide : 2 ≤ sizeLine), [.int (k + (i : Nat)) tk, y], .cons ⟨tk, rfl⟩ (.cons ru .nil), _, (but.2 _ (Nat.ne_of_gt (there e List.mem_cons_self))).trans two, rfl, _, rfl⟩
    refine ⟨.ref s.heap.objs.size, _, J, rfl, ⟨_, x, rfl, I.hok.fresh (Nat.le_refl _), rfl, ?_⟩, ⟨⟨y, ?_⟩, onward.1.at fun o q => (but.2 it ne.symm).trans q, ne⟩, ?_⟩
    · intro zs isZ
      rw [I.tuple_inj isZ isT]
      exact hx
    · rw [show k + ((i + 1 : Nat) : Int) = k + (i : Int) + 1 by omega]
      exact rec2
    · intro b hb
      exact (upd_ne (Nat.ne_of_lt (there b hb))).trans (hid b hb).1
  done := by
    rintro X rfl rfl rfl calm i pins s σ H E I hid ⟨⟨old, rec⟩, src, ne⟩ ⟨xs, isT, over⟩
    obtain ⟨ys, rel, tup, _⟩ := I.tuple isT
    have same := rel.length
    obtain ⟨_, ai⟩ := three tup rec src
    obtain ⟨h0, h1, _, h3, h4, h5⟩ := hid it (List.mem_cons_of_mem _ List.mem_cons_self)
    have isE : s.TypeIs (.ref e) "enumerate" := ⟨_, rec, rfl⟩
    have slot := F.slot_enumerate_next
    unfold pyNext
    apply wpAny_bind
    apply wpAny_attempt
    apply wpAny_callSpecial?_slot (name := Str.ofString "__next__") isE slot
    refine wpAny_call_entry slot isE F.entry_enumerate_next ?_ (F.args_enumerate_next_1 _)
    show wpAny _ _ (field (.ref e) 2 >>= _) _ _ _
    refine wpAny_bind (wpAny_field rec rfl (x := .ref it) rfl (wpAny_bind ?_))
    apply RZ.nextOf_tuple_end (A := X.A.in1) (I.ok.hd calm) src tup (by rw [List.getElem?_toArray]; exact List.getElem?_eq_none (by omega))
    rintro g stop kept ⟨o, at_, cls⟩
    refine wpAny_bind (wpAny_isInstance (T := "StopIteration") (b := true) ⟨o, at_, cls⟩ isSubtype_stop ?_)
    exact wpAny_pure ⟨rfl, I.turned (t' := s.toks) (fun b u nb z => kept b u nb z) h0 h1 h3 h4 h5⟩
  self := fun A i s Q E st h => let ⟨⟨_, he⟩, _⟩ := st; wpAny_pyIter_enum he h
def iEnumT (K : PySem.W.Frag) (te tk : TE) : TI := fun σ H R => tCons te tNil σ H fun xs H1 => tCons tk tNil σ H1 fun ys H2 => ∃ a vs k, xs = [.ref a] ∧ ys = [.int k] ∧ -(2 ^ 63) ≤ k ∧ k < 2 ^ 63 ∧ SqT K H2 a vs ∧ R (IteT K a k) H2
theorem pi_enumT {X : Cx} {K : PySem.W.Frag} {e ek : Expr} {te tk : TE} {p pos tpos kpos : Pos} {elts : List Expr} {kk : Nat} (hK : X.K = K) (hg : Gl X "enumerate") (hm : X.mg "enumerate" = none) (ha : PE X e te) (hk : PE X ek tk)
    (hs : starEach [e] X.env = (false, eval e X.env) :: starEach [] X.env := by rfl) (he : backTo pos (starEach [e] X.env) = (false, eval e X.env) :: backTo pos (starEach [] X.env) := by rfl) (hpl : (backTo pos (starEach [e] X.env)).any (·.1) = false := by rfl) :
    PI X (.Tuple elts kk tpos) (.Call (.Name "enumerate" p) [e] [⟨some "start", ek, kpos⟩] pos) (iEnumT K te tk) := by
  subst hK
  refine ⟨fun pins s σ H R I h => ?_⟩
  have pa : PA X [e] (tCons te tNil) := pa_cons ha pa_nil hs
  have pk : PK X [⟨some "start", ek, kpos⟩] (tCons tk tNil) := pk_cons hk pk_nil
  have body : wpAny (model X.prog X.w) X.A (eval (.Call (.Name "enumerate" p) [e] [⟨some "start", ek, kpos⟩] pos) X.env) (fun v s' => wpAny (model X.prog X.w) X.A (pyIter v) (PIE X pins σ (.Tuple elts kk tpos) R) X.xe s') X.xe s := by
    refine wpAny_Call_Name_kw (ld_blt I hg hm boot_enumerate ?_ (by decide) (by decide))
    refine with_type hpl (by rfl) ?_
    rw [he]
    refine evalArgs_kwB (by rfl) ?_
    rw [← he]
    refine thn (pa.run pos pins s σ H _ I h) fun us s1 ⟨xs, H1, I1, r1, q1⟩ => thn (pk.run pos pins s1 σ H1 _ I1 q1) fun ws s2 ⟨zs, H2, I2, r2, a, vs, k, e1, e2, k0, k1, hq, q⟩ => ?_
    subst e1 e2
    obtain ⟨its, rv, p', hz⟩ := I2.tuple hq
    have tp : s2.heap.IsTuple a its.toArray := p'
    rw [Vals.ref1 r1]
    obtain ⟨t, ew⟩ : ∃ t, ws = [.int k t] := by
      cases r2 with
      | cons r rr =>
        cases rr
        obtain ⟨t, e⟩ := r
        exact ⟨t, by rw [e]⟩
    rw [ew]
    show wpAny _ _ (call (.type "enumerate") [.ref a] [(Str.ofString "start", .int k t)]) _ _ s2
    refine enum_begins_start (begins_tuple a its.toArray) tp k0 k1 fun h' he2 hit hsz hkp => wpAny_pyIter_enum he2 ?_
    have I3 : Inv X pins σ H2 { s2 with heap := h' } := I2.kept (t' := s2.toks) hkp
    refine ⟨s2.heap.objs.size + 1, [s2.heap.objs.size + 1, s2.heap.objs.size], _, _, H2, rfl, I3, turn_enumT a (s2.heap.objs.size + 1) s2.heap.objs.size k, ⟨⟨.none, by simpa using he2⟩, ⟨_, hit, rfl, rfl⟩, Nat.succ_ne_self _⟩, fun b hb => ?_, q⟩
    have hle : s2.heap.objs.size ≤ b := by
      rcases (show b = s2.heap.objs.size + 1 ∨ b = s2.heap.objs.size by simpa using hb) with z | z
      · rw [z]; exact Nat.le_add_right _ _
      · rw [z]; exact Nat.le_refl _
    exact I2.fpOk hle (I2.hok.fresh hle)
  exact body
end EK
namespace Z
open PySem L2 EK
/-- pairs counted from k -/
def enumD (k : Int) : List D → List D
  | [] => []
  | x :: xs => .tup [.int k, x] :: enumD (k + 1) xs
theorem enumD_len : ∀ (k : Int) (xs : List D), (enumD k xs).length = xs.length
  | _, [] => rfl
  | k, x :: xs => by rw [enumD, List.length_cons, List.length_cons, enumD_len]
theorem enumD_get : ∀ {k : Int} {xs : List D} {i : Nat} {x : D}, xs[i]? = some x → (enumD k xs)[i]? = some (.tup [.int (k + (i : Nat)), x])
  | _, [], _, _, h => by simp at h
  | k, y :: xs, 0, x, h => by
    simp at h
    subst h
    simp [enumD]
  | k, y :: xs, i + 1, x, h => by
    have h2 := enumD_get (k := k + 1) (xs := xs) (i := i) (x := x) (by simpa using h)
    rw [enumD, List.getElem?_cons_succ, h2]
    have e : k + 1 + (i : Int) = k + ((i + 1 : Nat) : Int) := by omega
    rw [e]
section
variable {K : PySem.W.Frag} {τ : T} {μ μ1 μ2 : M} {H H1 H2 H' : Hp} {te tk : TE} {Ψ : List D → M → (M → M) → Prop}
theorem walk_E {a : Addr} {k : Int} {vs : List V} {ds : List D} (hr : Rels K H1 vs ds) : WalkD K (IteT K a k) (enumD k ds) (fun _ => False) (fun H' => TupAt K H' a vs ∧ Rels K H' vs ds) where
  keep := fun H H' μ μ' c _ g f => ⟨g.1.mono (f.tx c), Rels.mono (f.tx c) _ _ g.2⟩
  oo := fun _ _ _ h => h.elim
  go := fun i H' hi g => by
    rw [enumD_len, ← hr.length] at hi
    exact ⟨vs, vs[i], g.1.sq, List.getElem?_eq_getElem hi⟩
  stop := fun i H' hi g => by
    rw [enumD_len, ← hr.length] at hi
    exact ⟨vs, g.1.sq, hi⟩
  yld := fun i H' v H2 hi g y => by
    obtain ⟨T0, x, e, hT, e2, q1⟩ := y
    obtain ⟨d1, k1, r1⟩ := g.2.getV (q1 vs g.1.sq)
    refine ⟨_, enumD_get k1, ?_, .inr ⟨T0, _, hT, e2⟩⟩
    subst e e2
    exact .tup (.inl upd_same) (.cons (.int _) (.cons (Rel.mono (tx_new hT) _ _ r1) .nil))
theorem ai_E (h : AE K te τ μ fun d μ1 => AE K tk τ μ1 fun e μ2 => ∃ xs k, d = .tup xs ∧ e = .int k ∧ (-(2 ^ 63) ≤ k ∧ k < 2 ^ 63) ∧ Ψ (enumD k xs) μ2 id) : AI K (iEnumT K te tk) τ μ Ψ := fun σ H s c R kk => by
  refine h σ H s c _ fun d μ1 v H1 f1 c1 r1 p1 => p1 σ H1 (s.mono (f1.tx c)) c1 _ fun e μ2 u H2 f2 c2 r2 ⟨xs, k, e1, e2, ⟨k0, k1⟩, q⟩ => ?_
  subst e1 e2
  have r3 := Rel.mono (f2.tx c1) _ _ r1
  cases r2
  cases r3 with
  | @tup a us _ ha hr => exact ⟨a, us, k, rfl, rfl, k0, k1, ha.sq, kk _ _ _ _ H2 μ2 id ((f1.trans f2).tx c) c2 (walk_E hr) ⟨ha, hr⟩ (fun _ z => z.elim) (back_id (f1.trans f2)) q⟩
end
end Z
namespace OD
open PySem PySem.Spec PyProof.Rows L2 PySem.W
section
variable {X : Cx} {K : PySem.W.Frag}
theorem pe_revK {e : Expr} {te : TE} {k : Nat} {p1 p2 p3 pos : Pos} (h : X.K = K) (he : PE X e te) : PE X (.Subscript e (.Slice none none (some (.UnaryOp .USub (.Constant (.int 1) k p1) p2)) p3) pos) (tRevL K te) := by
  subst h
  exact pe_revL he
end
end OD
namespace Z
open PySem L2 OD PySem.W
section
variable {K : PySem.W.Frag} {τ : T} {μ μ1 μ2 : M} {H H1 H2 H' : Hp} {te tk : TE} {Φ : D → M → Prop} {Ψ : List D → M → (M → M) → Prop} {d e : D}
theorem a_revL (h : AE K te τ μ fun d μ1 => ∃ a ds, d = .ref a ∧ μ1 a = some (.lst ds) ∧ ∀ p, μ1 p = none → Φ (.ref p) (μ1.set p (.lst ds.reverse))) : AE K (tRevL K te) τ μ Φ := fun σ H s c Q k =>
  h σ H s c _ fun d μ1 v H1 f1 c1 r1 ⟨a, ds, e, ha, q⟩ => by
    subst e
    cases r1
    obtain ⟨vs, hv, hr⟩ := c1 a _ ha
    exact ⟨a, vs, rfl, SqL.of hv, fun p hp => k _ _ _ _ (f1.trans (fr_put hp)) (con_put (m := .lst ds.reverse) hp c1 ⟨_, upd_same, Rels.mono (tx_new hp) _ _ hr.reverse⟩) (.ref p) (q p (c1.free hp))⟩
/-- the ints a .. b - 1 -/
def rgD (a b : Int) : List D := (List.range (b - a).toNat).map fun (i : Nat) => D.int (a + i)
theorem rels_rg {a b : Int} : Rels K H (rgV a b) (rgD a b) := by
  unfold rgV rgD
  generalize (List.range (b - a).toNat) = l
  induction l with
  | nil => exact .nil
  | cons x l ih => exact .cons (.int _) ih
theorem a_listRg1 (h : AE K te τ μ fun d μ1 => ∃ n : Int, d = .int n ∧ 0 ≤ n ∧ n ≤ 16777216 ∧ ∀ p, μ1 p = none → Φ (.ref p) (μ1.set p (.lst (rgD 0 n)))) : AE K (tLstRg (tRg1 te)) τ μ Φ := fun σ H s c Q k =>
  h σ H s c _ fun d μ1 v H1 f1 c1 r1 ⟨n, e, n0, n1, q⟩ => by
    subst e
    cases r1
    exact ⟨n, rfl, RgOk.of_le (by decide) n1 (by decide) n0, fun p hp => k _ _ _ _ (f1.trans (fr_put hp)) (con_put (m := .lst (rgD 0 n)) hp c1 ⟨_, upd_same, rels_rg⟩) (.ref p) (q p (c1.free hp))⟩
end
abbrev t3 (a b c : Int) : D := .tup [.int a, .int b, .int c]
abbrev t12 (a b c : Int) : D := .tup [.int a, .tup [.int b, .int c]]
/-- p stands ahead of q -/
def lt3 (p q : Int × Int × Int) : Bool := decide (p.1 < q.1) || (decide (p.1 = q.1) && (decide (p.2.1 < q.2.1) || (decide (p.2.1 = q.2.1) && decide (p.2.2 < q.2.2))))
theorem dstep (x y : Int) (R : Bool) : (decide (x < y) || (!decide (y < x) && R)) = (decide (x < y) || (decide (x = y) && R)) := by
  rcases Int.lt_trichotomy x y with h | h | h
  · rw [decide_eq_true h]; rfl
  · subst h; simp
  · have h1 : ¬ x < y := by omega
    have h2 : ¬ x = y := by omega
    rw [decide_eq_true h, decide_eq_false h1, decide_eq_false h2]; rfl
theorem dsame (x : Int) (R : Bool) : (decide (x < x) || (!decide (x < x) && R)) = R := by simp
theorem lt_t3 (a b c a' b' c' : Int) : dataLt (D.py (t3 a b c)) (D.py (t3 a' b' c')) = lt3 (a, b, c) (a', b', c') := by
  unfold dataLt lt3
  simp only [D.py, D.pys, keyToks, keyToksAll, List.singleton_append, List.cons_append, List.nil_append]
  rw [PyProof.Rows.lex_cons, PyProof.Rows.lex_cons, PyProof.Rows.lex_cons, PyProof.Rows.lex_cons, PyProof.Rows.lex_cons, PyProof.Rows.lex_cons, PyProof.Rows.lex_cons]
  show (decide ((1 : Int) < 1) || (!decide ((1 : Int) < 1) && (decide (a < a') || (!decide (a' < a) && (decide ((1 : Int) < 1) || (!decide ((1 : Int) < 1) && (decide (b < b') || (!decide (b' < b) && (decide ((1 : Int) < 1) || (!decide ((1 : Int) < 1) && (decide (c < c') || (!decide (c' < c) && (decide ((0 : Int) < 0) || (!decide ((0 : Int) < 0) && false)))))))))))))) = _
  simp only [dsame]
  rw [dstep a, dstep b, dstep c]
  simp
theorem lt_t12 (a b c a' b' c' : Int) : dataLt (D.py (t12 a b c)) (D.py (t12 a' b' c')) = lt3 (a, b, c) (a', b', c') := by
  unfold dataLt lt3
  simp only [D.py, D.pys, keyToks, keyToksAll, List.singleton_append, List.cons_append, List.nil_append]
  rw [PyProof.Rows.lex_cons, PyProof.Rows.lex_cons, PyProof.Rows.lex_cons, PyProof.Rows.lex_cons, PyProof.Rows.lex_cons, PyProof.Rows.lex_cons, PyProof.Rows.lex_cons, PyProof.Rows.lex_cons, PyProof.Rows.lex_cons]
  show (decide ((1 : Int) < 1) || (!decide ((1 : Int) < 1) && (decide (a < a') || (!decide (a' < a) && (decide ((1 : Int) < 1) || (!decide ((1 : Int) < 1) && (decide ((1 : Int) < 1) || (!decide ((1 : Int) < 1) && (decide (b < b') || (!decide (b' < b) && (decide ((1 : Int) < 1) || (!decide ((1 : Int) < 1) && (decide (c < c') || (!decide (c' < c) && (decide ((0 : Int) < 0) || (!decide ((0 : Int) < 0) && (decide ((0 : Int) < 0) || (!decide ((0 : Int) < 0) && false)))))))))))))))))) = _
  simp only [dsame]
  rw [dstep a, dstep b, dstep c]
  simp
end Z
namespace Z
open PySem PySem.Spec PyProof.Rows L2 LK LamX
/-- a table of code objects stands at T -/
def P_lawT (q : Str) (T : Addr) : PT3 := fun ds μ Φ => ∃ ns : List Int, ds = [.rol (ns.map D.int)] ∧ ns.length ≤ 63 ∧ μ T = some (.tab q) ∧ ∀ μ', Φ (.bl true) μ'
theorem len_lawT {q : Str} {T : Addr} (ds : List D) (μ : M) (Φ : D → M → Prop) (h : P_lawT q T ds μ Φ) : ds.length = 1 := by
  obtain ⟨ns, rfl, _⟩ := h
  rfl
theorem law_startT {K : PySem.W.Frag} {H : Hp} {a T : Addr} {ns : List Int} {q : Str} (hl : ns.length ≤ 63) (hT : H T = some (.tbl #[])) (hr : RolAt K H a (ns.map V.int)) : spI K (P_lawT q T) [.ref a] H (fun v _ => v = .bl true) fun _ _ _ => False := by
  refine ⟨[.rol (ns.map D.int)], fun b => if b = T then some (.tab q) else none, fun d _ => d = .bl true, .cons (.rol hr (rels_map ns)) .nil, fun b m e => ?_, ⟨ns, rfl, hl, if_pos rfl, fun _ => rfl⟩, fun d μ' v H' f c r e => ?_⟩
  · have e : (if b = T then some (MO.tab q) else none) = some m := e
    by_cases hb : b = T
    · rw [if_pos hb] at e
      cases e
      rw [hb]
      exact ⟨#[], hT, trivial, fun pos cv h => by simp [codeAmong] at h⟩
    · rw [if_neg hb] at e
      cases e
  · subst e
    cases r
    rfl
/-- .. where a list of the store may be held still -/
def spF (sp : Sp) : Sp := fun vs H Q E => sp vs H Q E ∨ ∃ a xs, H a = some (.lst xs) ∧ ∀ o, sp vs (upd H a (.frz o (.lst xs))) Q E
theorem fn_freeze {P : Program} {w : World} {K : PySem.W.Frag} {mg : Str → Option Value} {base : Heap} {k : Nat} {f : Addr} {fd : FuncData} {ps : List Str} {sp : Sp} (F : FnOk P w K mg base CX0 k f fd ps sp) : FnOk P w K mg base CX0 k f fd ps (spF sp) := by
  refine ⟨fun vs H Q E h => ?_, fun A outer s H args us vs Q E hr e0 hb r h => ?_⟩
  · rcases h with h | ⟨a, xs, _, h⟩
    · exact F.len _ _ _ _ h
    · exact F.len _ _ _ _ (h { cls := .none, data := .plain })
  · rcases h with h | ⟨a, xs, ha, h⟩
    · exact F.run A outer s H args us vs Q E hr e0 hb r h
    · obtain ⟨hz, its, n, rv, ho⟩ := e0.hok a _ ha
      generalize hob : ({ cls := .type "list", data := .seq its.toArray n } : Obj) = ob at ho
      have ne : ∀ {b : Addr}, H b = none → b ≠ a := fun e z => by rw [z, ha] at e; cases e
      have no : ∀ {b : Addr} {u : HO}, H b = some u → (∀ ys, u ≠ .lst ys) → b ≠ a := fun e d z => by
        rw [z, ha] at e
        exact d _ (Option.some.inj e).symm
      have hok2 : HOk P w (upd H a (.frz ob (.lst xs))) s.heap := fun b u e => by
        by_cases hb : b = a
        · subst hb
          rw [upd_same] at e
          cases e
          exact ⟨ho, hz, its, n, rv, by rw [ho, ← hob]⟩
        · rw [upd_ne hb] at e
          exact (e0.hok b u e).stay (fun c v _ q => q) (fun d q => by rw [upd_ne (no q (fun ys z => by cases z))]; exact q) fun d ys q => by rw [upd_ne (no q (fun ys z => by cases z))]; exact q
      have e2 : Env0 P w K mg base A outer s (upd H a (.frz ob (.lst xs))) := ⟨e0.frames, e0.mod, fun b o e => ⟨(e0.bs b o e).1, by rw [upd_ne (ne (e0.bs b o e).2)]; exact (e0.bs b o e).2⟩, e0.bsz, e0.funs, fun b hb => by rw [upd_ne (ne (e0.frf b hb))]; exact e0.frf b hb, hok2, e0.bare⟩
      refine codeAny_mono (F.run A outer s _ args us vs Q E hr e2 hb r (h ob)) fun res s' hq => ?_
      cases res with
      | error e => exact hq
      | ok fl =>
        cases fl with
        | next => exact hq
        | brk => exact hq
        | cont => exact hq
        | ret u =>
          obtain ⟨v, H', os, bare, un, hok, rv, q⟩ := (show CE outer P w _ s Q u s' from hq)
          refine ⟨v, H', os, bare, ⟨fun b o e n => un.keep b o e (by rw [upd_ne (ne n)]; exact n), fun b o e n => un.slot b o e (by rw [upd_ne (ne n)]; exact n), fun b o e n => un.free b o e (by rw [upd_ne (ne n)]; exact n), un.there,
            fun b ys e => un.tups b ys (by rw [upd_ne (no e (fun ys z => by cases z))]; exact e), fun b o u e => un.frzs b o u (by rw [upd_ne (no e (fun ys z => by cases z))]; exact e), fun b ps e => un.tbls b ps (by rw [upd_ne (no e (fun ys z => by cases z))]; exact e)⟩, hok, rv, q⟩
/-- what is to be shown at the head -/
def LawTab (l : PySem.W.OpenLaw) (w : World) (K : PySem.W.Frag) (k : Nat) (x q : Str) (mg : Str → Option Value) (fa : Addr) (h : Heap) : Prop :=
  ∃ (fd : FuncData) (c T : Addr), h.get? T = some { cls := .none, data := .fields #[] } ∧ K.lookup T = none ∧ PySem.W.CodeHd h c T ∧ (∀ (s : Shared) (u : Value), BindsTo s fd ⟨[u], []⟩ [(x, u)]) ∧
    ∀ base : Heap, K.In base → base.Ns mainGlobals mg → TabB base mg c T → FnOk l.prog w K mg base CX0 k fa fd [x] (spI K (P_lawT q T))
theorem walk_tab {l : PySem.W.OpenLaw} {k : Nat} {p : Program} {loose : List Str} {XP : (Str → Option Value) → Heap → Prop} {YP : World → Heap → Prop} {d : DefRec} {K : Params → PySem.W.Frag} {x q : Str}
    (hn : l.most = some 63) (hdf : d.params.defaults = []) (hr : Room k callerA) (hY : ∀ (w : World) (h : Heap), YP w h → (K w.params).In h)
    (F : ∀ (w : World) (mg : Str → Option Value) (fa : Addr) (h : Heap), YP w h → (K w.params).In h → h.Ns mainGlobals mg → mg d.name = some (.ref fa) → LawTab l w (K w.params) k x q mg fa h) :
    PySem.W.WalkO p loose XP YP l.row.toRowW d [] (fun f vs => PySem.call f vs) := by
  refine LamX.walk_ofTs (n := 63) (k := k) (x := x) (CX := fun _ => CX0) hn (by decide) hdf hr hY (fun w mg fa h Y KX G hmg => ?_) fun _ _ _ _ _ z => z
  obtain ⟨fd, c, T, hT, nT, C, hb, hF⟩ := F w mg fa h Y KX G hmg
  refine ⟨fd, [(c, T)], spF (spI (K w.params) (P_lawT q T)), fun p hp => ?_, fun p hp => ?_, fun p hp => ?_, hb, fun H a ns hl _ hH hS => ?_, fun base X G hB => fn_freeze (hF base X G (hB (c, T) List.mem_cons_self))⟩
  · rw [List.mem_singleton.mp hp]; exact hT
  · rw [List.mem_singleton.mp hp]; exact nT
  · rw [List.mem_singleton.mp hp]; exact C
  · have hT2 := hH (c, T) List.mem_cons_self
    have aT : ∀ xs : List V, H a = some (.lst xs) → T ≠ a := fun xs e z => by
      have hT3 : H T = some (.tbl #[]) := hT2
      rw [z, e] at hT3
      cases hT3
    rcases hS with (h1 | ⟨o, h1⟩) | h1
    · exact .inr ⟨a, _, h1, fun o => law_startT hl (by rw [upd_ne (aT _ h1)]; exact hT2) (.inl ⟨o, upd_same⟩)⟩
    · exact .inl (law_startT hl hT2 (.inl ⟨o, h1⟩))
    · exact .inl (law_startT hl hT2 (.inr h1))
/-- where a code object's table lies -/
def codeTab (K : PySem.W.Frag) (c : Addr) : Option Addr := match K.lookup c with
  | some ⟨_, _, .fields vs, _⟩ => (match (vs[11]? : Option Value) with
    | some (.ref P) => some P
    | _ => none)
  | _ => none
end Z
namespace Z
open PySem L2
section
variable {K : PySem.W.Frag} {τ : T} {μ μ1 μ2 : M} {Φ : D → M → Prop} {te : TE} {tt tt1 : TT} {wi wi1 : TI} {g g1 : TG}
theorem a_methI {P : PT3} {E : XK} {C : Addr} {m : Str} {ta : TA} (h : AE K te τ μ fun o μ1 => ∃ a dx fs, o = .ref a ∧ μ1 a = some (.ins C dx fs) ∧ fs.lookup m = none ∧ AA K ta τ μ1 fun ds μ2 => P (o :: ds) μ2 Φ) :
    AE K (tMeth C m (spI K P) [] E te ta) τ μ Φ := fun σ H s c Q k =>
  h σ H s c _ fun o μ1 v H1 f1 c1 r1 ⟨a, dx, fs, e, ha, hm, p1⟩ => by
    subst e
    cases r1
    obtain ⟨vs, hv, hr⟩ := c1 a _ ha
    refine ⟨a, dx, vs, rfl, hv, look_none hr hm, p1 σ H1 (s.mono (f1.tx c)) c1 _ fun ds μ2 us H2 f2 c2 r2 p => ?_⟩
    rw [List.append_nil]
    exact ⟨.ref a :: ds, μ2, Φ, .cons (.ref a) r2, c2, p, fun d μ' v H' f c' r q => k d μ' v H' ((f1.trans f2).trans f) c' r q⟩
theorem a_lcp {js : List Nat} {dec : D → List D → Prop} (hg : TgOk K g js dec) (f : D → D) (p : D → Bool)
    (h : AI K wi τ μ fun xs μw back => xs.length < sizeLine ∧ (∀ x ∈ xs, ∃ ds, dec x ds ∧ ds.length = js.length ∧ AT K tt (sets τ js ds) μw (fun b μ2 => b = p x ∧ μ2 = μw) ∧ (p x = true → AE K te (sets τ js ds) μw fun y μ2 => y = f x ∧ μ2 = μw)) ∧
      ∀ q, back μw q = none → Φ (.ref q) ((back μw).set q (.lst ((xs.filter p).map f)))) : AE K (tLc wi g tt te js) τ μ Φ :=
  a_lc hg (fun σ H s c R k => h σ H s c R fun J xs out G H1 μw back tx c1 W g1 o1 B ⟨hz, ht, he⟩ => k J xs out G H1 μw back tx c1 W g1 o1 B (by
    refine ⟨fun i acc μ' => μ' = μw ∧ acc = ((xs.take i).filter p).map f, ⟨rfl, rfl⟩, ?_, ?_⟩
    · rintro i x acc μ' hx ⟨rfl, rfl⟩
      obtain ⟨ds, hd, hl, h1, h2⟩ := ht x (List.mem_of_getElem? hx)
      refine ⟨ds, hd, hl, h1.imp fun b μ2 ⟨e1, e2⟩ => ?_⟩
      subst e2
      dsimp only
      rw [filt_step (f := f) hx]
      cases b with
      | true =>
        rw [if_pos rfl]
        refine (h2 e1.symm).imp fun y μ' ⟨e3, e4⟩ => ?_
        subst e4
        refine ⟨?_, rfl, ?_⟩
        · rw [List.length_map]
          have l1 := List.length_filter_le p (xs.take i)
          have l2 : (xs.take i).length ≤ xs.length := by rw [List.length_take]; omega
          omega
        · rw [if_pos e1.symm, List.map_append, e3]
          rfl
      | false =>
        rw [if_neg Bool.false_ne_true]
        refine ⟨rfl, ?_⟩
        rw [if_neg (by rw [← e1]; exact Bool.false_ne_true), List.append_nil]
    · rintro acc μ' ⟨rfl, rfl⟩ a ha
      rw [List.take_length]
      exact he a ha))
theorem flat_len {α β : Type} {F : α → List β} {xs : List α} {i : Nat} {x : α} (h : xs[i]? = some x) : ((xs.take i).flatMap F).length + (F x).length ≤ (xs.flatMap F).length := by
  have e : xs = xs.take i ++ x :: xs.drop (i + 1) := by
    obtain ⟨hl, e1⟩ := List.getElem?_eq_some_iff.mp h
    rw [← e1, List.getElem_cons_drop, List.take_append_drop]
  conv => rhs; rw [e]
  rw [List.flatMap_append, List.flatMap_cons, List.length_append, List.length_append]
  omega
theorem a_lc2p {js js1 vs : List Nat} {dec dec1 : D → List D → Prop} (hg : TgOk K g js dec) (hg1 : TgOk K g1 js1 dec1) (hv : ∀ j, j ∈ vs → ∀ d, τ[j]? ≠ some (some d)) (hjs : ∀ j ∈ js, j ∈ vs) (ysOf : D → List D) (f : D → D → D) (p : D → D → Bool)
    (h : AI K wi τ μ fun xs μw back => (xs.flatMap fun x => ((ysOf x).filter (p x)).map (f x)).length < sizeLine ∧
      (∀ x ∈ xs, ∃ xd, dec x xd ∧ xd.length = js.length ∧ AT K tt (sets τ js xd) μw (fun b μ2 => b = true ∧ μ2 = μw) ∧ (∀ Dl acc, μw Dl = none → AI K wi1 (sets τ js xd) (μw.set Dl (.lst acc)) fun ys μw1 back1 => ys = ysOf x ∧ μw1 = μw.set Dl (.lst acc) ∧ back1 = id) ∧
        ∀ y ∈ ysOf x, ∃ yd, dec1 y yd ∧ yd.length = js1.length ∧ AT K tt1 (sets (sets τ js xd) js1 yd) μw (fun b μ2 => b = p x y ∧ μ2 = μw) ∧ (p x y = true → AE K te (sets (sets τ js xd) js1 yd) μw fun v μ2 => v = f x y ∧ μ2 = μw)) ∧
      ∀ q, back μw q = none → Φ (.ref q) ((back μw).set q (.lst (xs.flatMap fun x => ((ysOf x).filter (p x)).map (f x))))) : AE K (tLc2 wi g tt wi1 g1 tt1 te vs js1) τ μ Φ :=
  a_lc2 hg hg1 hv hjs (fun σ H s c R k => h σ H s c R fun J xs out G H1 μw back tx c1 W g1 o1 B ⟨hz, ht, he⟩ => k J xs out G H1 μw back tx c1 W g1 o1 B (by
    refine ⟨fun i acc μ' => μ' = μw ∧ acc = (xs.take i).flatMap fun x => ((ysOf x).filter (p x)).map (f x), ⟨rfl, rfl⟩, ?_, ?_⟩
    · rintro i x acc μ' hx ⟨rfl, rfl⟩
      obtain ⟨xd, hd, hl, h1, hi, h2⟩ := ht x (List.mem_of_getElem? hx)
      refine ⟨xd, hd, hl, h1.imp fun b μ2 ⟨e1, e2⟩ => ?_⟩
      subst e1 e2
      rw [if_pos rfl]
      intro Dl hD
      have hz1 := flat_len (F := fun x => ((ysOf x).filter (p x)).map (f x)) hx
      refine (fun σ H s c R k => hi Dl _ hD σ H s c R fun J ys out G H1 μw back tx c1 W g1 o1 B ⟨e1, e2, e3⟩ => k J ys out G H1 μw back tx c1 W g1 o1 B ?_)
      subst e1 e2 e3
      refine ⟨μ2, fun j acc μ' => μ' = μ2 ∧ acc = ((xs.take i).flatMap fun x => ((ysOf x).filter (p x)).map (f x)) ++ (((ysOf x).take j).filter (p x)).map (f x), rfl, hD, ⟨rfl, by simp⟩, ?_, ?_⟩
      · rintro j y acc μ' hy ⟨rfl, rfl⟩
        obtain ⟨yd, kd, kl, k1, k2⟩ := h2 y (List.mem_of_getElem? hy)
        refine ⟨yd, kd, kl, k1.imp fun b μ3 ⟨e1, e2⟩ => ?_⟩
        subst e2
        dsimp only
        rw [filt_step (f := f x) hy]
        cases b with
        | true =>
          rw [if_pos rfl]
          refine (k2 e1.symm).imp fun v μ4 ⟨e3, e4⟩ => ?_
          subst e4
          refine ⟨?_, rfl, ?_⟩
          · have l1 : (((ysOf x).take j).filter (p x)).length ≤ ((ysOf x).filter (p x)).length := ((List.take_sublist j (ysOf x)).filter (p x)).length_le
            rw [List.length_append, List.length_map]
            rw [List.length_map] at hz1
            omega
          · rw [if_pos e1.symm, List.map_append, e3, List.append_assoc]
            rfl
        | false =>
          rw [if_neg Bool.false_ne_true]
          refine ⟨rfl, ?_⟩
          rw [if_neg (by rw [← e1]; exact Bool.false_ne_true), List.append_nil]
      · rintro acc' μ' ⟨rfl, rfl⟩ hD2
        refine ⟨μ', rfl, hD2, rfl, ?_⟩
        rw [List.take_length, List.take_add_one, hx, List.flatMap_append]
        simp
    · rintro acc μ' ⟨rfl, rfl⟩ a ha
      rw [List.take_length]
      exact he a ha))
theorem eqv_lists (ds es : List D) : PyData.eqv (.list (D.pys ds)) (.list (D.pys es)) = D.eqv (.tup ds) (.tup es) := by
  unfold D.eqv
  simp only [D.py, PyData.eqv]
theorem okn_list {n : Nat} {ds : List D} (ok : ∀ x ∈ ds, OkN n x) (hn : n < 64) : SeqAt.shaped (.list (D.pys ds)) = true := by
  obtain ⟨h1, h2, h3⟩ := okn_all ok
  unfold SeqAt.shaped
  simp only [PyData.canLay0, PyData.depth, h2, Bool.true_and]
  exact decide_eq_true (by omega)
theorem ro_eqL {a b : Addr} {n : Nat} {ds es : List D} (h1 : μ a = some (.lst ds)) (h2 : μ b = some (.lst es)) (ok1 : ∀ x ∈ ds, OkN n x) (ok2 : ∀ x ∈ es, OkN n x) (hn : n < 64) (q : Φ (.bl (D.eqv (.tup ds) (.tup es))) μ) : RO K (rEqD K) (.ref a) (.ref b) μ Φ := fun H x y c r1 r2 Q k => by
  cases r1; cases r2
  obtain ⟨vs, hv, hr⟩ := c _ _ h1
  obtain ⟨ws, hw, hs⟩ := c _ _ h2
  refine ⟨_, _, .lst (SqL.of hv) (Rels.dp _ _ hr (okn_all ok1).1), .lst (SqL.of hw) (Rels.dp _ _ hs (okn_all ok2).1), okn_list ok1 hn, okn_list ok2 hn, ?_⟩
  rw [eqv_lists]
  exact k _ μ _ H Fr.refl c (.bl _) q
theorem s_forK {N : AEnds} {tl : TE} {tb : TS} (h : AE K tl τ μ fun d μ1 => ∃ (a : Addr) (ds : List D) (P : Nat → T → M → Prop), d = .ref a ∧ P 0 τ μ1 ∧ (∀ i τ' μ', P i τ' μ' → μ' a = some (.lst ds)) ∧
      (∀ (i : Nat) x τ' μ', ds[i]? = some x → P i τ' μ' → AG K g x τ' μ' fun τ2 μ2 => AS K tb τ2 μ2 (turnE N (P (i + 1)))) ∧ ∀ τ' μ', P ds.length τ' μ' → N.nx τ' μ') : AS K (tFor (iList K tl) g tb) τ μ N := fun σ H s c E k => by
  refine h σ H s c _ fun d μ1 v H1 f1 c1 r1 ⟨a, ds, P, e, p0, hk, hs, hd⟩ => ?_
  subst e
  cases r1
  have seq : ∀ {i : Nat} {τ' : T} {μ' : M} {H' : Hp}, Z.Con K H' μ' → P i τ' μ' → ∃ vs, H' a = some (.lst vs) ∧ Rels K H' vs ds := fun c' p => c' a _ (hk _ _ _ p)
  obtain ⟨vs0, hv0, _⟩ := seq c1 p0
  refine ⟨a, rfl, ⟨vs0, SqL.of hv0⟩, ?_⟩
  refine ⟨fun i m σ' H' => m = ds.length - i ∧ i ≤ ds.length ∧ ∃ τ' μ', Fr μ μ' H H' ∧ Z.Con K H' μ' ∧ Slots K H' τ' σ' ∧ P i τ' μ', ⟨ds.length, by omega, Nat.zero_le _, τ, μ1, f1, c1, s.mono (f1.tx c), p0⟩, ?_⟩
  rintro i m σ' H' ⟨rfl, hi, τ', μ', f, c', s', p⟩
  obtain ⟨vs, hv, hr⟩ := seq c' p
  by_cases hlt : i < ds.length
  · have hlv : i < vs.length := by rw [hr.length]; exact hlt
    refine .inr ⟨⟨vs, vs[i], SqL.of hv, List.getElem?_eq_getElem hlv⟩, fun σ2 H2 => ∃ τ2 μ2, Fr μ μ2 H H2 ∧ Z.Con K H2 μ2 ∧ Slots K H2 τ2 σ2 ∧ P (i + 1) τ2 μ2, fun σ2 H2 ⟨τ2, μ2, f2, c2, s2, p2⟩ => ⟨ds.length - (i + 1), by omega, rfl, hlt, τ2, μ2, f2, c2, s2, p2⟩, fun v H2 y => ?_⟩
    obtain ⟨e, q⟩ := y
    subst e
    obtain ⟨x, hx, rx⟩ := hr.getV (q vs (SqL.of hv))
    refine hs i x τ' μ' hx p σ' _ v s' c' rx _ fun τ3 μ3 σ3 H3 f3 c3 s3 q3 => ?_
    exact q3 σ3 H3 s3 c3 _ (turn_ok (k.step f) f3 fun τ4 μ4 σ4 H4 f4 c4 s4 p4 => ⟨τ4, μ4, f.trans f4, c4, s4, p4⟩)
  · have e : i = ds.length := by omega
    subst e
    exact .inl ⟨⟨vs, SqL.of hv, by rw [hr.length]; exact Nat.le_refl _⟩, k.nx τ' μ' σ' H' f c' s' (hd τ' μ' p)⟩
end
end Z
namespace L2
namespace DCT
open PySem PySem.Spec PyProof.Rows
/-- what holds of each block that a comprehension may open -/
abbrev EachBlk (X : Cx) (scope : Scope) (P : Cx → Prop) : Prop :=
  ∀ (z : Shared) (G : Hp) (C : Addr) (cl : List (Str × Addr)) (fp : List Addr), P (X.blk z G scope (compEnvC scope cl C X.env) fp)
/-- a store of a pair in a dict keyed by tuples, its key at b -/
theorem put_pair {X : Cx} {pins : List (Addr × Obj)} {σ : St} {G : Hp} {z : Shared} {E : Value → Shared → Prop} {D b : Addr} {ps : List (List Key × V)} {ks : List Key} {y : V} {u : Value} {Q : Unit → Shared → Prop} (room : X.A.units < cLine) (I : Inv X pins σ G z)
    (at_ : G D = some (.dT ps)) (key : G b = some (.tup (ks.map kV))) (few : ps.length < sizeLine) (ry : RelV y u) (q : ∀ z', Inv X pins σ (upd G D (.dT (putK ps ks y))) z' → Q () z') : wpAny (model X.prog X.w) X.A (dictSet D (.ref b) u) Q E z := by
  obtain ⟨_, noSys, as, kt, laid⟩ := dt_of I.hok at_
  apply wpAny_dictSet_heap room (key_of I.hok key) laid (hsz := by rw [← Paired.length kt]; exact Nat.le_of_lt few)
  intro g new but
  apply q
  have other : ∀ c ks', G c = some (.tup ks') → upd G D (.dT (putK ps ks y)) c = some (.tup ks') := fun c ks' e => by
    rw [upd_ne fun h => by rw [h, at_] at e; cases e]
    exact e
  obtain ⟨o, es, ep, ho, parts⟩ := new
  exact d_write I (at_ ▸ True.intro) but ⟨o, ho⟩ ⟨Nat.le_trans (length_putK ps ks y) few, noSys, _, (kt.put ks key ry).keeps fun c ks' e => other c ks' e, o, es, ep, ho, parts.1, parts.2.1, parts.2.2.1, parts.2.2.2.2⟩
section
variable {Y : Cx} {tg : Expr} {ifs : List Expr} {J : It} {fp : List Addr} {it : Addr} {tn : Nat → Heap → Prop} {τ : St} {i : Nat} {G : Hp} {z : Shared}
/-- a block between two turns: the source stands at place i, and none of its objects is tracked -/
structure Rest (Y : Cx) (fp : List Addr) (tn : Nat → Heap → Prop) (τ : St) (i : Nat) (G : Hp) (z : Shared) : Prop where
  inv : Inv Y [] τ G z
  src : tn i z.heap
  hid : ∀ b ∈ fp, G b = none
/-- a block of a source's own objects, nothing pinned in it, nothing let out -/
structure Plain (Y : Cx) (fp : List Addr) : Prop where
  ex : Y.ex = fp
  pn : Y.pn = []
  xe : Y.xe = fun _ _ => False
  calm : Y.calm = true
theorem hidden {σ : St} (y : Plain Y fp) (I : Inv Y [] σ G z) (h : ∀ b ∈ fp, G b = none) : ∀ b ∈ fp, FpOk Y [] G b := by
  intro b hb
  have mine : b ∈ Y.ex := y.ex.symm ▸ hb
  have apart := I.ok.exf b mine
  exact ⟨h b hb, apart.1, I.ok.exfs b mine, .inl mine, apart.2, by rw [y.pn]; exact fun _ no => nomatch no⟩
/-- what a turn leaves is at rest again, one place on -/
theorem again {σ : St} {vs : List Nat} {h0 : Heap} (T : Turn Y.prog Y.w Y.K tg J fp it tn) (t : tn i h0) (w : wipe σ vs = τ) (I : Inv Y ([] ++ pinsAt fp h0) σ G z) : Rest Y fp tn τ i G z := by
  have same : ∀ b ∈ fp, ∀ o, h0.get? b = some o → z.heap.get? b = some o ∧ G b = none := by
    intro b hb o e
    have pin := I.pin (b, o) (by simp [mem_pinsAt hb e])
    exact ⟨pin.1, pin.2.1⟩
  subst w
  refine ⟨Inv.weak (Inv.unpinned I) (wipe_length σ vs) fun j v e => (wipe_some e).1, T.keep i h0 z.heap t fun b hb o e => (same b hb o e).1, ?_⟩
  intro b hb
  obtain ⟨o, e, _⟩ := T.obj i h0 t b hb
  exact (same b hb o e).2
/-- one turn, up to what the tests say -/
theorem turn {g : TG} {tt : TT} {vs : List Nat} {Φ : Bool → St → Hp → Prop} {W : Bool → Shared → Prop} {N : Shared → Prop} {E : Value → Shared → Prop} (y : Plain Y fp) (T : Turn Y.prog Y.w Y.K tg J fp it tn) (pg : PG Y tg g) (pt : PTs Y ifs tt)
    (R : Rest Y fp tn τ i G z) (go : J.go i G) (step : ∀ x G', J.yld i G x G' → g x τ G' fun σ2 G2 => wipe σ2 vs = τ ∧ tt σ2 G2 fun b G3 => Φ b σ2 G3)
    (rest : ∀ b pl σ2 G3 z3, Inv Y pl σ2 G3 z3 → Φ b σ2 G3 → (∀ G4 z4, Inv Y pl σ2 G4 z4 → Rest Y fp tn τ (i + 1) G4 z4) → W b z3) :
    wpAny (model Y.prog Y.w) Y.A (pyNext (.ref it)) (fun r s1 => match r with
      | none => N s1
      | some v => wpAny (model Y.prog Y.w) Y.A (letOwnedTupleGo tg (.ref it) v) (fun _ s2 => wpAny (model Y.prog Y.w) Y.A (assign tg Y.env v) (fun _ s3 =>
          wpAny (model Y.prog Y.w) Y.A (forIn ifs true fun c r => if r = true then do let ok ← isTrue c Y.env (eval c Y.env); pure (ForInStep.yield ok) else pure (ForInStep.yield r)) W E s3) E s2) E s1) E z := by
  have none_out : ∀ {α : Type} {m : Sem α} {A B : α → Shared → Prop} {s}, wpAny (model Y.prog Y.w) Y.A m A Y.xe s → (∀ a s, A a s → B a s) → wpAny (model Y.prog Y.w) Y.A m B E s := by
    intro α m A B s h k
    rw [y.xe] at h
    exact thnF h k
  apply thnF (T.item Y rfl rfl rfl y.calm i [] z τ G (fun _ _ => False) R.inv (hidden y R.inv R.hid) R.src go)
  rintro _ s1 ⟨u, rfl, more⟩
  apply thnF more
  rintro _ s2 ⟨x, G2, I2, ru, yld, src, hid⟩
  have P2 := I2.pinned (hidden y I2 hid) fun b hb => T.obj (i + 1) s2.heap src b hb
  apply none_out (pg.run _ s2 τ G2 x u _ P2 ru (step x G2 yld))
  rintro _ s3 ⟨σ3, G3, I3, w3, h3⟩
  apply none_out (pt.run _ s3 σ3 G3 _ I3 h3)
  rintro b s4 ⟨G4, I4, h4⟩
  exact rest b _ σ3 G4 s4 I4 h4 fun G5 z5 I5 => again T src w3 I5
end
section
variable {X : Cx} {pins : List (Addr × Obj)} {σ : St} {H : Hp} {s : Shared} {kx vx tg iter : Expr} {ifs : List Expr} {scope : Scope} {own : List (Str × Nat)} {pos : Pos} {wi : TI} {g : TG} {tt : TT} {tk tv : TE}
/-- what such a comprehension asks: W holds ahead of each of n turns, the dict at D -/
def tDcT (wi : TI) (g : TG) (tt : TT) (tk tv : TE) (vs : List Nat) : TE := fun σ H Q => wi σ H fun J H1 => ∀ D, H1 D = none → ∃ (n : Nat) (W : Nat → Hp → Prop), W 0 (upd H1 D (.dT [])) ∧ ∀ i G, i ≤ n → W i G →
  (i = n → J.stop i G ∧ Q (.ref D) G) ∧
  (i < n → J.go i G ∧ ∀ x G1, J.yld i G x G1 → g x (wipe σ vs) G1 fun σ2 G2 => wipe σ2 vs = wipe σ vs ∧ tt σ2 G2 fun b G3 =>
    if b = true then tk σ2 G3 fun y G4 => tv σ2 G4 fun z G5 => ∃ ps ks c, y = .ref c ∧ G5 c = some (.tup (ks.map kV)) ∧ G5 D = some (.dT ps) ∧ ps.length < sizeLine ∧ W (i + 1) (upd G5 D (.dT (putK ps ks z)))
    else W (i + 1) G3)
/-- the loop of the block gives the dict out -/
theorem turns {Y : Cx} {fp : List Addr} {it D : Addr} {tn : Nat → Heap → Prop} {τ : St} {J : It} {vs : List Nat} {n : Nat} {W : Nat → Hp → Prop} {R : Result → Shared → Prop} {Qd : Hp → Prop} (room : Y.A.units < cLine) (y : Plain Y fp) (T : Turn Y.prog Y.w Y.K tg J fp it tn)
    (pg : PG Y tg g) (pt : PTs Y ifs tt) (pk : PE Y kx tk) (pv : PE Y vx tv)
    (each : ∀ i G, i ≤ n → W i G → (i = n → J.stop i G ∧ Qd G) ∧ (i < n → J.go i G ∧ ∀ x G1, J.yld i G x G1 → g x τ G1 fun σ2 G2 => wipe σ2 vs = τ ∧ tt σ2 G2 fun b G3 =>
      if b = true then tk σ2 G3 fun y G4 => tv σ2 G4 fun z G5 => ∃ ps ks c, y = .ref c ∧ G5 c = some (.tup (ks.map kV)) ∧ G5 D = some (.dT ps) ∧ ps.length < sizeLine ∧ W (i + 1) (upd G5 D (.dT (putK ps ks z)))
      else W (i + 1) G3))
    (out : ∀ G z, Inv Y [] τ G z → Qd G → R (.ok .next) z) {G : Hp} {z : Shared} (w0 : W 0 G) (r0 : Rest Y fp tn τ 0 G z) :
    codeAny (model Y.prog Y.w) Y.A (.compLoop (.DictComp kx vx [⟨tg, iter, ifs, 0⟩] scope pos) 0 (.ref it) (.ref D) Y.env) R z := by
  have none_out : ∀ {α : Type} {m : Sem α} {A B : α → Shared → Prop} {E : Value → Shared → Prop} {s}, wpAny (model Y.prog Y.w) Y.A m A Y.xe s → (∀ a s, A a s → B a s) → wpAny (model Y.prog Y.w) Y.A m B E s := by
    intro α m A B E s h k
    rw [y.xe] at h
    exact thnF h k
  apply compLoop_anyD (I := fun m z => ∃ i G, m + i = n ∧ W i G ∧ Rest Y fp tn τ i G z) (n := n) (h := ⟨0, G, rfl, w0, r0⟩)
  rintro m z ⟨i, G, sum, w, rest⟩
  obtain ⟨stop, go⟩ := each i G (by omega) w
  rcases Nat.lt_or_ge i n with lt | ge
  · obtain ⟨go, step⟩ := go lt
    apply turn (N := fun s1 => R (.ok .next) s1) y T pg pt rest go step
    intro b pl σ2 G3 z3 I3 q back
    have next : ∀ G4 z4, Inv Y pl σ2 G4 z4 → W (i + 1) G4 → ∃ m', m' < m ∧ ∃ i G, m' + i = n ∧ W i G ∧ Rest Y fp tn τ i G z4 := fun G4 z4 I4 w4 => ⟨m - 1, by omega, i + 1, G4, by omega, w4, back G4 z4 I4⟩
    cases b
    · exact next G3 z3 I3 q
    · apply none_out (pk.run pl z3 σ2 G3 _ I3 q)
      rintro k4 z4 ⟨_, G4, I4, rk, q4⟩
      apply none_out (pv.run pl z4 σ2 G4 _ I4 q4)
      rintro v5 z5 ⟨yv, G5, I5, rv, ps, ks, c, rfl, key, at_, few, w5⟩
      obtain rfl : k4 = .ref c := rk
      exact put_pair room I5 at_ key few rv fun z6 I6 => next _ z6 I6 w5
  · obtain ⟨halt, q⟩ := stop (by omega)
    apply thnF (T.done Y rfl rfl rfl y.calm i [] z τ G (fun _ _ => False) rest.inv (hidden y rest.inv rest.hid) rest.src halt)
    rintro _ s1 ⟨rfl, I1⟩
    exact out G s1 I1 q
theorem pe_dcT (hu : X.A.units + 1 < cLine) (hc : X.calm = true) (hN : X.N.Nodup) (hi : PI X tg iter wi) (ok : BlkOk X.N X.env.scope scope own)
    (hg : EachBlk X scope fun Y => PG Y tg g) (ht : EachBlk X scope fun Y => PTs Y ifs tt) (hk : EachBlk X scope fun Y => PE Y kx tk) (he : EachBlk X scope fun Y => PE Y vx tv) (hs : ∀ x, foldedSetIterable iter X.env x = pure x := by intro _; rfl) :
    PE X (.DictComp kx vx [⟨tg, iter, ifs, 0⟩] scope pos) (tDcT wi g tt tk tv (own.map (·.2))) := by
  constructor
  intro pins s σ H Q I h
  rw [arm_eval_DictComp]
  have caught : ∀ x ∈ scope.names, x.2 = .free → ∃ c, X.env.cells.lookup x.1 = some c := fun x hx e => I.ok.has x.1 (Or.symm (Or.symm (ok.free x hx e)))
  apply wpAny_comprehension_free (g := ⟨tg, iter, ifs, 0⟩) (gs := []) rfl hs (closure_ok caught) ok.kind
  · intro x hx e
    rw [ok.uniq x hx, e]
  apply thn (hi.run pins s σ H _ I h)
  intro v s1 came
  apply thn came
  rintro _ s2 ⟨it, fp, tn, J, H2, rfl, I2, T, src, apart, q⟩
  refine wpAny_newObj_type (newEnv_comp ?_)
  -- the dict laid, then the block's frame
  obtain ⟨n, W, w0, each⟩ := q s2.heap.objs.size (I2.hok.fresh (Nat.le_refl _))
  have ID := I2.laid (t' := s2.toks) (fun b o e => Heap.get?_push_of_some { cls := .type "dict", data := .dict #[] } e) (Nat.le_refl s2.heap.objs.size) (dt_empty s2.heap I2.big)
  have old : ∀ b ∈ fp, b < s2.heap.objs.size := fun b hb => by
    obtain ⟨o, e, _⟩ := T.obj 0 s2.heap src b hb
    exact Heap.lt_size e
  have apartD : ∀ b ∈ fp, FpOk X pins (upd H2 s2.heap.objs.size (.dT [])) b := fun b hb => by
    obtain ⟨no, others⟩ := apart b hb
    exact ⟨(upd_ne (Nat.ne_of_lt (old b hb))).trans no, others⟩
  have IB := block_start ID ok hN fun b hb => ⟨apartD b hb, Nat.lt_of_lt_of_le (old b hb) (by rw [Heap.size_push]; exact Nat.le_succ _)⟩
  have srcB := T.keep 0 _ _ src fun b hb o e => pushCells_keeps scope.names _ b o (Heap.get?_push_of_some { cls := .type "dict", data := .dict #[] } (Heap.get?_push_of_some { cls := .type "dict", data := .dict #[] } e))
  have start : Rest _ fp tn _ 0 _ _ := ⟨IB, srcB, fun b hb => (apartD b hb).1⟩
  have loop := turns (Y := X.blk _ _ scope (compEnvC scope _ _ X.env) fp) (R := compPost (model X.prog X.w) X.A X.xe none (EP X pins σ Q) (.ref s2.heap.objs.size) (s2.heap.push { cls := .type "dict", data := .dict #[] }).objs.size) (by show X.A.units < cLine; omega) ⟨rfl, rfl, rfl, hc⟩ T
    (hg _ _ _ _ fp) (ht _ _ _ _ fp) (hk _ _ _ _ fp) (he _ _ _ _ fp) each (fun G z IZ q => ?_) w0 start (iter := iter) (scope := scope) (pos := pos)
  · exact codeAny_compStart_dict loop (T.self X.A 0 _ _ _ srcB loop)
  · have hidC := IZ.free
    obtain ⟨m, ns, _⟩ := IZ.loc
    have IX : Inv X pins σ G z := ID.call' (ch := fp) IZ.os IZ.base IZ.hok IZ.bare fun b hb => by
      obtain ⟨_, p1, _, p3, p4, p5⟩ := apartD b hb
      exact ⟨p3, p1, p4, p5⟩
    obtain ⟨c0, c1, _, c3, c4, c5⟩ := ID.fpOk (Nat.le_refl _) hidC
    refine ⟨m, ns, fun h' but => ⟨.ref s2.heap.objs.size, G, ?_, rfl, q⟩⟩
    exact IX.turned (t' := z.toks) (fun b o ne e => by rw [← e]; exact but.2 b ne) c0 c1 c3 c4 c5
end
end DCT
end L2
namespace Z
open PySem L2 PySem.W L2.DCT
section
variable {K : PySem.W.Frag} {τ : T} {μ μ1 μ2 μ0 μ' : M} {H H0 H1 H2 H' : Hp} {σ : L2.St} {Φ : D → M → Prop} {tk tv : TE} {tt : TT} {wi : TI} {j : Nat}
/-- the dict that is made is at Dl, outside of the store -/
structure DcAt (K : PySem.W.Frag) (Dl : Addr) (μ0 : M) (H0 : Hp) (acc : List (List Key × D)) (μ' : M) (H' : Hp) : Prop where
  fr : Fr μ0 μ' H0 H'
  con : Z.Con K H' μ'
  no : μ' Dl = none
  at_ : ∃ vs, H' Dl = some (.dT vs) ∧ RelKV K H' vs acc
theorem upd_outT {Dl : Addr} {vs : List (List Key × V)} {o : HO} (c : Z.Con K H μ) (no : μ Dl = none) (h : H Dl = some (.dT vs)) : Tx H (upd H Dl o) ∧ Z.Con K (upd H Dl o) μ := by
  have t : Tx H (upd H Dl o) := ⟨fun a xs e => by rw [upd_ne (fun z => by subst z; rw [h] at e; cases e)]; exact e, fun a ob xs e => by rw [upd_ne (fun z => by subst z; rw [h] at e; cases e)]; exact e,
    fun a q e => by rw [upd_ne (fun z => by subst z; rw [h] at e; unfold LamX.CodeO at e; cases e)]; exact e⟩
  exact ⟨t, fun a m e => (c a m e).mono t (upd_ne (fun z => by subst z; rw [no] at e; cases e))⟩
theorem kv_length {κ : Type} : ∀ {vs : List (κ × V)} {kvs : List (κ × D)}, RelKV K H vs kvs → vs.length = kvs.length
  | _, _, .nil => rfl
  | _, _, .cons _ b => by rw [List.length_cons, List.length_cons, kv_length b]
theorem dc_step {Dl : Addr} {acc : List (List Key × D)} {P : List (List Key × D) → M → Prop} {Nx : Hp → Prop} {v : V} {x : D} (hD : H0 Dl = none) (s : Slots K H0 τ σ) (c0 : Z.Con K H0 μ0) (L : DcAt K Dl μ0 H0 acc μ' H') (rx : Rel K H' v x)
    (ht : AT K tt (τ.set j (some x)) μ' fun b μ1 => if b = true then AE K tk (τ.set j (some x)) μ1 fun y μ2 => AE K tv (τ.set j (some x)) μ2 fun z μ3 => ∃ k, y = kT k ∧ acc.length < sizeLine ∧ P (putKD acc k z) μ3 else P acc μ1)
    (hn : ∀ acc2 μ2 H2, DcAt K Dl μ0 H0 acc2 μ2 H2 → P acc2 μ2 → Nx H2) :
    gName j v (wipe σ [j]) H' fun σ2 H2 => wipe σ2 [j] = wipe σ [j] ∧ tt σ2 H2 fun b H3 => if b = true then tk σ2 H3 fun y H4 => tv σ2 H4 fun z H5 => ∃ kvs k c, y = .ref c ∧ H5 c = some (.tup (k.map kV)) ∧ H5 Dl = some (.dT kvs) ∧ kvs.length < sizeLine ∧ Nx (upd H5 Dl (.dT (putK kvs k z))) else Nx H3 := by
  obtain ⟨vs0, hv0, hr0⟩ := L.at_
  refine tg_name (K := K) x [x] v _ H' rfl rx _ fun vs hvs => ⟨by rw [wipe_sets (fun _ h => h), wipe_wipe], ?_⟩
  have s' : Slots K H' (sets τ [j] [x]) (sets (wipe σ [j]) [j] vs) := slots_block (s.mono (L.fr.tx c0)) hvs rfl
  refine ht _ H' s' L.con _ fun b μ1 H1 f1 c1 p => ?_
  have n1 : μ1 Dl = none := (f1 Dl _ L.no hv0).2
  have h1 : H1 Dl = some (.dT vs0) := (f1 Dl _ L.no hv0).1
  cases b with
  | false => exact hn acc μ1 H1 ⟨L.fr.trans f1, c1, n1, vs0, h1, RelKV.mono (f1.tx L.con) hr0⟩ p
  | true =>
    refine (show AE K tk _ μ1 _ from p) _ H1 (s'.mono (f1.tx L.con)) c1 _ fun y μ2 w H2 f2 c2 r2 p2 => ?_
    refine p2 _ H2 (s'.mono ((f1.trans f2).tx L.con)) c2 _ fun z μ3 u H3 f3 c3 r3 ⟨k, ey, hz, p3⟩ => ?_
    subst ey
    have n2 : μ3 Dl = none := ((f2.trans f3) Dl _ n1 h1).2
    have h2 : H3 Dl = some (.dT vs0) := ((f2.trans f3) Dl _ n1 h1).1
    have hr2 : RelKV K H3 vs0 acc := RelKV.mono (((f1.trans f2).trans f3).tx L.con) hr0
    obtain ⟨c, ec, hc⟩ := rel_kT (Rel.mono (f3.tx c2) _ _ r2)
    subst ec
    obtain ⟨t3, c4⟩ := upd_outT (o := .dT (putK vs0 k u)) c3 n2 h2
    refine ⟨vs0, k, c, rfl, hc, h2, by rw [kv_length hr0]; exact hz, hn _ μ3 _ ⟨fun a o n e => ?_, c4, n2, _, upd_same, RelKV.mono t3 (kv_put hr2 k r3)⟩ p3⟩
    obtain ⟨e2, m2⟩ := ((L.fr.trans f1).trans (f2.trans f3)) a o n e
    exact ⟨by rw [upd_ne (ne_of_none e hD)]; exact e2, m2⟩
theorem a_dcT (h : AI K wi τ μ fun xs μw back => ∃ P : Nat → List (List Key × D) → M → Prop, P 0 [] μw ∧
      (∀ (i : Nat) x acc μ', xs[i]? = some x → P i acc μ' → AT K tt (τ.set j (some x)) μ' fun b μ1 => if b = true then AE K tk (τ.set j (some x)) μ1 fun y μ2 => AE K tv (τ.set j (some x)) μ2 fun z μ3 => ∃ k, y = kT k ∧ acc.length < sizeLine ∧ P (i + 1) (putKD acc k z) μ3 else P (i + 1) acc μ1) ∧
      ∀ acc μ', P xs.length acc μ' → ∀ p, back μ' p = none → Φ (.ref p) ((back μ').set p (.dT acc))) :
    AE K (tDcT wi (gName j) tt tk tv [j]) τ μ Φ := fun σ H s c Q k => by
  refine h σ H s c _ fun J xs out G H1 μw back tx c1 W g1 o1 B ⟨P, p0, hs, hd⟩ Dl hD => ?_
  have s1 := s.mono tx
  refine ⟨xs.length, fun i H' => ∃ acc μ', DcAt K Dl μw H1 acc μ' H' ∧ P i acc μ', ⟨[], μw, ⟨fr_new hD, con_new hD c1, c1.free hD, [], upd_same, .nil⟩, p0⟩, ?_⟩
  rintro i H' le ⟨acc, μ', L, p⟩
  have gH : G H' := W.keep _ _ _ _ c1 o1 g1 L.fr
  refine ⟨fun e => ?_, fun hlt => ⟨W.go i H' hlt gH, fun v H2 y => ?_⟩⟩
  · subst e
    obtain ⟨vs, hv, hr⟩ := L.at_
    refine ⟨W.stop _ H' (Nat.le_refl _) gH, ?_⟩
    have hbn : back μ' Dl = none := B.nw _ _ hD L.no
    have fb := B.fr _ _ L.fr
    have cb := B.con _ _ L.fr L.con
    refine k _ _ _ H' (fun b o n e => ?_) (con_back (m := .dT acc) cb ⟨vs, hv, hr⟩) (.ref Dl) (hd acc μ' p Dl hbn)
    obtain ⟨e2, n2⟩ := fb b o n e
    have hb : b ≠ Dl := fun z => by
      have e3 := B.old b o n e
      rw [z, hD] at e3; cases e3
    exact ⟨e2, by rw [set_ne hb]; exact n2⟩
  · obtain ⟨x, hx, rx, hH⟩ := W.yld i H' v H2 hlt gH y
    have L2 : DcAt K Dl μw H1 acc μ' H2 := by
      rcases hH with e | ⟨T0, vs, hT, e⟩
      · rw [e]; exact L
      · obtain ⟨f2, c2⟩ := yld_ok (vs := vs) L.con hT
        obtain ⟨ws, hw, hr⟩ := L.at_
        rw [e]
        exact ⟨L.fr.trans f2, c2, L.no, ws, by rw [upd_ne (fun z => by rw [z, hT] at hw; cases hw)]; exact hw, RelKV.mono (tx_new hT) hr⟩
    exact dc_step hD s1 c1 L2 rx (hs i x acc μ' hx p) fun acc2 μ2 H3 L3 p3 => ⟨acc2, μ2, L3, p3⟩
end
end Z
namespace Z
open PySem L2 PySem.W
section
variable {κ : Type} [DecidableEq κ]
theorem val_any (r : List (κ × D)) (j : κ) : (valD r j).isSome = r.any fun kv => decide (kv.1 = j) := by
  induction r with
  | nil => rfl
  | cons p r ih =>
    rw [valD_cons, List.any_cons, ← ih]
    by_cases h : p.1 = j
    · rw [if_pos h, decide_eq_true h]; rfl
    · rw [if_neg h, decide_eq_false h, Bool.false_or]
theorem put_has (r : List (κ × D)) (k j : κ) (v : D) : (valD (putKD r k v) j).isSome = ((valD r j).isSome || decide (j = k)) := by
  cases e : (valD r k).isSome with
  | false =>
    have e2 : valD r k = none := by
      cases h : valD r k with
      | none => rfl
      | some d => rw [h] at e; cases e
    rw [putKD_new e2, val_any, val_any, List.any_append, List.any_cons, List.any_nil, Bool.or_false]
    congr 1
    exact decide_eq_decide.mpr ⟨Eq.symm, Eq.symm⟩
  | true =>
    unfold putKD
    rw [if_pos e, val_any, val_any, List.any_map]
    have e3 : (r.any ((fun kv : κ × D => decide (kv.1 = j)) ∘ fun kv => if kv.1 = k then (kv.1, v) else kv)) = r.any fun kv => decide (kv.1 = j) := by
      congr 1
      funext kv
      simp only [Function.comp_apply]
      split <;> rfl
    rw [e3]
    by_cases h : j = k
    · subst h
      rw [val_any] at e
      rw [e]
      rfl
    · rw [decide_eq_false h, Bool.or_false]
theorem put_len (r : List (κ × D)) (k : κ) (v : D) : (putKD r k v).length ≤ r.length + 1 := by
  unfold putKD
  split
  · rw [List.length_map]; omega
  · rw [List.length_append]; exact Nat.le_refl _
theorem flat_le {α β : Type} {F : α → List β} {n : Nat} (h : ∀ x, (F x).length ≤ n) : ∀ (l : List α), (l.flatMap F).length ≤ n * l.length
  | [] => Nat.zero_le _
  | x :: l => by
    have := flat_le h l
    have := h x
    rw [List.flatMap_cons, List.length_append, List.length_cons, Nat.mul_succ]
    omega
end
end Z
namespace Z
open PySem PySem.Spec PyProof.Rows L2
/-- o.m(.., k = v, ..): n places behind self -/
def tMethN (C : Addr) (m : Str) (n j : Nat) (sp : Sp) (g : List V → List V → List V) (E : L2.St → XK) (ta : TE) (t tk : TA) : TE := fun σ H Q => ta σ H fun x H1 => ∃ a dx fs, x = .ref a ∧ H1 a = some (.ins C dx fs) ∧ fs.lookup m = none ∧
  t σ H1 fun vs H2 => tk σ H2 fun zs H3 => vs.length = n ∧ zs.length = j ∧ sp (g (x :: vs) zs) H3 Q (E σ)
structure MthN (P : Program) (w : World) (K : PySem.W.Frag) (mg : Str → Option Value) (base : Heap) (C : Addr) (m : Str) (ps : List Str) (n : Nat) (ks : List Str) (π : List (Bool × Nat)) (mz : List V) (k : Nat) (sp : Sp) : Prop where
  ex : ∃ f fd g, FnOk P w K mg base (L2.CX P w) k f fd ps sp ∧ Cls K C ∧ Meth K C m f ∧ KBn K fd ps (n + 1) ks g (fun vs zs => gK π vs mz zs)
theorem pas0 {X : Cx} {σ : L2.St} : PassesAt (L2.CX X.prog X.w) X σ E0 := fun pins H s e s' I c => passL pins σ H s e s' I c
section
variable {X : Cx} {CX : CXT} {k n : Nat} {f C : Addr} {fd : FuncData} {ps ks : List Str} {sp : Sp} {E : XK} {x m : Str} {p pos apos : Pos} {e o : Expr} {es : List Expr} {kws : List Keyword} {t tk : TA} {to : TE} {g : List Value → List Value → List Value} {gV : List V → List V → List V} {W : WX} {π : List (Bool × Nat)} {mz : List V}
/-- what a call by a kept promise leaves: its answer, or what is raised -/
theorem come_back {pins : List (Addr × Obj)} {σ : L2.St} {H : Hp} {s : Shared} {R : VK} (out : PassesAt CX X σ E) (I : L2.Inv X pins σ H s) : ∀ {r : Result} {z : Shared}, CR CX X.stack X.prog X.w H s R E r z →
    match r with
    | .ok (.ret u) => ∃ v H', L2.Inv X pins σ H' z ∧ L2.RelV v u ∧ R v H'
    | .ok _ => False
    | .error e => X.xe e z
  | .ok (.ret _), _, q => I.after q
  | .ok .next, _, q | .ok .brk, _, q | .ok .cont, _, q => q
  | .error e, z, q => out pins H s e z I q
theorem run_fnNS {pins : List (Addr × Obj)} {σ : L2.St} {H : Hp} {s : Shared} {Q : VK} {us ws : List Value} {vs zs : List V} (F : FnOk X.prog X.w X.K X.mg X.base CX k f fd ps sp) (hr : Room k X.A) (hb : KBn X.K fd ps n ks g gV) (out : PassesAt CX X σ E)
    (I : L2.Inv X pins σ H s) (r : Vals vs us) (rz : Vals zs ws) (l1 : vs.length = n) (l2 : zs.length = ks.length) (h : sp (gV vs zs) H Q E) : wpAny (model X.prog X.w) X.A (call (.ref f) us (ks.zip ws)) (EP X pins σ Q) X.xe s := by
  have bound := hb.to s us ws I.kIn (by rw [← r.length, l1]) (by rw [← rz.length, l2])
  have ran := F.run X.A X.stack s H ⟨us, ks.zip ws⟩ (g us ws) (gV vs zs) Q E hr I.env0 bound (hb.rel r rz) h
  apply wpAny_call
  apply codeAny_mono ran
  intro res z q
  have back := come_back out I q
  rcases res with e | (u | _ | _ | _) <;> exact back
/-- the places, then the names, then the call itself: f is kept by the table -/
theorem kw_call {fA : Addr} {own : List Value} {s : Shared} {σ : L2.St} {H : Hp} {pins : List (Addr × Obj)} {Q : VK} {e : Expr} {es : List Expr} {kws : List Keyword} {t tk : TA} {pos : Pos} {G : List V → List V → Hp → Prop} (I : L2.Inv X pins σ H s) (kp : PySem.W.keepIn X.K (.ref fA) = true) (ha : PA X (e :: es) t) (hkw : PK X kws tk)
    (hall : (backToKw pos (keywordEach kws X.env)).all (·.1.isSome) = true) (hks : (backToKw pos (keywordEach kws X.env)).filterMap (·.1) = ks) (he : starEach (e :: es) X.env = (false, eval e X.env) :: starEach es X.env) (hpl : ((backTo pos (starEach (e :: es) X.env)).any (·.1) || (backToKw pos (keywordEach kws X.env)).any (·.1.isNone)) = false)
    (h : t σ H fun vs H1 => tk σ H1 fun zs H2 => G vs zs H2) (go : ∀ us ws vs zs H2 s2, L2.Inv X pins σ H2 s2 → Vals vs us → Vals zs ws → G vs zs H2 → wpAny (model X.prog X.w) X.A (call (.ref fA) (own ++ us) (ks.zip ws)) (EP X pins σ Q) X.xe s2) :
    wpAny (model X.prog X.w) X.A (callWith pos (.ref fA) own (backTo pos (starEach (e :: es) X.env)) (backToKw pos (keywordEach kws X.env))) (EP X pins σ Q) X.xe s :=
  PySem.W.callWith_KW (h₀ := X.base) I.ok.mod.kin kp hall (thn (ha.run pos pins s σ H _ I h) fun us s1 ⟨vs, H1, I1, r, q⟩ => thn (hkw.run pos pins s1 σ H1 _ I1 q) fun ws s2 ⟨zs, H2, I2, rz, q2⟩ => ⟨I2.kIn, hks ▸ go us ws vs zs H2 s2 I2 r rz q2⟩) hpl he
/-- a method by names -/
theorem pe_mthK_ {E' : L2.St → XK} (hE : ∀ σ, PassesAt (L2.CX X.prog X.w) X σ (E' σ)) {pl : Sem Bool} (G : MthN X.prog X.w X.K X.mg X.base C m ps n ks π mz k sp) (hr : Room k X.A) (ho : PE X o to) (ha : PA X (e :: es) t) (hkw : PK X kws tk)
    (hall : (backToKw pos (keywordEach kws X.env)).all (·.1.isSome) = true) (hks : (backToKw pos (keywordEach kws X.env)).filterMap (·.1) = ks)
    (he : starEach (e :: es) X.env = (false, eval e X.env) :: starEach es X.env) (hpl : ((backTo pos (starEach (e :: es) X.env)).any (·.1) || (backToKw pos (keywordEach kws X.env)).any (·.1.isNone)) = false)
    (ht : MCall X o m (e :: es) kws pos apos pl) :
    PE X (.Call (.Attribute o m apos) (e :: es) kws pos) (tMethN C m n ks.length sp (fun vs zs => gK π vs mz zs) E' to t tk) := by
  obtain ⟨f, fd, g, F, c, hm, hb⟩ := G.ex
  exact ⟨fun pins s σ H Q I h => PySem.W.methodCall_KW (pl := pl) (thn (ho.run pins s σ H _ I h) fun u s1 ⟨x, H1, I1, ru, a, _, _, ex, ea, l, q⟩ => by
    subst ex
    cases ru
    exact getmeth_ok I1 ea c hm l (kw_call (own := [.ref a]) I1 hm.kp ha hkw hall hks he hpl q fun us ws vs zs H3 s3 J r rz ⟨l1, l2, q3⟩ =>
      run_fnNS (us := .ref a :: us) (vs := .ref a :: vs) (E := E' σ) F hr hb (hE σ) J (.cons rfl r) rz (congrArg (· + 1) l1) l2 q3)) ht⟩
theorem pe_mthK {pl : Sem Bool} (G : MthN X.prog X.w X.K X.mg X.base C m ps n ks π mz k sp) (hr : Room k X.A) (ho : PE X o to) (ha : PA X (e :: es) t) (hkw : PK X kws tk)
    (hall : (backToKw pos (keywordEach kws X.env)).all (·.1.isSome) = true := by rfl) (hks : (backToKw pos (keywordEach kws X.env)).filterMap (·.1) = ks := by rfl)
    (he : starEach (e :: es) X.env = (false, eval e X.env) :: starEach es X.env := by rfl) (hpl : ((backTo pos (starEach (e :: es) X.env)).any (·.1) || (backToKw pos (keywordEach kws X.env)).any (·.1.isNone)) = false := by rfl)
    (ht : MCall X o m (e :: es) kws pos apos pl := by rfl) :
    PE X (.Call (.Attribute o m apos) (e :: es) kws pos) (tMethN C m n ks.length sp (fun vs zs => gK π vs mz zs) (fun _ => E0) to t tk) := pe_mthK_ (fun _ => pas0) G hr ho ha hkw hall hks he hpl ht
end
section
variable {K : PySem.W.Frag} {τ : T} {μ μ1 μ2 : M} {Φ : D → M → Prop} {te : TE} {N : AEnds} {P : PT4} {n m : Nat} {π : List (Bool × Nat)} {mz : List V} {t tk : TA} {cn : Str → Option Value}
theorem a_mthK {C : Addr} {f : Str} {E : L2.St → XK} (mD : List D) (hmz : ∀ H, Rels K H mz mD)
    (h : AE K te τ μ fun o μ0 => ∃ a dx fs, o = .ref a ∧ μ0 a = some (.ins C dx fs) ∧ fs.lookup f = none ∧ AA K t τ μ0 fun ds μ1 => AA K tk τ μ1 fun es μ2 => ds.length = n ∧ es.length = m ∧ P (gK π (o :: ds) mD es) μ2 Φ fun _ _ _ => False) :
    AE K (tMethN C f n m (spX K cn P) (fun vs zs => gK π vs mz zs) E te t tk) τ μ Φ := fun σ H s c Q k =>
  h σ H s c _ fun o μ1 v H1 f1 c1 r1 ⟨a, dx, fs, e, ha, hm, p1⟩ => by
    subst e
    cases r1
    obtain ⟨vs, hv, hr⟩ := c1 a _ ha
    refine ⟨a, dx, vs, rfl, hv, look_none hr hm, p1 σ H1 (s.mono (f1.tx c)) c1 _ fun ds μ2 us H2 f2 c2 r2 p2 => p2 σ H2 (s.mono ((f1.trans f2).tx c)) c2 _ fun es μ3 zs H3 f3 c3 r3 ⟨l1, l2, p3⟩ => ?_⟩
    exact ⟨by rw [r2.length]; exact l1, by rw [r3.length]; exact l2, _, μ3, Φ, _, rels_gK π (.cons (.ref a) (r2.mono (f3.tx c2))) (hmz H3) r3, c3, p3, fun d μ' v H' f c' r q => k d μ' v H' (((f1.trans f2).trans f3).trans f) c' r q, fun _ _ _ _ _ _ _ _ q => q.elim⟩
end
end Z
namespace L2M
open PySem PySem.Spec PyProof.Rows L2
end L2M
namespace Z
open PySem L2 L2M
structure HZ where
  c : Value
  oi : Option Nat
  tu : Addr → Value → Option Addr → TS
  hit : Str → Bool
def HZ.t (h : HZ) : Value × Option Nat × (Addr → Value → Option Addr → TS) := (h.c, h.oi, h.tu)
end Z
namespace PySem.W
open PySem PySem.Spec PySem.Calls PyProof.Rows
end PySem.W
namespace Z
open PySem PySem.Spec PyProof.Rows L2
end Z
namespace Z
open PySem PySem.Spec PyProof.Rows L2
end Z
namespace Z
open PySem L2 L2M
end Z
namespace Z
open PySem L2
theorem a_cref {K : PySem.W.Frag} {τ : T} {μ : M} {Φ : D → M → Prop} {a : Addr} (h : Φ (.ref a) μ) : AE K (tC (.ref a)) τ μ Φ := fun σ H s c Q k => k (.ref a) μ _ H Fr.refl c (.ref a) h
theorem ro_neS {K : PySem.W.Frag} {μ : M} {Φ : D → M → Prop} {i j : Str} (q : Φ (.bl (!decide (i = j))) μ) : RO K rNe (.str i) (.str j) μ Φ := fun H x y c r1 r2 Q k => by
  cases r1; cases r2
  refine ⟨rfl, ?_⟩
  have e : decide (V.str i = V.str j) = decide (i = j) := by simp
  rw [e]
  exact k _ μ _ H Fr.refl c (.bl _) q
end Z
namespace RVT
open PySem PySem.Spec PyProof.Rows L2 HT
section
variable {prog : Program} {w : World} {A : Around} {E : Value → Shared → Prop} {s : Shared}
theorem adjust_rev (n : Nat) : Builtin.Slice.sliceAdjust none none (-1) (n : Int) = ((n : Int) - 1, -1) := by
  unfold Builtin.Slice.sliceAdjust
  simp
theorem places_rev (n : Nat) : Builtin.Slice.slicePlaces ((n : Int) - 1) (-1) (-1) = n := by
  unfold Builtin.Slice.slicePlaces
  simp
  try omega
theorem sliceApplied_rev {sl : Addr} {vl vu vs : Value} {n : Nat} {Q : Int × Int × Nat → Shared → Prop} (hs : s.heap.IsSliceOf sl vl vu vs) (pl : IsPart vl none) (pu : IsPart vu none) (ps : IsPart vs (some (-1)))
    (h : Q ((n : Int) - 1, -1, n) s) : wpAny (model prog w) A (Builtin.Slice.sliceApplied (.ref sl) (pure (n : Int))) Q E s := by
  obtain ⟨os, hos, hcs, hds⟩ := id hs
  unfold Builtin.Slice.sliceApplied Builtin.Slice.sliceFields
  refine wpAny_bind (wpAny_bind (wpAny_field hos hds (x := vl) rfl (wpAny_bind (wpAny_field hos hds (x := vu) rfl (wpAny_bind (wpAny_field hos hds (x := vs) rfl (wpAny_pure ?_)))))))
  refine wpAny_bind (slicePart_ ps ?_)
  show wpAny _ _ (if ((-1 : Int) == 0) = true then _ else _) _ _ s
  rw [if_neg (by decide)]
  refine wpAny_bind (slicePart_ pl (wpAny_bind (slicePart_ pu (wpAny_bind (wpAny_pure ?_)))))
  show wpAny _ _ (match Builtin.Slice.sliceAdjust none none (-1) (n : Int) with | (lo, hi) => pure (lo, (-1 : Int), Builtin.Slice.slicePlaces lo hi (-1))) _ _ s
  rw [adjust_rev n]
  show wpAny _ _ (pure ((n : Int) - 1, (-1 : Int), Builtin.Slice.slicePlaces ((n : Int) - 1) (-1) (-1))) _ _ s
  rw [places_rev]
  exact wpAny_pure h
theorem filterMap_on {α β : Type} {f g : α → Option β} : ∀ {l : List α}, (∀ x ∈ l, f x = g x) → l.filterMap f = l.filterMap g
  | [], _ => rfl
  | a :: l, h => by rw [List.filterMap_cons, List.filterMap_cons, h a List.mem_cons_self, filterMap_on fun x hx => h x (List.mem_cons_of_mem _ hx)]
theorem pick_rev (xs : Array Value) : ((List.range xs.size).filterMap fun (m : Nat) => xs[((xs.size : Int) - 1 + (m : Int) * -1).toNat]?).toArray = xs.toList.reverse.toArray := by
  have key : ∀ l : List Value, (List.range l.length).filterMap (fun (m : Nat) => l[((l.length : Int) - 1 + (m : Int) * -1).toNat]?) = l.reverse := by
    intro l
    have e1 : (List.range l.length).filterMap (fun (m : Nat) => l[((l.length : Int) - 1 + (m : Int) * -1).toNat]?) = (List.range l.length).filterMap (fun (m : Nat) => l.reverse[m]?) := by
      refine filterMap_on fun m hm => ?_
      have hm := List.mem_range.mp hm
      rw [List.getElem?_reverse hm]
      congr 1
      omega
    rw [e1]
    have e2 : ∀ l : List Value, (List.range l.length).filterMap (fun (m : Nat) => l[m]?) = l := by
      intro l
      induction l with
      | nil => rfl
      | cons a l ih =>
        rw [List.length_cons, List.range_succ_eq_map, List.filterMap_cons, List.filterMap_map]
        simp only [List.getElem?_cons_zero]
        congr 1
    have := e2 l.reverse
    rw [List.length_reverse] at this
    exact this
  have := key xs.toList
  rw [Array.length_toList] at this
  simp only [Array.getElem?_toList] at this
  rw [this]
/-- the slot's own text, at a slice that runs backwards -/
theorem body_rev {t sl : Addr} {xs : Array Value} {vl vu vs : Value} {Q : Value → Shared → Prop} (ht : IsTup s.heap t xs) (hs : s.heap.IsSliceOf sl vl vu vs) (pl : IsPart vl none) (pu : IsPart vu none) (ps : IsPart vs (some (-1))) (few : xs.size ≤ sizeLine)
    (q : Q (.ref s.heap.objs.size) { s with heap := s.heap.push { cls := .type "tuple", data := .seq xs.toList.reverse.toArray } }) :
    wpAny (model prog w) A (Builtin.«tuple.__getitem__» ⟨[.ref t, .ref sl], []⟩) (fun fin z => ∃ v, fin = .done (.ret v) ∧ Q v z) E s := by
  have isSlice : s.TypeIs (.ref sl) "slice" := by
    obtain ⟨o, at_, cls, _⟩ := hs
    exact ⟨o, at_, cls⟩
  show wpAny _ _ (Builtin.Tuple.tupleItemsOf (.ref t) >>= _) _ _ _
  apply wpAny_bind
  apply tupleItemsOf_ ht
  apply wpAny_bind
  apply wpAny_typeOf isSlice
  simp only [beq_self_eq_true, if_true]
  apply wpAny_bind
  apply sliceApplied_rev hs pl pu ps
  simp only [show ((-1 : Int) == 1) = false from rfl, Bool.and_false, Bool.false_and, Bool.false_eq_true, if_false, pick_rev]
  apply wpAny_bind
  have fits : sizeOk (.seq xs.toList.reverse.toArray) := by
    show xs.toList.reverse.toArray.size ≤ sizeLine
    simpa using few
  refine wpAny_newObj_type ?_ fits
  exact wpAny_pure ⟨_, rfl, q⟩
theorem item_rev {t sl : Addr} {xs : Array Value} {vl vu vs : Value} {Q : Value → Shared → Prop} (ht : IsTup s.heap t xs) (hs : s.heap.IsSliceOf sl vl vu vs) (pl : IsPart vl none) (pu : IsPart vu none) (ps : IsPart vs (some (-1))) (few : xs.size ≤ sizeLine)
    (q : Q (.ref s.heap.objs.size) { s with heap := s.heap.push { cls := .type "tuple", data := .seq xs.toList.reverse.toArray } }) : wpAny (model prog w) A (getItem (.ref t) (.ref sl)) Q E s := by
  have slot := PyProof.Rows.slot_tuple_getitem
  unfold getItem
  apply wpAny_holding
  apply wpAny_bind
  apply wpAny_sequenceKey ht.typeIs (by decide)
  apply wpAny_bind
  apply wpAny_callSpecial?_slot (name := Str.ofString "__getitem__") ht.typeIs slot
  apply wpAny_call_entry slot ht.typeIs entry_tuple_getitem _ (args_tuple_getitem _ _)
  exact body_rev ht hs pl pu ps few (wpAny_pure q)
end
def tRevT (K : PySem.W.Frag) (te : TE) : TE := fun σ H Q => te σ H fun x H1 => ∃ a xs, x = .ref a ∧ SqT K H1 a xs ∧ ∀ p, H1 p = none → Q (.ref p) (upd H1 p (.tup xs.reverse))
/-- the three parts of [::-1]; the slice made of them -/
theorem slice_rev {X : Cx} {pins : List (Addr × Obj)} {σ : L2.St} {H : Hp} {s : Shared} {Q : Value → Shared → Prop} {k : Nat} {p1 p2 p3 : Pos} (I : L2.Inv X pins σ H s)
    (q : ∀ vl vu vs sl z, L2.Inv X pins σ H z → z.heap.IsSliceOf sl vl vu vs → IsPart vl none → IsPart vu none → IsPart vs (some (-1)) → Q (.ref sl) z) :
    wpAny (model X.prog X.w) X.A (eval (.Slice none none (some (.UnaryOp .USub (.Constant (.int 1) k p1) p2)) p3) X.env) Q X.xe s := by
  have none_ : ∀ {s R}, L2.Inv X pins σ H s → (∀ v z, L2.Inv X pins σ H z → IsPart v none → R v z) → wpAny (model X.prog X.w) X.A (evalPart none X.env) R X.xe s := fun I r =>
    thn (po_none.run pins _ σ H (fun o G => o = none ∧ G = H) I ⟨rfl, rfl⟩) fun v z ⟨_, _, J, part, eo, eH⟩ => by
      subst eo eH
      exact r v z J part
  have less : PO X (some (.UnaryOp .USub (.Constant (.int 1) k p1) p2)) (tPart (tUn (rU fun i => .int (-i)) (tC (.int 1)))) := po_some (pe_un un_neg pe_int)
  apply wpAny_Slice
  apply none_ I
  intro vl s1 I1 pl
  apply none_ I1
  intro vu s2 I2 pu
  apply thn (less.run pins s2 σ H (fun o G => o = some (-1) ∧ G = H) I2 ⟨1, rfl, -1, rfl, rfl, rfl⟩)
  rintro vs s3 ⟨_, _, I3, ps, rfl, rfl⟩
  exact q vl vu vs _ _ (I3.kept (t' := s3.toks) fun b o e => Heap.get?_push_of_some { cls := .type "slice", data := .fields #[vl, vu, vs] } e) (Heap.IsSliceOf.new _ vl vu vs) pl pu ps
theorem pe_revT {X : Cx} {K : PySem.W.Frag} (hK : X.K = K) {e : Expr} {te : TE} {k : Nat} {p1 p2 p3 pos : Pos} (he : PE X e te) : PE X (.Subscript e (.Slice none none (some (.UnaryOp .USub (.Constant (.int 1) k p1) p2)) p3) pos) (tRevT K te) := by
  subst hK
  constructor
  intro pins s σ H Q I h
  apply Subscript_
  apply thn (he.run pins s σ H _ I h)
  rintro v s1 ⟨_, H1, I1, r1, a, xs, rfl, isT, q⟩
  obtain rfl : v = .ref a := r1
  apply slice_rev I1
  intro vl vu vs sl z I2 isS pl pu ps
  obtain ⟨ys, rel, at_, few⟩ := I2.tuple isT
  refine tail_any (ops := [.ref a, .ref sl]) at_.typeIs PyProof.Rows.slot_tuple_getitem.lookup ?_ (by with_unfolding_all rfl)
  apply item_rev at_ isS pl pu ps (by rw [List.size_toArray, ← rel.length]; exact few)
  have J := I2.laid (t' := z.toks) (o := .tup xs.reverse) (fun b o e => Heap.get?_push_of_some { cls := .type "tuple", data := .seq ys.toArray.toList.reverse.toArray } e) (Nat.le_refl z.heap.objs.size)
    ⟨by rw [List.length_reverse]; exact few, ys.reverse, rel.reverse, _, Heap.get?_push_size _ rfl, rfl, 0, rfl⟩
  exact ⟨.ref z.heap.objs.size, _, J, rfl, q _ (I2.hok.fresh (Nat.le_refl _))⟩
end RVT
namespace Z
open PySem L2
theorem a_revT {K : PySem.W.Frag} {τ : T} {μ : M} {te : TE} {Φ : D → M → Prop} (h : AE K te τ μ fun d μ1 => ∃ ds, d = .tup ds ∧ Φ (.tup ds.reverse) μ1) : AE K (RVT.tRevT K te) τ μ Φ := fun σ H s c Q k =>
  h σ H s c _ fun d μ1 v H1 f1 c1 r1 ⟨ds, e, q⟩ => by
    subst e
    cases r1 with
    | @tup a xs _ ht hr => exact ⟨a, xs, rfl, ht.sq, fun p hp => k _ _ _ _ (f1.trans (fr_new hp)) (con_new hp c1) (.tup (.inl upd_same) (Rels.mono (tx_new hp) _ _ hr.reverse)) q⟩
end Z
namespace SDT
open PySem PySem.Spec PyProof.Rows L2 PySem.W
def tkey (k : List Int) : List L2.Key := k.map Sum.inl
abbrev pyOf (k : List Int) : PyData := .tuple (k.map PyData.int)
def rSortDT : List V → Hp → VK → Prop := fun xs H Q => ∃ (a : Addr) (kvs : List (List L2.Key × V)) (ks : List (List Int)), xs = [.ref a] ∧ H a = some (.dT kvs) ∧ kvs.map (·.1) = ks.map tkey ∧ AllAlike (ks.map pyOf) ∧ Sortable (ks.map pyOf) ∧
  ∀ (p : Addr) (rs : List V), H p = none → EachIs (fun v (k : List Int) => ∃ b, v = .ref b ∧ H b = some (.tup (k.map V.int))) rs (ks.mergeSort (dataLe false pyOf)) → Q (.ref p) (upd H p (.lst rs))
theorem each_at {α β : Type} {R : α → β → Prop} : ∀ {vs : List α} {bs : List β}, vs.length = bs.length → (∀ (j : Nat) v b, vs[j]? = some v → bs[j]? = some b → R v b) → EachIs R vs bs
  | [], [], _, _ => .nil
  | v :: vs, b :: bs, hl, h => .cons (h 0 v b rfl rfl) (each_at (by simpa using hl) fun j v' b' h1 h2 => h (j + 1) v' b' (by simpa using h1) (by simpa using h2))
theorem each_vals {H : Hp} {s : Heap} : ∀ {us : List Value} {bs : List (List Int)}, EachIs (fun u (k : List Int) => ∃ b, u = Value.ref b ∧ H b = some (.tup (k.map V.int))) us bs → ∃ rs : List V, Vals rs us ∧ EachIs (fun v (k : List Int) => ∃ b, v = V.ref b ∧ H b = some (.tup (k.map V.int))) rs bs
  | [], [], .nil => ⟨[], .nil, .nil⟩
  | _ :: _, _ :: _, .cons ⟨b, e, h⟩ r => by
    obtain ⟨rs, h1, h2⟩ := each_vals (s := s) r
    subst e
    exact ⟨.ref b :: rs, .cons rfl h1, .cons ⟨b, rfl, h⟩ h2⟩
theorem each_tab {α β : Type} {R S : α → β → Prop} : ∀ {us : List α} {bs : List β}, EachIs R us bs → (∀ u b, R u b → S u b) → EachIs S us bs
  | [], [], .nil, _ => .nil
  | _ :: _, _ :: _, .cons a b, h => .cons (h _ _ a) (each_tab b h)
theorem reads_ints {h : Heap} : ∀ {vs : List Value} {k : List Int}, Vals (k.map V.int) vs → ReadsAll h vs (k.map .int) []
  | [], [], .nil => .nil
  | v :: vs, i :: k, .cons a b => by
    obtain ⟨t, rfl⟩ := (show ∃ t, v = Value.int i t from a)
    exact .cons (.int i t) (reads_ints b)
theorem key_val {k : List Int} : (tkey k).map kV = k.map V.int := by
  unfold tkey
  rw [List.map_map]
  rfl
theorem cr_sortDT {X : Cx} (hc : X.calm = true) (hu : X.A.units + 64 < cLine) : CallR X (.builtin "sorted") rSortDT := by
  intro pins s σ H xs us Q I r q
  obtain ⟨a, kvs, ks, ex, ha, hks, hal, hso, q⟩ := q
  subst ex
  obtain ⟨u, eu, rx⟩ := vals1 r
  subst eu
  cases rx
  obtain ⟨z, lo, xs', rel, o, es, ep, ho, hx, hdat, hes, his, hn⟩ := dt_of I.hok ha
  have l1 : kvs.length = xs'.length := Paired.length rel
  have l3 : kvs.length = ks.length := by
    have := congrArg List.length hks
    rwa [List.length_map, List.length_map] at this
  have l2 : es.size = xs'.length := size_of_entries hes
  have h16 : es.size ≤ sizeLine := by omega
  have hh : X.A.handled = none := I.ok.hd hc
  refine Calls.call_function_entry PyProof.Rows.kind_sorted PyProof.Rows.plain_sorted PyProof.Rows.entry_sorted (PyProof.Rows.args_sorted1 _) ?_
  unfold Builtin.«sorted»
  refine wpAny_bind (m := checkCount "sorted" 1 1 _) (wpAny_pure ?_)
  refine wpAny_bind (PySem.W.kdu_collect (A := X.A.in1) (kdl_raw (prog := X.prog) (w := X.w) (d := a) (o := o) (es := es) (ep := ep) lo hx hdat) hh ho h16 fun h' tk acc hk hacc => ?_)
  have hal2 : acc.toList.length = ks.length := by rw [Array.length_toList, hacc.1]; omega
  have pr : EachIs (fun u (k : List Int) => ∃ b, u = Value.ref b ∧ H b = some (.tup (k.map V.int))) acc.toList ks := each_at hal2 fun j v k e1 e2 => by
    obtain ⟨en, he, hv⟩ := hacc.2 j v (by rw [← Array.getElem?_toList]; exact e1)
    obtain ⟨x, hxj, rfl⟩ := Option.map_eq_some_iff.mp ((entry_at hes j).symm.trans he)
    obtain ⟨y, hy, _, isT, _⟩ := DX.pget rel hxj
    have same : some (tkey k) = some y.1 := by
      rw [← Option.map_some, ← e2, ← List.getElem?_map, ← hks, List.getElem?_map, hy]
      rfl
    refine ⟨x.2.1, hv, ?_⟩
    rw [isT, ← Option.some.inj same, key_val]
  have I1 : L2.Inv X pins σ H { s with heap := h', toks := tk } := I.kept hk
  have hks16 : ks.length ≤ sizeLine := by omega
  refine wpAny_bind (wpAny_newList ?_ (by rw [hal2]; exact hks16))
  have hoL : (h'.push (seqObj "list" acc.toList.toArray 0)).get? h'.objs.size = some (seqObj "list" acc.toList.toArray 0) := Heap.get?_push_size _ rfl
  have I2 : L2.Inv X pins σ H { s with heap := h'.push (seqObj "list" acc.toList.toArray 0), toks := tk } := I1.kept (t' := tk) fun _ _ e => Heap.get?_push_of_some _ e
  show wpAny _ _ _ _ _ { s with heap := h'.push (seqObj "list" acc.toList.toArray 0), toks := tk }
  have er : EachIs (fun v (k : List Int) => ∃ as, Reads (h'.push (seqObj "list" acc.toList.toArray 0)) v (pyOf k) as ∧ ¬h'.objs.size ∈ as) acc.toList ks := each_tab pr fun v k ⟨b, e, hb⟩ => by
    subst e
    obtain ⟨_, its, rv, o2, g1, g2, n2, g3⟩ := (show ObjOk X.prog X.w H (h'.push (seqObj "list" acc.toList.toArray 0)) b (.tup (k.map V.int)) from I2.hok b _ hb)
    refine ⟨[], .tuple g1 g2 g3 ?_, by simp⟩
    rw [List.toList_toArray]
    exact reads_ints rv
  have hcost : ∀ k ∈ ks, X.A.in1.units + 1 + (pyOf k).depth < cLine := fun k hk => by
    have hd : (pyOf k).depth ≤ 1 := by
      have h0 : ∀ l : List Int, PyData.depthAll (l.map .int) = 0 := depth_ints
      simp only [pyOf, PyData.depth, h0]
      decide
    have : X.A.in1.units = X.A.units + 1 := rfl
    have : X.A.in1.units + 1 + (pyOf k).depth ≤ X.A.units + 64 := by omega
    omega
  refine wpAny_bind (wpAny_holding (list_sort_data (enc := pyOf) hoL pr er hal hso hks16 hcost fun out ho2 eo => ?_))
  obtain ⟨rs, hrs, er2⟩ := each_vals (s := s.heap) eo
  obtain ⟨c, hcat⟩ := PyProof.Rows.sortedHeap_at (vs := acc.toList) (out := out.toArray) hoL
  have old : ∀ b o, h'.get? b = some o → (sortedHeap (h'.push (seqObj "list" acc.toList.toArray 0)) h'.objs.size acc.toList out.toArray).get? b = some o := fun b o e => by
    have hlt := Heap.lt_size e
    rw [sortedHeap_old (Nat.ne_of_lt hlt) (by rw [Heap.size_push]; exact Nat.lt_succ_of_lt hlt)]
    exact Heap.get?_push_of_some _ e
  have hl4 : rs.length = ks.length := by
    rw [er2.length, List.length_mergeSort]
  refine wpAny_pure ⟨_, rfl, ?_⟩
  refine ⟨.ref h'.objs.size, upd H h'.objs.size (.lst rs), I1.laid (t' := tk) old (Nat.le_refl _) ⟨by rw [hl4]; exact hks16, out, c, hrs, hcat⟩, rfl, q _ rs (I1.hok.fresh (Nat.le_refl _)) er2⟩
end SDT
namespace Z
open PySem L2 SDT PySem.W
theorem rels_sorted {K : PySem.W.Frag} {H : Hp} : ∀ {rs : List V} {ks : List (List Int)}, EachIs (fun v (k : List Int) => ∃ b, v = .ref b ∧ H b = some (.tup (k.map V.int))) rs ks → Rels K H rs (ks.map fun k => D.tup (k.map D.int))
  | [], [], .nil => .nil
  | _ :: _, _ :: _, .cons ⟨b, e, h⟩ r => by
    subst e
    refine .cons (.tup (.inl h) ?_) (rels_sorted r)
    have : ∀ k : List Int, Rels K H (k.map V.int) (k.map D.int) := fun k => by
      induction k with
      | nil => exact .nil
      | cons i k ih => exact .cons (.int i) ih
    exact this _
theorem keys_rel {κ : Type} {K : PySem.W.Frag} {H : Hp} : ∀ {vs : List (κ × V)} {kvs : List (κ × D)}, RelKV K H vs kvs → vs.map (·.1) = kvs.map (·.1)
  | _, _, .nil => rfl
  | _, _, .cons a b => by rw [List.map_cons, List.map_cons, a.1, keys_rel b]
theorem rc_sortDT {K : PySem.W.Frag} {μ : M} {Φ : D → M → Prop} {a : Addr} {kvs : List (List Key × D)} {ks : List (List Int)} (h : μ a = some (.dT kvs)) (hk : kvs.map (·.1) = ks.map tkey) (hal : AllAlike (ks.map pyOf)) (hso : Sortable (ks.map pyOf))
    (q : ∀ p, μ p = none → Φ (.ref p) (μ.set p (.lst ((ks.mergeSort (dataLe false pyOf)).map fun k => D.tup (k.map D.int))))) : RC K rSortDT [.ref a] μ Φ := fun H xs c r Q k => by
  cases r with
  | cons r1 rr =>
    cases rr
    cases r1
    obtain ⟨vs, hv, hr⟩ := c _ _ h
    have e : vs.map (·.1) = kvs.map (·.1) := keys_rel hr
    refine ⟨a, vs, ks, rfl, hv, e.trans hk, hal, hso, fun p rs hp er => ?_⟩
    exact k _ _ _ _ (fr_put hp) (con_put (m := .lst _) hp c ⟨rs, upd_same, Rels.mono (tx_new hp) _ _ (rels_sorted er)⟩) (.ref p) (q p (c.free hp))
end Z
namespace STI
open PySem PySem.Spec PyProof.Rows L2 PySem.W SDT
end STI
namespace Z
open PySem L2 STI PySem.W
end Z
namespace Z
open PySem L2 PySem.W
theorem rels_last {K : PySem.W.Frag} {H : Hp} {d : D} : ∀ {ds : List D} {xs : List V}, Rels K H xs (ds ++ [d]) → ∃ vs v, xs = vs ++ [v] ∧ Rels K H vs ds ∧ Rel K H v d
  | [], _, .cons a .nil => ⟨[], _, rfl, .nil, a⟩
  | _ :: _, _, .cons a b => by
    obtain ⟨vs, v, e, h1, h2⟩ := rels_last b
    exact ⟨_ :: vs, v, by rw [e]; rfl, .cons a h1, h2⟩
theorem m_pop {K : PySem.W.Frag} {τ : T} {μ : M} {Φ : D → M → Prop} {to : TE} {a : Addr} {ds : List D} {d : D} (h : AE K to τ μ fun o μ1 => o = .ref a ∧ μ1 a = some (.lst (ds ++ [d])) ∧ Φ d (μ1.set a (.lst ds))) :
    AE K (tBM0 K "list" rPop to) τ μ Φ := fun σ H s c Q k =>
  h σ H s c _ fun o μ1 v H1 f1 c1 r1 ⟨e, he, q⟩ => by
    subst e
    cases r1
    obtain ⟨xs, hx, hr⟩ := c1 a _ he
    obtain ⟨vs, u, rfl, h1, h2⟩ := rels_last hr
    refine ⟨.inl ⟨rfl, _, SqL.of hx⟩, a, vs ++ [u], u, rfl, rfl, hx, by simp, ?_⟩
    rw [List.dropLast_concat]
    exact k _ _ _ _ (f1.trans (fr_mut he)) (con_mut (m' := .lst ds) c1 he ⟨_, upd_same, Rels.mono (tx_mut c1 he) _ _ h1⟩) (Rel.mono (tx_mut c1 he) _ _ h2) q
end Z
namespace MNX
open PySem PySem.Spec PyProof.Rows L2 PySem.W
/-- a list of data is held, each value with what it reads as; the first of the least is told -/
def rMinD (K : PySem.W.Frag) (g : PyData → PyData → Bool) : List V → Hp → VK → Prop := fun vs H Q => ∃ (a : Addr) (b : V × PyData) (bs : List (V × PyData)), vs = [.ref a] ∧ SqL K H a ((b :: bs).map (·.1)) ∧ (∀ c ∈ b :: bs, Dp K H c.1 c.2) ∧ AlikeAll ((b :: bs).map (·.2)) ∧
  (∀ c ∈ b :: bs, c.2.depth ≤ 8) ∧ Q ((bs.foldl (fun x y => if g y.2 x.2 then y else x) b).1) H
theorem depth_all {n : Nat} : ∀ {ps : List PyData}, (∀ p ∈ ps, p.depth ≤ n) → PyData.depthAll ps ≤ n
  | [], _ => by simp [PyData.depthAll]
  | p :: ps, h => by
    have h1 := h p List.mem_cons_self
    have h2 := depth_all (n := n) fun q hq => h q (List.mem_cons_of_mem _ hq)
    simp only [PyData.depthAll]
    omega
theorem fold_at {α : Type} (f : α → α → Bool) (d x : α) (xs : List α) : ((x :: xs).getD (argBest (fun i j => f ((x :: xs).getD i d) ((x :: xs).getD j d)) xs.length) d = xs.foldl (fun a y => if f y a then y else a) x) ∧ argBest (fun i j => f ((x :: xs).getD i d) ((x :: xs).getD j d)) xs.length ≤ xs.length := by
  have e := argBest_fold f d x xs xs.length (Nat.le_refl _)
  rw [List.take_length] at e
  exact ⟨e.2, e.1⟩
theorem getD_snd {xs : List (V × PyData)} {i : Nat} : (xs.map (·.2)).getD i PyData.none = (xs.getD i (V.int 0, PyData.none)).2 := by
  rw [List.getD_eq_getElem?_getD, List.getD_eq_getElem?_getD, List.getElem?_map]
  cases xs[i]? <;> rfl
theorem each_at {α β : Type} {R : α → β → Prop} : ∀ {us : List α} {bs : List β} {i : Nat} {u : α}, EachIs R us bs → us[i]? = some u → ∃ b, bs[i]? = some b ∧ R u b
  | [], _, _, _, _, h => by simp at h
  | _ :: _, _ :: _, 0, _, .cons a _, h => by cases h; exact ⟨_, rfl, a⟩
  | _ :: _, _ :: _, i + 1, _, .cons _ b, h => each_at (i := i) b h
theorem cr_minD {X : Cx} (hc : X.calm = true) (hu : X.A.units + 64 < cLine) : CallR X (.builtin "min") (rMinD X.K dataLt) := by
  intro pins s σ H vs us Q I r h
  obtain ⟨a, b, bs, rfl, hs, hd, hal, hde, q⟩ := h
  obtain ⟨its, rv, hl, hz⟩ := I.list hs
  rw [Vals.ref1 r]
  have e : EachIs (fun u (b : V × PyData) => RelV b.1 u) its (b :: bs) := SD.each_of (fun b : V × PyData => b.1) rv
  have er : EachIs (fun v (b : V × PyData) => ∃ as, Reads s.heap v b.2 as) its (b :: bs) := SD.each_imp e fun u b hb rb => Dp.reads I b.2 b.1 u (hd b hb) rb
  have len : its.length = bs.length + 1 := e.length
  obtain ⟨as, ra⟩ := each_readsAll (fun b : V × PyData => b.2) er
  have hdep := depth_all (n := 8) (ps := (b :: bs).map (·.2)) fun p hp => by
    obtain ⟨c, hc, rfl⟩ := List.mem_map.mp hp
    exact hde c hc
  have hn : (its.toArray).size = bs.length + 1 := by rw [List.size_toArray]; exact len
  refine call_min_walkH (iter_listW (A := X.A.in1) (I.ok.hd hc) hl.isList fun s₂ e2 W st hfp hw hk => ?_)
  refine ⟨_, _, _, _, _, _, _, s.heap, _, rfl, W, st, hfp, by omega, hw, hk, cmpIn_lt (A := X.A.in1) (by rw [List.toList_toArray]; exact ra) hal (by show X.A.units + 1 + _ < _; omega), fun v s' hP m => ?_⟩
  obtain ⟨h', tk, rfl, hk'⟩ := moved_old e2 rfl m
  have eb : (fun i j => dataLt (((b :: bs).map (·.2)).getD i PyData.none) (((b :: bs).map (·.2)).getD j PyData.none)) = fun i j => (fun x y : V × PyData => dataLt x.2 y.2) ((b :: bs).getD i (V.int 0, PyData.none)) ((b :: bs).getD j (V.int 0, PyData.none)) := by
    funext i j
    rw [getD_snd, getD_snd]
  have hP : its.toArray[argBest (fun i j => dataLt (((b :: bs).map (·.2)).getD i PyData.none) (((b :: bs).map (·.2)).getD j PyData.none)) (its.toArray.size - 1)]? = some v := hP
  rw [eb, hn, Nat.add_sub_cancel, List.getElem?_toArray] at hP
  obtain ⟨f1, f2⟩ := fold_at (fun x y : V × PyData => dataLt x.2 y.2) (V.int 0, PyData.none) b bs
  generalize argBest (fun i j => (fun x y : V × PyData => dataLt x.2 y.2) ((b :: bs).getD i (V.int 0, PyData.none)) ((b :: bs).getD j (V.int 0, PyData.none))) bs.length = i0 at hP f1 f2
  obtain ⟨c, hc, rc⟩ := each_at e hP
  rw [List.getD_eq_getElem?_getD, hc] at f1
  refine ⟨c.1, H, I.kept (t' := tk) hk', rc, ?_⟩
  rw [show c = bs.foldl (fun a y => if dataLt y.2 a.2 then y else a) b from f1]
  exact q
theorem cr_minDK {X : Cx} {K : PySem.W.Frag} (h : X.K = K) (hc : X.calm = true) (hu : X.A.units + 64 < cLine) : CallR X (.builtin "min") (rMinD K dataLt) := by subst h; exact cr_minD hc hu
end MNX
namespace Z
open PySem L2 SD PySem.W
/-- the first of the least -/
def minZ (d : D) (ds : List D) : D := ds.foldl (fun x y => if dataLt (D.py y) (D.py x) then y else x) d
theorem fold_rel {K : PySem.W.Frag} {H : Hp} : ∀ {ps : List (V × D)} {p : V × D}, (∀ q ∈ p :: ps, Rel K H q.1 q.2) → ∃ r : V × D, (ps.map fun p => (p.1, D.py p.2)).foldl (fun x y => if dataLt y.2 x.2 then y else x) (p.1, D.py p.2) = (r.1, D.py r.2) ∧ (ps.map (·.2)).foldl (fun x y => if dataLt (D.py y) (D.py x) then y else x) p.2 = r.2 ∧ Rel K H r.1 r.2
  | [], p, h => ⟨p, rfl, rfl, h p List.mem_cons_self⟩
  | q :: ps, p, h => by
    simp only [List.map_cons, List.foldl_cons]
    by_cases k : dataLt (D.py q.2) (D.py p.2) = true
    · rw [if_pos k, if_pos k]
      exact fold_rel fun z hz => h z (List.mem_cons_of_mem _ hz)
    · rw [if_neg k, if_neg k]
      exact fold_rel fun z hz => h z (by rcases List.mem_cons.mp hz with rfl | e; exact List.mem_cons_self; exact List.mem_cons_of_mem _ (List.mem_cons_of_mem _ e))
theorem rc_minD {K : PySem.W.Frag} {μ : M} {Φ : D → M → Prop} {a : Addr} {d : D} {ds : List D} (h : μ a = some (.lst (d :: ds))) (ok : ∀ x ∈ d :: ds, OkN 8 x) (hal : AlikeAll ((d :: ds).map D.py)) (q : Φ (minZ d ds) μ) : RC K (MNX.rMinD K dataLt) [.ref a] μ Φ := fun H xs c r Q k => by
  cases r with
  | cons r rn =>
  cases r; cases rn
  obtain ⟨vs, hv, hr⟩ := c a _ h
  cases hr with
  | cons r1 rr =>
  rename_i v vs
  obtain ⟨z1, z2, z3⟩ := zip_rels rr
  have all : ∀ p ∈ (v, d) :: vs.zip ds, Rel K H p.1 p.2 := fun p hp => by
    rcases List.mem_cons.mp hp with rfl | e
    · exact r1
    · exact z3 p e
  obtain ⟨r, f1, f2, f3⟩ := fold_rel all
  have mz : minZ d ds = r.2 := by rw [← f2, z2]; rfl
  have inD : ∀ p ∈ (v, d) :: vs.zip ds, p.2 ∈ d :: ds := fun p hp => by
    rcases List.mem_cons.mp hp with rfl | e
    · exact List.mem_cons_self
    · exact List.mem_cons_of_mem _ (by rw [← z2]; exact List.mem_map.mpr ⟨p, e, rfl⟩)
  refine ⟨a, (v, D.py d), (vs.zip ds).map fun p => (p.1, D.py p.2), rfl, ?_, fun b hb => ?_, ?_, fun b hb => ?_, ?_⟩
  · rw [List.map_cons, List.map_map]
    rw [show (vs.zip ds).map ((fun x : V × PyData => x.1) ∘ fun p : V × D => (p.1, D.py p.2)) = vs from z1]
    exact SqL.of hv
  · obtain ⟨p, hp, rfl⟩ := List.mem_map.mp (show b ∈ ((v, d) :: vs.zip ds).map fun p => (p.1, D.py p.2) from hb)
    exact Rel.dp _ _ (all p hp) (ok _ (inD p hp)).p
  · rw [List.map_cons, List.map_map]
    have : ((fun x : V × PyData => x.2) ∘ fun p : V × D => (p.1, D.py p.2)) = D.py ∘ (·.2) := rfl
    rw [this, ← List.map_map, z2]
    exact hal
  · obtain ⟨p, hp, rfl⟩ := List.mem_map.mp (show b ∈ ((v, d) :: vs.zip ds).map fun p => (p.1, D.py p.2) from hb)
    exact (ok _ (inD p hp)).d
  · rw [f1]
    rw [mz] at q
    exact k _ _ _ _ Fr.refl c f3 q
end Z
namespace Z
open PySem L2 PySem.W
theorem m_pop0 {K : PySem.W.Frag} {τ : T} {μ : M} {Φ : D → M → Prop} {to te : TE} {a : Addr} {ds : List D} {d : D} (h : AE K to τ μ fun o μ1 => o = .ref a ∧ (∃ es, μ1 a = some (.lst es)) ∧ AE K te τ μ1 fun i μ2 => i = .int 0 ∧ μ2 a = some (.lst (d :: ds)) ∧ Φ d (μ2.set a (.lst ds))) :
    AE K (tBM K "list" rPopAt to (tCons te tNil)) τ μ Φ := fun σ H s c Q k =>
  h σ H s c _ fun o μ1 v H1 f1 c1 r1 ⟨e, ⟨es, he⟩, p1⟩ => by
    subst e
    cases r1
    obtain ⟨xs, hx, hr⟩ := c1 a _ he
    refine ⟨.inl ⟨rfl, xs, SqL.of hx⟩, p1 σ H1 (s.mono (f1.tx c)) c1 _ fun i μ2 u H2 f2 c2 r2 ⟨e0, h2, q⟩ => ?_⟩
    subst e0
    cases r2
    obtain ⟨ys, hy, hr2⟩ := c2 a _ h2
    cases hr2 with
    | cons ra rr =>
    rename_i y ys
    refine ⟨a, y :: ys, 0, 0, y, rfl, rfl, hy, by decide, by decide, ?_, rfl, ?_⟩
    · unfold seqIndex?
      simp
    · exact k _ _ _ _ ((f1.trans f2).trans (fr_mut h2)) (con_mut (m' := .lst ds) c2 h2 ⟨_, upd_same, Rels.mono (tx_mut c2 h2) _ _ rr⟩) (Rel.mono (tx_mut c2 h2) _ _ ra) q
end Z
namespace RZ3
open PySem PySem.Spec PyProof.Rows L2 RZ
end RZ3
namespace Z
open PySem L2 PySem.W RZ3
end Z
namespace Z
open PySem L2 PySem.W
def isN : D → Bool
  | .non => true
  | _ => false
theorem isN_rel {K : PySem.W.Frag} {H : Hp} {x : V} {d : D} (r : Rel K H x d) : decide (x = V.non) = isN d := by
  cases r <;> simp [isN]
theorem ro_isN {K : PySem.W.Frag} {μ : M} {Φ : D → M → Prop} {d : D} (q : Φ (.bl (isN d)) μ) : RO K (fun x y H Q => y = V.non ∧ Q (V.bl (decide (x = V.non))) H) d .non μ Φ := fun H x y c r1 r2 Q k => by
  cases r2
  rw [isN_rel r1]
  exact ⟨rfl, k _ μ _ H Fr.refl c (.bl _) q⟩
theorem ro_notN {K : PySem.W.Frag} {μ : M} {Φ : D → M → Prop} {d : D} (q : Φ (.bl (!isN d)) μ) : RO K (fun x y H Q => y = V.non ∧ Q (V.bl (!decide (x = V.non))) H) d .non μ Φ := fun H x y c r1 r2 Q k => by
  cases r2
  rw [isN_rel r1]
  exact ⟨rfl, k _ μ _ H Fr.refl c (.bl _) q⟩
end Z
namespace EN
open PySem PySem.Spec PyProof.Rows L2
end EN
namespace Z
open PySem L2 EK EN
end Z
namespace Z
open PySem L2 OD PySem.W
theorem depth_ints : ∀ xs : List Int, PyData.depthAll (xs.map PyData.int) = 0
  | [] => rfl
  | x :: xs => by
    have e := depth_ints xs
    simp [PyData.depthAll, PyData.depth, e]
end Z
namespace Z
open PySem L2 PySem.W
end Z
namespace ITT
open PySem PySem.Spec PyProof.Rows L2 PySem.W
end ITT
namespace Z
open PySem L2 ITT PySem.W
end Z
namespace OD2
open PySem PySem.Spec PyProof.Rows L2 PySem.W
end OD2
namespace Z
open PySem L2 OD2 PySem.W
end Z
namespace Z
open PySem L2
def wh : D → Bool
  | .int _ => true
  | _ => false
/-- of a kind that can be asked for -/
def Kd (μ : M) (d : D) : Prop := ∃ n, tyn μ d = some n
theorem kd_int {μ : M} {i : Int} : Kd μ (.int i) := ⟨_, rfl⟩
theorem kd_tup {μ : M} {ds : List D} : Kd μ (.tup ds) := ⟨_, rfl⟩
def wi (d : D) (lo hi : Int) : Bool := match d with
  | .int i => decide (lo ≤ i) && decide (i ≤ hi)
  | _ => false
def ir (d : D) (lo hi : Int) : Bool := match d with
  | .tup xs => decide (lo ≤ xs.length) && decide ((xs.length : Int) ≤ hi)
  | _ => false
def aw (d : D) (m : Int) : Bool := match d with
  | .tup xs => decide ((xs.length : Int) = m) && xs.all wh
  | _ => false
def pr (d : D) (w h l : Int) : Bool := match d with
  | .tup [.int x, .int y, .int f, .int g] => (decide (0 < x) && decide (x < w)) && (decide (0 < y) && decide (y < h)) && (decide (0 ≤ f) && decide (f ≤ g) && decide (g < l))
  | _ => false
/-- where a row of a pin stands -/
def spot : D → List Int
  | .tup (.int x :: .int y :: _) => [x, y]
  | _ => []
def ab (w h p l s : D) : Bool := wi w 2 1000000 && wi h 2 1000000 && wi l 1 3 && wi s 1 1000000 && (match w, h, p, l with
  | .int w, .int h, .tup rows, .int l => decide (rows.length ≤ 16) && rows.all (fun r => pr r w h l) && decide (rows.map spot).Nodup
  | _, _, _, _ => false)
theorem wh_int {d : D} (h : wh d = true) : ∃ i, d = .int i := by
  cases d <;> first | exact ⟨_, rfl⟩ | cases h
theorem wi_int {d : D} {lo hi : Int} (h : wi d lo hi = true) : ∃ i, d = .int i ∧ lo ≤ i ∧ i ≤ hi := by
  cases d <;> first | cases h | skip
  rename_i i
  simp only [wi, Bool.and_eq_true, decide_eq_true_eq] at h
  exact ⟨i, rfl, h⟩
theorem pr_int {d : D} {w h l : Int} (k : pr d w h l = true) : ∃ x y f g : Int, d = .tup [.int x, .int y, .int f, .int g] ∧ (0 < x ∧ x < w) ∧ (0 < y ∧ y < h) ∧ (0 ≤ f ∧ f ≤ g) ∧ g < l := by
  unfold pr at k
  split at k
  · simp only [Bool.and_eq_true, decide_eq_true_eq] at k
    exact ⟨_, _, _, _, rfl, k.1.1, k.1.2, k.2.1, k.2.2⟩
  · cases k
theorem aw_four {d : D} (h : aw d 4 = true) : ∃ x y f g : Int, d = .tup [.int x, .int y, .int f, .int g] := by
  unfold aw at h
  split at h
  · rename_i xs
    simp only [Bool.and_eq_true, decide_eq_true_eq, List.all_eq_true] at h
    obtain ⟨hl, ha⟩ := h
    match xs, hl with
    | [a, b, c, e], _ =>
      obtain ⟨x, rfl⟩ := wh_int (ha a (by simp))
      obtain ⟨y, rfl⟩ := wh_int (ha b (by simp))
      obtain ⟨f, rfl⟩ := wh_int (ha c (by simp))
      obtain ⟨g, rfl⟩ := wh_int (ha e (by simp))
      exact ⟨x, y, f, g, rfl⟩
    | [], e => simp at e
    | [_], e => simp at e
    | [_, _], e => simp at e
    | [_, _, _], e => simp at e
    | _ :: _ :: _ :: _ :: _ :: _, e => simp at e; omega
  · cases h
theorem aw_pr {d : D} {w h l : Int} (k : aw d 4 = false) : pr d w h l = false := by
  cases e : pr d w h l with
  | false => rfl
  | true =>
    obtain ⟨x, y, f, g, rfl, _⟩ := pr_int e
    simp [aw, wh] at k
theorem atI_map {α : Type} {f : α → D} {l : List α} {i : Int} {a : α} (h0 : 0 ≤ i) (h : l[i.toNat]? = some a) : atI (l.map f) i = some (f a) := by
  have hl := (List.getElem?_eq_some_iff.mp h).1
  unfold atI ixN
  rw [if_pos h0, if_pos (by rw [List.length_map]; omega), Option.bind_some, List.getElem?_map, h]
  rfl
end Z
namespace Tch
def ar (a b c : Int × Int) : Int := (b.1 - a.1) * (c.2 - a.2) - (b.2 - a.2) * (c.1 - a.1)
end Tch
namespace Z
open Tch
theorem snoc_ind {α : Type} {P : List α → Prop} (h0 : P []) (h1 : ∀ l a, P l → P (l ++ [a])) (l : List α) : P l := by
  have key : ∀ m : List α, P m.reverse := fun m => by
    induction m with
    | nil => exact h0
    | cons a m ih => rw [List.reverse_cons]; exact h1 _ _ ih
  have := key l.reverse
  rwa [List.reverse_reverse] at this
abbrev Pt := Int × Int
def spAt (sp : List Pt) (p : Int) : Pt := sp.getD p.toNat (0, 0)
/-- whether c lies on the piece from a to b -/
def btw (a b c : Pt) : Bool := decide (ar a b c = 0) && (decide (min a.1 b.1 ≤ c.1) && decide (c.1 ≤ max a.1 b.1)) && (decide (min a.2 b.2 ≤ c.2) && decide (c.2 ≤ max a.2 b.2))
/-- whether two pieces cross properly -/
def crs (a b c d : Pt) : Bool := decide (sgn (ar a b c) * sgn (ar a b d) < 0) && decide (sgn (ar c d a) * sgn (ar c d b) < 0)
def dist (sp : List Pt) (g : Pt) : Int := ((spAt sp g.2).1 - (spAt sp g.1).1) ^ 2 + ((spAt sp g.2).2 - (spAt sp g.1).2) ^ 2
def gkey (sp : List Pt) (g : Pt) : Int × Int × Int := (dist sp g, g.1, g.2)
def hits (sp : List Pt) (pins : List Int) (g : Pt) : Bool := pins.any fun r => !(decide (r = g.1) || decide (r = g.2)) && btw (spAt sp g.1) (spAt sp g.2) (spAt sp r)
def crsG (sp : List Pt) (g g' : Pt) : Bool := crs (spAt sp g.1) (spAt sp g.2) (spAt sp g'.1) (spAt sp g'.2)
def stepG (sp : List Pt) (pins : List Int) (found : List Pt) (g : Pt) : List Pt := if !hits sp pins g && !found.any (fun g' => crsG sp g g') then found ++ [g] else found
def pairsOf (pins : List Int) : List Pt := pins.flatMap fun p => (pins.filter fun q => decide (p < q)).map fun q => (p, q)
def srtG (sp : List Pt) (l : List Pt) : List Pt := l.mergeSort fun a b => !lt3 (gkey sp b) (gkey sp a)
def foundG (sp : List Pt) (pins : List Int) (l : List Pt) : List Pt := l.foldl (stepG sp pins) []
def gatesOf (sp : List Pt) (pins : List Int) : List Pt := (foundG sp pins (srtG sp (pairsOf pins))).mergeSort leP
theorem lt3_irrefl (a : Int × Int × Int) : lt3 a a = false := by
  simp [lt3]
theorem lt3_trans {a b c : Int × Int × Int} (h : lt3 a b = true) (k : lt3 b c = true) : lt3 a c = true := by
  obtain ⟨a1, a2, a3⟩ := a
  obtain ⟨b1, b2, b3⟩ := b
  obtain ⟨c1, c2, c3⟩ := c
  simp only [lt3, Bool.or_eq_true, Bool.and_eq_true, decide_eq_true_eq] at *
  omega
theorem lt3_tri (a b : Int × Int × Int) : lt3 a b = true ∨ a = b ∨ lt3 b a = true := by
  obtain ⟨a1, a2, a3⟩ := a
  obtain ⟨b1, b2, b3⟩ := b
  simp only [lt3, Bool.or_eq_true, Bool.and_eq_true, decide_eq_true_eq, Prod.mk.injEq]
  omega
theorem lt3_asymm {a b : Int × Int × Int} (h : lt3 a b = true) : lt3 b a = false := by
  cases k : lt3 b a with
  | false => rfl
  | true => have := lt3_trans h k; rw [lt3_irrefl] at this; cases this
theorem gkey_inj {sp : List Pt} {g g' : Pt} (h : gkey sp g = gkey sp g') : g = g' := by
  simp only [gkey, Prod.mk.injEq] at h
  exact Prod.ext h.2.1 h.2.2
theorem le3_trans (sp : List Pt) : ∀ a b c : Pt, (!lt3 (gkey sp b) (gkey sp a)) = true → (!lt3 (gkey sp c) (gkey sp b)) = true → (!lt3 (gkey sp c) (gkey sp a)) = true := by
  intro a b c h k
  simp only [Bool.not_eq_true'] at *
  cases e : lt3 (gkey sp c) (gkey sp a) with
  | false => rfl
  | true =>
    rcases lt3_tri (gkey sp b) (gkey sp a) with z | z | z
    · rw [h] at z; cases z
    · rw [z, e] at k; cases k
    · have := lt3_trans e z
      rw [k] at this; cases this
theorem le3_total (sp : List Pt) : ∀ a b : Pt, ((!lt3 (gkey sp b) (gkey sp a)) || !lt3 (gkey sp a) (gkey sp b)) = true := by
  intro a b
  cases h : lt3 (gkey sp b) (gkey sp a) with
  | false => rfl
  | true => rw [lt3_asymm h]; rfl
theorem srt_mem {sp : List Pt} {l : List Pt} {g : Pt} : g ∈ srtG sp l ↔ g ∈ l := (List.mergeSort_perm _ _).mem_iff
theorem srt_lt {sp : List Pt} {l : List Pt} (h : l.Nodup) : (srtG sp l).Pairwise fun a b => lt3 (gkey sp a) (gkey sp b) = true := by
  have h1 := List.pairwise_mergeSort (le := fun a b : Pt => !lt3 (gkey sp b) (gkey sp a)) (le3_trans sp) (le3_total sp) l
  have h2 : (srtG sp l).Nodup := (List.mergeSort_perm _ _).nodup_iff.mpr h
  exact (h1.and h2).imp fun {a b} ⟨h1, h2⟩ => by
    rcases lt3_tri (gkey sp a) (gkey sp b) with z | z | z
    · exact z
    · exact absurd (gkey_inj z) h2
    · rw [z] at h1; cases h1
section
variable {sp : List Pt} {pins : List Int}
theorem foundG_snoc (l : List Pt) (g : Pt) : foundG sp pins (l ++ [g]) = stepG sp pins (foundG sp pins l) g := by
  unfold foundG
  rw [List.foldl_append]
  rfl
theorem foundG_sub : ∀ (l : List Pt) (g : Pt), g ∈ foundG sp pins l → g ∈ l ∧ hits sp pins g = false := by
  intro l
  refine snoc_ind (P := fun l => ∀ g, g ∈ foundG sp pins l → g ∈ l ∧ hits sp pins g = false) ?_ ?_ l
  · intro g h; cases h
  · intro l g0 ih g h
    rw [foundG_snoc] at h
    unfold stepG at h
    split at h
    · rename_i hc
      simp only [Bool.and_eq_true, Bool.not_eq_true'] at hc
      rcases List.mem_append.mp h with z | z
      · exact ⟨List.mem_append_left _ (ih g z).1, (ih g z).2⟩
      · rw [List.mem_singleton.mp z]
        exact ⟨List.mem_append_right _ (List.mem_singleton.mpr rfl), hc.1⟩
    · exact ⟨List.mem_append_left _ (ih g h).1, (ih g h).2⟩
/-- a pair is found just where it is free and nothing found that goes ahead of it crosses it -/
theorem foundG_iff : ∀ (l : List Pt), (l.Pairwise fun a b => lt3 (gkey sp a) (gkey sp b) = true) → ∀ g ∈ l, (g ∈ foundG sp pins l ↔ hits sp pins g = false ∧ ∀ g' ∈ foundG sp pins l, lt3 (gkey sp g') (gkey sp g) = true → crsG sp g g' = false) := by
  intro l
  refine snoc_ind (P := fun l => (l.Pairwise fun a b => lt3 (gkey sp a) (gkey sp b) = true) → ∀ g ∈ l, (g ∈ foundG sp pins l ↔ hits sp pins g = false ∧ ∀ g' ∈ foundG sp pins l, lt3 (gkey sp g') (gkey sp g) = true → crsG sp g g' = false)) ?_ ?_ l
  · intro _ g h; cases h
  · intro l g0 ih hp g hg
    rw [List.pairwise_append] at hp
    obtain ⟨hp1, _, hp2⟩ := hp
    have ahead : ∀ a ∈ l, lt3 (gkey sp a) (gkey sp g0) = true := fun a ha => hp2 a ha g0 (List.mem_singleton.mpr rfl)
    rw [foundG_snoc]
    rcases List.mem_append.mp hg with z | z
    · have ne : g ≠ g0 := fun e => by
        have := ahead g z
        rw [e, lt3_irrefl] at this
        cases this
      have key := ih hp1 g z
      have away : ∀ g', g' ∈ stepG sp pins (foundG sp pins l) g0 → lt3 (gkey sp g') (gkey sp g) = true → g' ∈ foundG sp pins l := fun g' hg' hl => by
        unfold stepG at hg'
        split at hg'
        · rcases List.mem_append.mp hg' with y | y
          · exact y
          · rw [List.mem_singleton.mp y] at hl
            rw [lt3_asymm (ahead g z)] at hl
            cases hl
        · exact hg'
      have into : ∀ g', g' ∈ foundG sp pins l → g' ∈ stepG sp pins (foundG sp pins l) g0 := fun g' hg' => by
        unfold stepG
        split
        · exact List.mem_append_left _ hg'
        · exact hg'
      constructor
      · intro h
        have h2 : g ∈ foundG sp pins l := by
          unfold stepG at h
          split at h
          · rcases List.mem_append.mp h with y | y
            · exact y
            · exact absurd (List.mem_singleton.mp y) ne
          · exact h
        exact ⟨(key.mp h2).1, fun g' hg' hl => (key.mp h2).2 g' (away g' hg' hl) hl⟩
      · intro h
        exact into g (key.mpr ⟨h.1, fun g' hg' hl => h.2 g' (into g' hg') hl⟩)
    · have e : g = g0 := List.mem_singleton.mp z
      subst e
      have out : g ∉ foundG sp pins l := fun h => by
        have := ahead g (foundG_sub l g h).1
        rw [lt3_irrefl] at this
        cases this
      constructor
      · intro h
        unfold stepG at h ⊢
        split at h
        · rename_i hc
          simp only [Bool.and_eq_true, Bool.not_eq_true', List.any_eq_false] at hc
          rw [if_pos (by simp only [Bool.and_eq_true, Bool.not_eq_true', List.any_eq_false]; exact hc)]
          refine ⟨hc.1, fun g' hg' hl => ?_⟩
          rcases List.mem_append.mp hg' with y | y
          · simpa using hc.2 g' y
          · rw [List.mem_singleton.mp y, lt3_irrefl] at hl
            cases hl
        · exact absurd h out
      · intro ⟨h1, h2⟩
        have hc : (!hits sp pins g && !(foundG sp pins l).any fun g' => crsG sp g g') = true := by
          simp only [Bool.and_eq_true, Bool.not_eq_true', List.any_eq_false]
          refine ⟨h1, fun g' hg' => ?_⟩
          have := h2 g' (by
            unfold stepG
            split
            · exact List.mem_append_left _ hg'
            · exact hg') (ahead g' (foundG_sub l g' hg').1)
          simpa using this
        unfold stepG
        rw [if_pos hc]
        exact List.mem_append_right _ (List.mem_singleton.mpr rfl)
end
theorem mem_pairs {pins : List Int} {p q : Int} : (p, q) ∈ pairsOf pins ↔ p ∈ pins ∧ q ∈ pins ∧ p < q := by
  unfold pairsOf
  simp only [List.mem_flatMap, List.mem_map, List.mem_filter, decide_eq_true_eq, Prod.mk.injEq]
  constructor
  · rintro ⟨a, ha, b, ⟨hb, hl⟩, rfl, rfl⟩
    exact ⟨ha, hb, hl⟩
  · rintro ⟨ha, hb, hl⟩
    exact ⟨p, ha, q, ⟨hb, hl⟩, rfl, rfl⟩
theorem nodup_pairs {pins : List Int} (h : pins.Nodup) : (pairsOf pins).Nodup := by
  unfold pairsOf
  unfold List.Nodup
  rw [List.pairwise_flatMap]
  refine ⟨fun p _ => ?_, ?_⟩
  · have h2 : (pins.filter fun q => decide (p < q)).Nodup := h.filter _
    exact h2.map (fun q => (p, q)) fun a b hne e => hne (by simpa using e)
  · refine h.imp fun {a b} hab x hx y hy e => ?_
    simp only [List.mem_map] at hx hy
    obtain ⟨_, _, rfl⟩ := hx
    obtain ⟨_, _, rfl⟩ := hy
    exact hab (Prod.mk.inj e).1
theorem mem_gates {sp : List Pt} {pins : List Int} {g : Pt} : g ∈ gatesOf sp pins ↔ g ∈ foundG sp pins (srtG sp (pairsOf pins)) := (List.mergeSort_perm _ _).mem_iff
theorem gate_pair {sp : List Pt} {pins : List Int} {g : Pt} (h : g ∈ gatesOf sp pins) : g.1 ∈ pins ∧ g.2 ∈ pins ∧ g.1 < g.2 ∧ hits sp pins g = false := by
  obtain ⟨h1, h2⟩ := foundG_sub _ _ (mem_gates.mp h)
  obtain ⟨a, b, c⟩ := mem_pairs.mp (srt_mem.mp h1)
  exact ⟨a, b, c, h2⟩
theorem gate_iff {sp : List Pt} {pins : List Int} (hn : pins.Nodup) {g : Pt} (hg : g ∈ pairsOf pins) : g ∈ gatesOf sp pins ↔ hits sp pins g = false ∧ ∀ g' ∈ gatesOf sp pins, lt3 (gkey sp g') (gkey sp g) = true → crsG sp g g' = false := by
  rw [mem_gates, foundG_iff _ (srt_lt (nodup_pairs hn)) g (srt_mem.mpr hg)]
  constructor
  · rintro ⟨h1, h2⟩
    exact ⟨h1, fun g' hg' => h2 g' (mem_gates.mp hg')⟩
  · rintro ⟨h1, h2⟩
    exact ⟨h1, fun g' hg' => h2 g' (mem_gates.mpr hg')⟩
theorem ar_aa (a b : Pt) : ar a b a = 0 := by simp [ar]
theorem ar_ab (a b : Pt) : ar a b b = 0 := by simp [ar, Int.mul_comm]
/-- a mergeSort of data -/
theorem srtBy_map {α : Type} (key : D → D) (f : α → D) (le : α → α → Bool) (h : ∀ a b, (!PySem.W.dataLt (D.py (key (f b))) (D.py (key (f a)))) = le a b) (l : List α) : srtBy key (l.map f) = (l.mergeSort le).map f := by
  unfold srtBy
  rw [List.map_mergeSort (r := le) (s := PySem.W.dataLe false fun d => D.py (key d)) (f := f) fun a _ b _ => (h a b).symm]
theorem srtD_map {α : Type} (f : α → D) (le : α → α → Bool) (h : ∀ a b, (!PySem.W.dataLt (D.py (f b)) (D.py (f a))) = le a b) (l : List α) : srtD (l.map f) = (l.mergeSort le).map f := srtBy_map id f le h l
theorem lt_pt (a b c d : Int) : (!PySem.W.dataLt (D.py (pt c d)) (D.py (pt a b))) = leP (a, b) (c, d) := le_pt a b c d
abbrev encG (g : Pt) : D := pt g.1 g.2
/-- the program's sorting of pairs -/
theorem srt_pairs (sp : List Pt) (l : List Pt) (key : D → D) (hk : ∀ g : Pt, key (encG g) = t12 (dist sp g) g.1 g.2) : srtBy key (l.map encG) = (srtG sp l).map encG :=
  srtBy_map key encG _ (fun a b => by rw [hk, hk, lt_t12]; rfl) l
theorem srt_found (l : List Pt) : srtD (l.map encG) = (l.mergeSort leP).map encG := srtD_map _ _ (fun a b => lt_pt a.1 a.2 b.1 b.2) l
theorem crs_swap (a b c d : Pt) : crs a b c d = crs c d a b := by
  unfold crs
  rw [Bool.and_comm]
theorem sgn_z : sgn 0 = 0 := rfl
theorem crs_off {a b c d : Pt} (h : crs a b c d = true) : c ≠ a ∧ c ≠ b ∧ d ≠ a ∧ d ≠ b := by
  unfold crs at h
  simp only [Bool.and_eq_true, decide_eq_true_eq] at h
  refine ⟨fun e => ?_, fun e => ?_, fun e => ?_, fun e => ?_⟩
  · rw [e, ar_aa, sgn_z, Int.zero_mul] at h; omega
  · rw [e, ar_ab, sgn_z, Int.zero_mul] at h; omega
  · rw [e, ar_aa, sgn_z, Int.mul_zero] at h; omega
  · rw [e, ar_ab, sgn_z, Int.mul_zero] at h; omega
section
variable {sp : List Pt} {pins : List Int}
theorem hits_no {g : Pt} {r : Int} (h : hits sp pins g = false) (hr : r ∈ pins) (n1 : r ≠ g.1) (n2 : r ≠ g.2) : btw (spAt sp g.1) (spAt sp g.2) (spAt sp r) = false := by
  unfold hits at h
  rw [List.any_eq_false] at h
  have := h r hr
  simpa [n1, n2] using this
theorem crsG_off {g g' : Pt} (h : crsG sp g g' = true) : g'.1 ≠ g.1 ∧ g'.1 ≠ g.2 ∧ g'.2 ≠ g.1 ∧ g'.2 ≠ g.2 := by
  obtain ⟨h1, h2, h3, h4⟩ := crs_off h
  exact ⟨fun e => h1 (by rw [e]), fun e => h2 (by rw [e]), fun e => h3 (by rw [e]), fun e => h4 (by rw [e])⟩
end
abbrev R4 := Int × Int × Int × Int
abbrev encR (r : R4) : D := .tup [.int r.1, .int r.2.1, .int r.2.2.1, .int r.2.2.2]
/-- where the pins of a board are -/
def spots (w h : Int) (rows : List R4) : List (Int × Int) := [(0, 0), (w, 0), (w, h), (0, h)] ++ rows.map fun r => (r.1, r.2.1)
abbrev encS (p : Int × Int) : D := pt p.1 p.2
theorem spots_len {w h : Int} {rows : List R4} : (spots w h rows).length = rows.length + 4 := by
  unfold spots
  simp only [List.length_map, List.length_append, List.length_cons, List.length_nil]
  omega
/-- whether a row of a pin is on a layer -/
def onL (lv : Int) (r : R4) : Bool := decide (r.2.2.1 ≤ lv) && decide (lv ≤ r.2.2.2)
def pinsFrom (lv : Int) : Int → List R4 → List Int
  | _, [] => []
  | k, r :: rs => if onL lv r = true then k :: pinsFrom lv (k + 1) rs else pinsFrom lv (k + 1) rs
/-- the pins of a layer -/
def pinsOf (rows : List R4) (lv : Int) : List Int := [0, 1, 2, 3] ++ pinsFrom lv 4 rows
theorem from_in {lv : Int} : ∀ {rows : List R4} {k p : Int}, p ∈ pinsFrom lv k rows → k ≤ p ∧ p < k + rows.length
  | [], _, _, h => by cases h
  | r :: rs, k, p, h => by
    unfold pinsFrom at h
    have step : p ∈ pinsFrom lv (k + 1) rs → k ≤ p ∧ p < k + (r :: rs).length := fun h => by
      have := from_in h
      rw [List.length_cons]
      omega
    split at h
    · rcases List.mem_cons.mp h with z | z
      · rw [List.length_cons]
        omega
      · exact step z
    · exact step h
theorem from_rise {lv : Int} : ∀ (rows : List R4) (k : Int), (pinsFrom lv k rows).Pairwise (· < ·)
  | [], _ => .nil
  | r :: rs, k => by
    unfold pinsFrom
    split
    · refine .cons (fun p hp => ?_) (from_rise rs (k + 1))
      have := from_in hp
      omega
    · exact from_rise rs (k + 1)
theorem pins_rise (rows : List R4) (lv : Int) : (pinsOf rows lv).Pairwise (· < ·) := by
  unfold pinsOf
  rw [List.pairwise_append]
  refine ⟨by decide, from_rise rows 4, fun a ha b hb => ?_⟩
  have := from_in hb
  simp only [List.mem_cons, List.not_mem_nil, or_false] at ha
  omega
theorem pins_in {rows : List R4} {lv p : Int} (h : p ∈ pinsOf rows lv) : 0 ≤ p ∧ p < rows.length + 4 := by
  unfold pinsOf at h
  rcases List.mem_append.mp h with z | z
  · simp only [List.mem_cons, List.not_mem_nil, or_false] at z
    omega
  · have := from_in z
    omega
theorem pins_nodup (rows : List R4) (lv : Int) : (pinsOf rows lv).Nodup := (pins_rise rows lv).imp fun h e => by omega
theorem from_len {lv : Int} : ∀ (rows : List R4) (k : Int), (pinsFrom lv k rows).length ≤ rows.length
  | [], _ => Nat.le_refl _
  | r :: rs, k => by
    unfold pinsFrom
    have := from_len (lv := lv) rs (k + 1)
    split
    · rw [List.length_cons, List.length_cons]; omega
    · rw [List.length_cons]; omega
theorem pins_len (rows : List R4) (lv : Int) : (pinsOf rows lv).length ≤ rows.length + 4 := by
  unfold pinsOf
  have := from_len (lv := lv) rows 4
  rw [List.length_append]
  simp only [List.length_cons, List.length_nil]
  omega
/-- as the program's comprehension has them -/
theorem from_enum {lv : Int} (p : D → Bool) (f : D → D) (hp : ∀ k r, p (.tup [.int k, encR r]) = onL lv r) (hf : ∀ k r, f (.tup [.int k, encR r]) = .int k) : ∀ (rows : List R4) (k : Int), ((enumD k (rows.map encR)).filter p).map f = (pinsFrom lv k rows).map D.int
  | [], _ => rfl
  | r :: rs, k => by
    have ih := from_enum p f hp hf rs (k + 1)
    rw [List.map_cons, enumD, List.filter_cons, hp, pinsFrom]
    split
    · rw [List.map_cons, List.map_cons, hf, ih]
    · exact ih
/-- whether a three is not in line and no pin lies within -/
def emptyT (sp : List Pt) (pins : List Int) (t : Int × Int × Int) : Bool :=
  let s := sgn (ar (spAt sp t.1) (spAt sp t.2.1) (spAt sp t.2.2))
  !decide (s = 0) && pins.all fun r => !(decide (sgn (ar (spAt sp t.1) (spAt sp t.2.1) (spAt sp r)) = s) && (decide (sgn (ar (spAt sp t.2.1) (spAt sp t.2.2) (spAt sp r)) = s) && decide (sgn (ar (spAt sp t.2.2) (spAt sp t.1) (spAt sp r)) = s)))
def trisOf (sp : List Pt) (pins : List Int) (gates : List Pt) : List (Int × Int × Int) :=
  gates.flatMap fun g => ((pins.filter fun r => decide (g.2 < r) && (decide ((g.1, r) ∈ gates) && decide ((g.2, r) ∈ gates))).map fun r => (g.1, g.2, r)).filter (emptyT sp pins)
abbrev encT (t : Int × Int × Int) : D := t3 t.1 t.2.1 t.2.2
abbrev gOf (w h : Int) (rows : List R4) (lv : Int) : List Pt := gatesOf (spots w h rows) (pinsOf rows lv)
abbrev gatesD (w h : Int) (rows : List R4) (lv : Int) : D := .tup ((gOf w h rows lv).map encG)
abbrev trisD (w h : Int) (rows : List R4) (lv : Int) : D := .tup ((trisOf (spots w h rows) (pinsOf rows lv) (gOf w h rows lv)).map encT)
/-- where a pin of a drawn board lies -/
abbrev Inn (p : Int × Int) : Prop := (0 ≤ p.1 ∧ p.1 ≤ 900000) ∧ 0 ≤ p.2 ∧ p.2 ≤ 900000
theorem inn_sz {p : Int × Int} (h : Inn p) : Sz 60 p.1 ∧ Sz 60 p.2 := by
  obtain ⟨⟨a, b⟩, c, d⟩ := h
  exact ⟨by unfold Sz; omega, by unfold Sz; omega⟩
theorem spAt_inn {sp : List Pt} (h : ∀ p ∈ sp, Inn p) (i : Int) : Inn (spAt sp i) := by
  unfold spAt
  rw [List.getD_eq_getElem?_getD]
  cases e : sp[i.toNat]? with
  | none => simp
  | some p => exact h p (List.mem_of_getElem? e)
theorem spAt_at {sp : List Pt} {i : Int} (h0 : 0 ≤ i) (h1 : i < sp.length) : sp[i.toNat]? = some (spAt sp i) := by
  unfold spAt
  have h : i.toNat < sp.length := by omega
  rw [List.getD_eq_getElem?_getD, List.getElem?_eq_getElem h]
  rfl
theorem eqv_dec {d e : D} (h : D.it d = true) (k : D.it e = true) : D.eqv d e = true ↔ d = e := eqv_it d e h k
theorem eqv_ii (p r : Int) : D.eqv (.int p) (.int r) = decide (r = p) := by
  have key := eqv_dec (d := .int p) (e := .int r) rfl rfl
  by_cases h : r = p
  · rw [decide_eq_true h, key, h]
  · rw [decide_eq_false h]
    cases e : D.eqv (.int p) (.int r) with
    | false => rfl
    | true => exact absurd (D.int.inj (key.mp e)).symm h
theorem inD_ii (r p q : Int) : inD (.int r) [.int p, .int q] = (decide (r = p) || decide (r = q)) := by
  unfold inD
  rw [List.any_cons, List.any_cons, List.any_nil, Bool.or_false, eqv_ii, eqv_ii]
theorem sgn_zero (n : Int) : decide (sgn n = 0) = decide (n = 0) := by
  unfold sgn
  by_cases h1 : 0 < n
  · rw [if_pos h1]; have : ¬ n = 0 := by omega
    simp [this]
  · rw [if_neg h1]
    by_cases h2 : n < 0
    · rw [if_pos h2]; have : ¬ n = 0 := by omega
      simp [this]
    · rw [if_neg h2]; have : n = 0 := by omega
      simp [this]
def keyD (sp : List Pt) : D → D
  | .tup [.int p, .int q] => t12 (dist sp (p, q)) p q
  | _ => .non
theorem okn_t3 {a b c : Int} : OkN 1 (t3 a b c) := okn_tup fun z hz => by
  simp only [List.mem_cons, List.not_mem_nil, or_false] at hz
  rcases hz with rfl | rfl | rfl <;> exact okn_int
theorem okn_t12 {a b c : Int} : OkN 2 (t12 a b c) := okn_tup fun z hz => by
  simp only [List.mem_cons, List.not_mem_nil, or_false] at hz
  rcases hz with rfl | rfl
  · exact okn_int.mono (by decide)
  · exact okn_pt
theorem py_cons (d : D) (ds : List D) : D.py (.tup (d :: ds)) = .tuple (D.py d :: D.pys ds) := by simp only [D.py, D.pys]
theorem sortable_of {α : Type} {F : α → PySem.PyData} {l : List α} (h : ∀ x ∈ l, ∃ y r, F x = .tuple (y :: r)) : PySem.W.Sortable (l.map F) := .inl fun d hd => by
  obtain ⟨x, hx, rfl⟩ := List.mem_map.mp hd
  exact h x hx
theorem alike_of {α : Type} {F : α → PySem.PyData} {l : List α} (h : ∀ x ∈ l, ∀ y ∈ l, PySem.W.alike (F x) (F y) = true) : PySem.W.AllAlike (l.map F) := fun d hd e he => by
  obtain ⟨x, hx, rfl⟩ := List.mem_map.mp hd
  obtain ⟨y, hy, rfl⟩ := List.mem_map.mp he
  exact h x hx y hy
theorem key_alike (sp : List Pt) (l : List Pt) : PySem.W.AllAlike ((l.map encG).map fun x => D.py (keyD sp x)) := alike_of fun x hx y hy => by
  obtain ⟨g, _, rfl⟩ := List.mem_map.mp hx
  obtain ⟨g', _, rfl⟩ := List.mem_map.mp hy
  simp [keyD, D.py, D.pys, PySem.W.alike, PySem.W.alikeAll]
theorem key_sortable (sp : List Pt) (l : List Pt) : PySem.W.Sortable ((l.map encG).map fun x => D.py (keyD sp x)) := sortable_of fun x hx => by
  obtain ⟨g, _, rfl⟩ := List.mem_map.mp hx
  exact ⟨_, _, py_cons _ _⟩
theorem pt_alike (l : List Pt) : PySem.W.AllAlike ((l.map encG).map D.py) := alike_of fun x hx y hy => by
  obtain ⟨g, _, rfl⟩ := List.mem_map.mp hx
  obtain ⟨g', _, rfl⟩ := List.mem_map.mp hy
  simp [D.py, D.pys, PySem.W.alike, PySem.W.alikeAll]
theorem pt_sortable (l : List Pt) : PySem.W.Sortable ((l.map encG).map D.py) := sortable_of fun x hx => by
  obtain ⟨g, _, rfl⟩ := List.mem_map.mp hx
  exact ⟨_, _, py_cons _ _⟩
theorem t3_alike {α : Type} (f : α → Int × Int × Int) (l : List α) : PySem.W.AllAlike ((l.map fun g => t3 (f g).1 (f g).2.1 (f g).2.2).map D.py) := alike_of fun x hx y hy => by
  obtain ⟨g, _, rfl⟩ := List.mem_map.mp hx
  obtain ⟨g', _, rfl⟩ := List.mem_map.mp hy
  simp [D.py, D.pys, PySem.W.alike, PySem.W.alikeAll]
theorem t3_sortable {α : Type} (f : α → Int × Int × Int) (l : List α) : PySem.W.Sortable ((l.map fun g => t3 (f g).1 (f g).2.1 (f g).2.2).map D.py) := sortable_of fun x hx => by
  obtain ⟨g, _, rfl⟩ := List.mem_map.mp hx
  exact ⟨_, _, py_cons _ _⟩
theorem foundG_len {sp : List Pt} {pins : List Int} (l : List Pt) : (foundG sp pins l).length ≤ l.length := by
  refine snoc_ind (P := fun l => (foundG sp pins l).length ≤ l.length) (Nat.le_refl _) (fun l g ih => ?_) l
  rw [foundG_snoc, stepG, List.length_append]
  split
  · rw [List.length_append]
    simp only [List.length_cons, List.length_nil]
    omega
  · simp only [List.length_cons, List.length_nil]
    omega
/-- layers that are kept -/
def Lvs (l : Int) (gl : List Int) : Prop := gl.Nodup ∧ ∀ v ∈ gl, 0 ≤ v ∧ v < l
theorem lvs_nil {l : Int} : Lvs l [] := ⟨List.nodup_nil, fun _ h => (by cases h)⟩
theorem lvs_len {l : Int} {gl : List Int} (h : Lvs l gl) (hl : l ≤ 3) : gl.length ≤ 3 := by
  refine List.Nodup.length_le_of_subset (l₂ := [0, 1, 2]) h.1 fun v hv => ?_
  have := h.2 v hv
  simp only [List.mem_cons, List.not_mem_nil, or_false]
  omega
theorem lvs_snoc {l lv : Int} {gl : List Int} (h : Lvs l gl) (n : lv ∉ gl) (h0 : 0 ≤ lv) (h1 : lv < l) : Lvs l (gl ++ [lv]) := by
  refine ⟨?_, fun v hv => ?_⟩
  · rw [List.nodup_append]
    exact ⟨h.1, by simp, fun a ha b hb e => n (by rw [← List.mem_singleton.mp hb, ← e]; exact ha)⟩
  · rcases List.mem_append.mp hv with z | z
    · exact h.2 v z
    · rw [List.mem_singleton.mp z]; exact ⟨h0, h1⟩
end Z
namespace Z
open Tch
theorem pos_mul {a b : Int} (h : 0 < a) (k : 0 < b) : 0 < a * b := Int.mul_pos h k
theorem neg_mul' {a b : Int} (h : a < 0) (k : 0 < b) : a * b < 0 := Int.mul_neg_of_neg_of_pos h k
theorem mul_neg' {a b : Int} (h : 0 < a) (k : b < 0) : a * b < 0 := Int.mul_neg_of_pos_of_neg h k
theorem neg_neg' {a b : Int} (h : a < 0) (k : b < 0) : 0 < a * b := Int.mul_pos_of_neg_of_neg h k
/-- sign of a factor -/
theorem fac_pos {a b : Int} (h : 0 < a * b) (k : 0 < a) : 0 < b := by
  rcases Int.lt_trichotomy b 0 with z | z | z
  · have := mul_neg' k z; omega
  · subst z; simp at h
  · exact z
theorem fac_neg {a b : Int} (h : a * b < 0) (k : 0 < a) : b < 0 := by
  rcases Int.lt_trichotomy b 0 with z | z | z
  · exact z
  · subst z; simp at h
  · have := pos_mul k z; omega
theorem fac_pos' {a b : Int} (h : 0 < a * b) (k : a < 0) : b < 0 := by
  rcases Int.lt_trichotomy b 0 with z | z | z
  · exact z
  · subst z; simp at h
  · have := neg_mul' k z; omega
theorem fac_neg' {a b : Int} (h : a * b < 0) (k : a < 0) : 0 < b := by
  rcases Int.lt_trichotomy b 0 with z | z | z
  · have := neg_neg' k z; omega
  · subst z; simp at h
  · exact z
theorem nn_np {a b : Int} (h : 0 ≤ a) (k : b ≤ 0) : a * b ≤ 0 := Int.mul_nonpos_of_nonneg_of_nonpos h k
theorem np_nn {a b : Int} (h : a ≤ 0) (k : 0 ≤ b) : a * b ≤ 0 := Int.mul_nonpos_of_nonpos_of_nonneg h k
theorem nn_nn {a b : Int} (h : 0 ≤ a) (k : 0 ≤ b) : 0 ≤ a * b := Int.mul_nonneg h k
theorem np_np {a b : Int} (h : a ≤ 0) (k : b ≤ 0) : 0 ≤ a * b := Int.mul_nonneg_of_nonpos_of_nonpos h k
/-- a piece that goes by a pin c within three, one of its ends nearer to the tip, beyond the side of b: it crosses a side -/
theorem core_b {bc gc ad bd gd ae be ge la lb lr sD sE ac : Int} (hac : 0 ≤ ac) (hbc : 0 < bc) (hgc : 0 < gc) (hsD : sD = bc * gd - gc * bd) (hsE : sE = bc * ge - gc * be)
    (hla : la = bd * ge - be * gd) (hlb : lb = gd * ae - ge * ad) (hlr : lr = ad * be - ae * bd) (pD : 0 < sD) (nE : sE < 0) (nla : la < 0) (plc : 0 < ac * la + bc * lb + gc * lr) (hae : ac < ae) (out : ¬(0 ≤ be ∧ 0 ≤ ge))
    (n1 : ¬(gd * ge < 0 ∧ la * lb < 0)) (n2 : ¬(bd * be < 0 ∧ la * lr < 0)) : False := by
  have pae : 0 < ae := by omega
  have nge : ge < 0 := by
    by_cases h : 0 ≤ be
    · by_cases k : 0 ≤ ge
      · exact absurd ⟨h, k⟩ out
      · omega
    · have h1 := mul_neg' hgc (show be < 0 by omega)
      exact fac_neg (show bc * ge < 0 by omega) hbc
  have pgd : 0 < gd := by
    have e : sD * ge - sE * gd = -(gc * la) := by subst hsD hsE hla; grind
    have h1 := mul_neg' hgc nla
    have h2 := mul_neg' pD nge
    exact fac_neg' (show sE * gd < 0 by omega) nE
  have h3 := mul_neg' pgd nge
  have nlb : lb ≤ 0 := by
    rcases Int.lt_trichotomy lb 0 with z | z | z
    · omega
    · omega
    · exact absurd ⟨h3, neg_mul' nla z⟩ n1
  have plr : 0 < lr := by
    have h4 := nn_np hac (show la ≤ 0 by omega)
    have h5 := nn_np (show 0 ≤ bc by omega) nlb
    exact fac_pos (show 0 < gc * lr by omega) hgc
  have h6 := neg_mul' nla plr
  by_cases hbe : be < 0
  · have h7 := neg_mul' hbe pgd
    have h8 : 0 < bd := by
      have h9 : ge * bd < 0 := by rw [Int.mul_comm]; omega
      exact fac_neg' h9 nge
    exact n2 ⟨mul_neg' h8 hbe, h6⟩
  · have h7 := pos_mul pgd pae
    have had : ad < 0 := fac_pos' (show 0 < ge * ad by omega) nge
    have h8 := np_nn (show ad ≤ 0 by omega) (show 0 ≤ be by omega)
    have hbd : bd < 0 := fac_neg (show ae * bd < 0 by omega) pae
    rcases Int.lt_trichotomy be 0 with z | z | z
    · omega
    · have h9 := neg_neg' hbd nge
      subst z
      simp at hla
      omega
    · exact n2 ⟨neg_mul' hbd z, h6⟩
/-- .. its end nearer to the tip beyond the side of r -/
theorem core_r {bc gc ad bd gd ae be ge la lb lr sD sE ac : Int} (hac : 0 ≤ ac) (hbc : 0 < bc) (hgc : 0 < gc) (hsD : sD = bc * gd - gc * bd) (hsE : sE = bc * ge - gc * be)
    (hla : la = bd * ge - be * gd) (hlb : lb = gd * ae - ge * ad) (hlr : lr = ad * be - ae * bd) (pD : 0 < sD) (nE : sE < 0) (nla : la < 0) (plc : 0 < ac * la + bc * lb + gc * lr) (had : ac < ad) (out : ¬(0 ≤ bd ∧ 0 ≤ gd))
    (n1 : ¬(gd * ge < 0 ∧ la * lb < 0)) (n2 : ¬(bd * be < 0 ∧ la * lr < 0)) : False := by
  refine core_b (bc := gc) (gc := bc) (ad := ae) (bd := ge) (gd := be) (ae := ad) (be := gd) (ge := bd) (la := la) (lb := lr) (lr := lb) (sD := -sE) (sE := -sD) (ac := ac) hac hgc hbc (by subst hsE; grind) (by subst hsD; grind) (by subst hla; grind) (by subst hlr; grind) (by subst hlb; grind) (by omega) (by omega) nla (by omega) had (fun h => out ⟨h.2, h.1⟩) (fun h => n2 ⟨?_, h.2⟩) (fun h => n1 ⟨?_, h.2⟩)
  · have := h.1
    rw [Int.mul_comm] at this
    exact this
  · have := h.1
    rw [Int.mul_comm] at this
    exact this
/-- a piece over the side that faces the tip: it crosses another one -/
theorem core2 {D au bu gu av bv gv la lb lr : Int} (hD : 0 < D) (su : au + bu + gu = D) (sv : av + bv + gv = D) (hla : la = bu * gv - bv * gu) (hlb : lb = gu * av - gv * au) (hlr : lr = au * bv - av * bu)
    (pu : 0 < au) (nv : av < 0) (opp : lb * lr < 0) (na : la ≠ 0) (hg : gu < 0) (n1 : ¬(gu * gv < 0 ∧ la * lb < 0)) (n2 : ¬(bu * bv < 0 ∧ la * lr < 0)) : False := by
  rcases Int.lt_trichotomy lb 0 with z | z | z
  · have plr := fac_neg' opp z
    have h1 := neg_neg' hg nv
    have hgv : 0 < gv := by
      have h2 : 0 < au * gv := by rw [Int.mul_comm]; omega
      exact fac_pos h2 pu
    have h3 := neg_mul' hg hgv
    have nla : la < 0 := by
      rcases Int.lt_trichotomy la 0 with y | y | y
      · exact y
      · exact absurd y na
      · exact absurd ⟨h3, mul_neg' y z⟩ n1
    have h4 := neg_mul' nla plr
    rcases Int.lt_trichotomy bu 0 with y | y | y
    · have h5 := neg_neg' nv y
      have h6 : 0 < bv := fac_pos (show 0 < au * bv by omega) pu
      exact n2 ⟨neg_mul' y h6, h4⟩
    · subst y
      simp at hla hlr
      have h6 : 0 < bv := fac_pos (show 0 < au * bv by omega) pu
      have h7 := mul_neg' h6 hg
      omega
    · have h5 := pos_mul y hgv
      have h6 : bv < 0 := by
        have h7 : 0 < gu * bv := by rw [Int.mul_comm]; omega
        exact fac_pos' h7 hg
      exact n2 ⟨mul_neg' y h6, h4⟩
  · subst z; simp at opp
  · have nlr := fac_neg opp z
    rcases Int.lt_trichotomy la 0 with y | y | y
    · have hgv : gv ≤ 0 := by
        by_cases h : 0 < gv
        · exact absurd ⟨neg_mul' hg h, neg_mul' y z⟩ n1
        · omega
      have hbv : 0 < bv := by omega
      have h1 := pos_mul pu hbv
      have hbu : bu < 0 := fac_pos' (show 0 < av * bu by omega) nv
      have h2 := np_np (show bu ≤ 0 by omega) hgv
      have h3 := mul_neg' hbv hg
      omega
    · exact na y
    · have h4 := mul_neg' y nlr
      rcases Int.lt_trichotomy bu 0 with x | x | x
      · have hbv : bv ≤ 0 := by
          by_cases h : 0 < bv
          · exact absurd ⟨neg_mul' x h, h4⟩ n2
          · omega
        have hgv : 0 < gv := by omega
        have h5 := neg_mul' x hgv
        have h6 := np_np hbv (show gu ≤ 0 by omega)
        omega
      · subst x
        simp at hla hlr
        have h6 : bv < 0 := fac_neg (show au * bv < 0 by omega) pu
        have h7 := neg_neg' h6 hg
        omega
      · have h5 := neg_mul' nv x
        have h6 : bv < 0 := fac_neg (show au * bv < 0 by omega) pu
        exact n2 ⟨mul_neg' x h6, h4⟩
/-- two pieces cross -/
def X (a b c d : Pt) : Prop := ar a b c * ar a b d < 0 ∧ ar c d a * ar c d b < 0
theorem X_swap {a b c d : Pt} : X a b c d ↔ X c d a b := ⟨fun h => ⟨h.2, h.1⟩, fun h => ⟨h.2, h.1⟩⟩
theorem ar_flip (a b c : Pt) : ar b a c = - ar a b c := by unfold ar; grind
theorem ar_rot (a b c : Pt) : ar a b c = ar b c a := by unfold ar; grind
theorem neg_neg_mul (x y : Int) : (-x) * (-y) = x * y := by grind
theorem X_flip1 {a b c d : Pt} : X a b c d ↔ X b a c d := by
  unfold X
  rw [ar_flip a b c, ar_flip a b d, neg_neg_mul, Int.mul_comm (ar c d b)]
theorem X_flip2 {a b c d : Pt} : X a b c d ↔ X a b d c := by rw [X_swap, X_flip1, X_swap]
theorem scale_neg {D x y : Int} (hD : 0 < D) (h : (D * x) * (D * y) < 0) : x * y < 0 := by
  rcases Int.lt_trichotomy (D * x) 0 with z | z | z
  · exact neg_mul' (fac_neg z hD) (fac_pos (fac_neg' h z) hD)
  · rw [z] at h; simp at h
  · exact mul_neg' (fac_pos z hD) (fac_neg (fac_neg h z) hD)
theorem id_s (a b r c d : Pt) : ar a b r * ar a c d = ar a c r * ar a b d - ar a b c * ar a d r := by unfold ar; grind
theorem id_la (a b r d e : Pt) : ar a b r * ar d e a = ar a d r * ar a b e - ar a e r * ar a b d := by unfold ar; grind
theorem id_lb (a b r d e : Pt) : ar a b r * ar d e b = ar a b d * ar b r e - ar a b e * ar b r d := by unfold ar; grind
theorem id_lr (a b r d e : Pt) : ar a b r * ar d e r = ar b r d * ar a e r - ar b r e * ar a d r := by unfold ar; grind
theorem id_c (a b r c d e : Pt) : ar b r c * ar d e a + ar a c r * ar d e b + ar a b c * ar d e r = ar a b r * ar d e c := by unfold ar; grind
theorem id_sum (a b r p : Pt) : ar b r p + ar a p r + ar a b p = ar a b r := by unfold ar; grind
theorem id_or (a c d e : Pt) : ar a c d - ar a c e = ar d e c - ar d e a := by unfold ar; grind
theorem id_h (a b r c d e : Pt) : ar a c d * ar b r e - ar a c e * ar b r d = ar d e c * ar a b r - ar d e a * ar b r c := by unfold ar; grind
theorem X_ab {a b r d e : Pt} (hD : 0 < ar a b r) (h1 : ar a b d * ar a b e < 0) (h2 : (ar a b r * ar d e a) * (ar a b r * ar d e b) < 0) : X a b d e := ⟨h1, scale_neg hD h2⟩
theorem X_ar {a b r d e : Pt} (hD : 0 < ar a b r) (h1 : ar a d r * ar a e r < 0) (h2 : (ar a b r * ar d e a) * (ar a b r * ar d e r) < 0) : X a r d e := by
  refine ⟨?_, scale_neg hD h2⟩
  have e1 : ar a r d = - ar a d r := by unfold ar; grind
  have e2 : ar a r e = - ar a e r := by unfold ar; grind
  rw [e1, e2, neg_neg_mul]
  exact h1
theorem geo1o {a b r c d e : Pt} (hD : 0 < ar a b r) (h1 : 0 < ar a b c) (h2 : 0 < ar a c r) (h3 : 0 ≤ ar b r c) (hx : X a c d e) (pD : 0 < ar a c d) (nE : ar a c e < 0) (hout : ∀ u, u = d ∨ u = e → ar b r c < ar b r u → ¬(0 ≤ ar a u r ∧ 0 ≤ ar a b u)) (n1 : ¬X a b d e) (n2 : ¬X a r d e) : False := by
  have eo := id_or a c d e
  have hl : ar d e a < 0 ∧ 0 < ar d e c := by
    rcases Int.lt_trichotomy (ar d e a) 0 with z | z | z
    · exact ⟨z, fac_neg' hx.2 z⟩
    · have := hx.2; rw [z] at this; simp at this
    · have := fac_neg hx.2 z; omega
  obtain ⟨nla, plc⟩ := hl
  have es := id_sum a b r c
  have eh := id_h a b r c d e
  have ec := id_c a b r c d e
  have m1 : ¬((ar a b d) * (ar a b e) < 0 ∧ (ar a b r * ar d e a) * (ar a b r * ar d e b) < 0) := fun h => n1 (X_ab hD h.1 h.2)
  have m2 : ¬((ar a d r) * (ar a e r) < 0 ∧ (ar a b r * ar d e a) * (ar a b r * ar d e r) < 0) := fun h => n2 (X_ar hD h.1 h.2)
  have q1 := mul_neg' hD nla
  have q2 : 0 < ar b r c * (ar a b r * ar d e a) + ar a c r * (ar a b r * ar d e b) + ar a b c * (ar a b r * ar d e r) := by
    have h := pos_mul hD (pos_mul hD plc)
    have e9 : ar b r c * (ar a b r * ar d e a) + ar a c r * (ar a b r * ar d e b) + ar a b c * (ar a b r * ar d e r) = ar a b r * (ar b r c * ar d e a + ar a c r * ar d e b + ar a b c * ar d e r) := by grind
    rw [e9, ec]
    exact h
  have q3 := pos_mul hD pD
  have q4 := mul_neg' hD nE
  have sD : ar a b r * ar a c d = ar a c r * ar a b d - ar a b c * ar a d r := id_s a b r c d
  have sE : ar a b r * ar a c e = ar a c r * ar a b e - ar a b c * ar a e r := id_s a b r c e
  by_cases k : ar b r c < ar b r e
  · exact core_b h3 h2 h1 sD sE (id_la a b r d e) (id_lb a b r d e) (id_lr a b r d e) q3 q4 q1 q2 k (hout e (.inr rfl) k) m1 m2
  by_cases k2 : ar b r c < ar b r d
  · exact core_r h3 h2 h1 sD sE (id_la a b r d e) (id_lb a b r d e) (id_lr a b r d e) q3 q4 q1 q2 k2 (hout d (.inl rfl) k2) m1 m2
  have w1 := nn_np (show 0 ≤ ar a c d by omega) (show ar b r e - ar b r c ≤ 0 by omega)
  have w2 := np_np (show ar a c e ≤ 0 by omega) (show ar b r d - ar b r c ≤ 0 by omega)
  have w3 := pos_mul plc (show 0 < ar a b r - ar b r c by omega)
  have e8 : ar a c d * (ar b r e - ar b r c) - ar a c e * (ar b r d - ar b r c) = ar d e c * (ar a b r - ar b r c) := by
    have e7 : (ar a c d - ar a c e) * ar b r c = (ar d e c - ar d e a) * ar b r c := by rw [eo]
    grind
  omega
theorem geo1 {a b r c d e : Pt} (hD : 0 < ar a b r) (h1 : 0 < ar a b c) (h2 : 0 < ar a c r) (h3 : 0 ≤ ar b r c) (hx : X a c d e) (hout : ∀ u, u = d ∨ u = e → ar b r c < ar b r u → ¬(0 ≤ ar a u r ∧ 0 ≤ ar a b u)) (n1 : ¬X a b d e) (n2 : ¬X a r d e) : False := by
  rcases Int.lt_trichotomy (ar a c d) 0 with z | z | z
  · exact geo1o hD h1 h2 h3 (X_flip2.mp hx) (fac_neg' hx.1 z) z (fun u h => hout u h.symm) (fun h => n1 (X_flip2.mp h)) (fun h => n2 (X_flip2.mp h))
  · have := hx.1; rw [z] at this; simp at this
  · exact geo1o hD h1 h2 h3 hx z (fac_neg hx.1 z) hout n1 n2
/-- a piece over the side b r crosses another side, or a lies on it, or it ends within -/
theorem geo2o {a b r u v : Pt} (hD : 0 < ar a b r) (hx : X b r u v) (pu : 0 < ar b r u) (na : ar u v a ≠ 0) (hout : ¬(0 ≤ ar a u r ∧ 0 ≤ ar a b u)) (n1 : ¬X a b u v) (n2 : ¬X a r u v) : False := by
  have nv := fac_neg hx.1 pu
  have m1 : ¬((ar a b u) * (ar a b v) < 0 ∧ (ar a b r * ar u v a) * (ar a b r * ar u v b) < 0) := fun h => n1 (X_ab hD h.1 h.2)
  have m2 : ¬((ar a u r) * (ar a v r) < 0 ∧ (ar a b r * ar u v a) * (ar a b r * ar u v r) < 0) := fun h => n2 (X_ar hD h.1 h.2)
  have opp : (ar a b r * ar u v b) * (ar a b r * ar u v r) < 0 := by
    rcases Int.lt_trichotomy (ar u v b) 0 with z | z | z
    · exact neg_mul' (mul_neg' hD z) (pos_mul hD (fac_neg' hx.2 z))
    · have := hx.2; rw [z] at this; simp at this
    · exact mul_neg' (pos_mul hD z) (mul_neg' hD (fac_neg hx.2 z))
  have na' : ar a b r * ar u v a ≠ 0 := fun z => by
    rcases Int.mul_eq_zero.mp z with y | y
    · omega
    · exact na y
  by_cases hg : ar a b u < 0
  · exact core2 hD (id_sum a b r u) (id_sum a b r v) (id_la a b r u v) (id_lb a b r u v) (id_lr a b r u v) pu nv opp na' hg m1 m2
  · have hb : ar a u r < 0 := by
      by_cases k : 0 ≤ ar a u r
      · exact absurd ⟨k, by omega⟩ hout
      · omega
    refine core2 (D := ar a b r) (au := ar b r u) (bu := ar a b u) (gu := ar a u r) (av := ar b r v) (bv := ar a b v) (gv := ar a v r) (la := -(ar a b r * ar u v a)) (lb := -(ar a b r * ar u v r)) (lr := -(ar a b r * ar u v b)) hD (by have := id_sum a b r u; omega) (by have := id_sum a b r v; omega) ?_ ?_ ?_ pu nv ?_ (by omega) hb (fun h => m2 ⟨h.1, ?_⟩) (fun h => m1 ⟨h.1, ?_⟩)
    · rw [id_la a b r u v]; grind
    · rw [id_lr a b r u v]; grind
    · rw [id_lb a b r u v]; grind
    · rw [neg_neg_mul, Int.mul_comm]; exact opp
    · rw [← neg_neg_mul]; exact h.2
    · rw [← neg_neg_mul]; exact h.2
/-- c lies on the piece from a to b, by areas of another side -/
theorem btw_tri {a b r c : Pt} (hD : 0 < ar a b r) (h0 : ar a b c = 0) (h1 : 0 ≤ ar a c r) (h2 : 0 ≤ ar b r c) : btw a b c = true := by
  have es := id_sum a b r c
  have e1 : ar a b r * (c.1 - a.1) = ar a c r * (b.1 - a.1) + ar a b c * (r.1 - a.1) := by unfold ar; grind
  have e2 : ar a b r * (c.2 - a.2) = ar a c r * (b.2 - a.2) + ar a b c * (r.2 - a.2) := by unfold ar; grind
  rw [h0] at e1 e2 es
  generalize ar a b r = D at *
  generalize ar a c r = s at *
  have key : ∀ x y z : Int, D * (z - x) = s * (y - x) → min x y ≤ z ∧ z ≤ max x y := by
    intro x y z e
    have hs : s ≤ D := by omega
    rcases Int.le_total x y with h | h
    · have k1 := nn_nn h1 (show 0 ≤ y - x by omega)
      have k2 : 0 ≤ z - x := by
        by_cases q : 0 ≤ z - x
        · exact q
        · have := mul_neg' hD (show z - x < 0 by omega); omega
      have k3 := nn_nn (show 0 ≤ D - s by omega) (show 0 ≤ y - x by omega)
      have k4 : 0 ≤ y - z := by
        by_cases q : 0 ≤ y - z
        · exact q
        · have k5 := mul_neg' hD (show y - z < 0 by omega)
          have e9 : D * (y - z) = (D - s) * (y - x) := by grind
          omega
      omega
    · have k1 := nn_np h1 (show y - x ≤ 0 by omega)
      have k2 : z - x ≤ 0 := by
        by_cases q : z - x ≤ 0
        · exact q
        · have := pos_mul hD (show 0 < z - x by omega); omega
      have k3 := nn_np (show 0 ≤ D - s by omega) (show y - x ≤ 0 by omega)
      have k4 : y - z ≤ 0 := by
        by_cases q : y - z ≤ 0
        · exact q
        · have k5 := pos_mul hD (show 0 < y - z by omega)
          have e9 : D * (y - z) = (D - s) * (y - x) := by grind
          omega
      omega
  obtain ⟨k1, k2⟩ := key _ _ _ (show D * (c.1 - a.1) = s * (b.1 - a.1) by omega)
  obtain ⟨k3, k4⟩ := key _ _ _ (show D * (c.2 - a.2) = s * (b.2 - a.2) by omega)
  unfold btw
  rw [decide_eq_true h0, decide_eq_true k1, decide_eq_true k2, decide_eq_true k3, decide_eq_true k4]
  rfl
theorem btw_parts {a c e : Pt} (h : btw a c e = true) : ar a c e = 0 ∧ (min a.1 c.1 ≤ e.1 ∧ e.1 ≤ max a.1 c.1) ∧ min a.2 c.2 ≤ e.2 ∧ e.2 ≤ max a.2 c.2 := by
  unfold btw at h
  simp only [Bool.and_eq_true, decide_eq_true_eq] at h
  exact ⟨h.1.1, h.1.2, h.2⟩
/-- a measure that is greater at a than at c is greater at what lies between than at c, and no less than there -/
theorem btw_aff {a c e : Pt} (h : btw a c e = true) (p q : Pt) (hl : ar p q c < ar p q a) : ar p q c ≤ ar p q e ∧ ar p q e ≤ ar p q a ∧ (e ≠ c → ar p q c < ar p q e) ∧ (e ≠ a → ar p q e < ar p q a) := by
  obtain ⟨h0, h1, h2⟩ := btw_parts h
  have i1 : (c.1 - a.1) * (ar p q e - ar p q c) = (e.1 - c.1) * (ar p q c - ar p q a) + (q.1 - p.1) * ar a c e := by unfold ar; grind
  have i2 : (c.2 - a.2) * (ar p q e - ar p q c) = (e.2 - c.2) * (ar p q c - ar p q a) + (q.2 - p.2) * ar a c e := by unfold ar; grind
  have i3 : (c.1 - a.1) * (ar p q a - ar p q e) = (a.1 - e.1) * (ar p q c - ar p q a) - (q.1 - p.1) * ar a c e := by unfold ar; grind
  have i4 : (c.2 - a.2) * (ar p q a - ar p q e) = (a.2 - e.2) * (ar p q c - ar p q a) - (q.2 - p.2) * ar a c e := by unfold ar; grind
  rw [h0] at i1 i2 i3 i4
  simp only [Int.mul_zero, Int.add_zero, Int.sub_zero] at i1 i2 i3 i4
  have hN : ar p q c - ar p q a < 0 := by omega
  generalize hF : ar p q e - ar p q c = F at *
  generalize hG : ar p q a - ar p q e = G at *
  generalize hH : ar p q c - ar p q a = N at *
  have tot : F + G = -N := by omega
  have key : ∀ u v w : Int, (w - u ≠ 0) → min u w ≤ v → v ≤ max u w → (w - u) * F = (v - w) * N → (w - u) * G = (u - v) * N → 0 ≤ F ∧ 0 ≤ G ∧ (v ≠ w → 0 < F) ∧ (v ≠ u → 0 < G) := by
    intro u v w hne m1 m2 j1 j2
    rcases Int.lt_trichotomy (w - u) 0 with z | z | z
    · have a1 : 0 ≤ v - w := by omega
      have a2 : 0 ≤ u - v := by omega
      have b1 := nn_np a1 (show N ≤ 0 by omega)
      have b2 := nn_np a2 (show N ≤ 0 by omega)
      refine ⟨?_, ?_, fun hv => ?_, fun hv => ?_⟩
      · by_cases q : 0 ≤ F
        · exact q
        · have := neg_neg' z (show F < 0 by omega); omega
      · by_cases q : 0 ≤ G
        · exact q
        · have := neg_neg' z (show G < 0 by omega); omega
      · have := mul_neg' (show 0 < v - w by omega) hN
        exact fac_neg' (show (w - u) * F < 0 by omega) z
      · have := mul_neg' (show 0 < u - v by omega) hN
        exact fac_neg' (show (w - u) * G < 0 by omega) z
    · exact absurd z hne
    · have a1 : v - w ≤ 0 := by omega
      have a2 : u - v ≤ 0 := by omega
      have b1 := np_np a1 (show N ≤ 0 by omega)
      have b2 := np_np a2 (show N ≤ 0 by omega)
      refine ⟨?_, ?_, fun hv => ?_, fun hv => ?_⟩
      · by_cases q : 0 ≤ F
        · exact q
        · have := mul_neg' z (show F < 0 by omega); omega
      · by_cases q : 0 ≤ G
        · exact q
        · have := mul_neg' z (show G < 0 by omega); omega
      · have := neg_neg' (show v - w < 0 by omega) hN
        exact fac_pos (show 0 < (w - u) * F by omega) z
      · have := neg_neg' (show u - v < 0 by omega) hN
        exact fac_pos (show 0 < (w - u) * G by omega) z
  by_cases hx : c.1 - a.1 = 0
  · by_cases hy : c.2 - a.2 = 0
    · exfalso
      have : c = a := Prod.ext (by omega) (by omega)
      subst this
      omega
    · obtain ⟨k1, k2, k3, k4⟩ := key _ _ _ hy h2.1 h2.2 i2 i4
      have ex : e.1 = c.1 := by omega
      refine ⟨by omega, by omega, fun hne => ?_, fun hne => ?_⟩
      · have := k3 fun z => hne (Prod.ext ex z); omega
      · have := k4 fun z => hne (Prod.ext (by omega) z); omega
  · obtain ⟨k1, k2, k3, k4⟩ := key _ _ _ hx h1.1 h1.2 i1 i3
    have side : e.1 = c.1 → e.2 = c.2 := fun z => by
      have : ar a c e = 0 := h0
      unfold ar at this
      rw [z] at this
      have e9 : (c.1 - a.1) * (e.2 - c.2) = 0 := by grind
      rcases Int.mul_eq_zero.mp e9 with y | y
      · exact absurd y hx
      · omega
    have side2 : e.1 = a.1 → e.2 = a.2 := fun z => by
      have : ar a c e = 0 := h0
      unfold ar at this
      rw [z] at this
      have e9 : (c.1 - a.1) * (e.2 - a.2) = 0 := by grind
      rcases Int.mul_eq_zero.mp e9 with y | y
      · exact absurd y hx
      · omega
    refine ⟨by omega, by omega, fun hne => ?_, fun hne => ?_⟩
    · have := k3 fun z => hne (Prod.ext z (side z)); omega
    · have := k4 fun z => hne (Prod.ext z (side2 z)); omega
theorem box_of {D s x y z : Int} (hD : 0 < D) (h1 : 0 ≤ s) (hs : s ≤ D) (e : D * (z - x) = s * (y - x)) : min x y ≤ z ∧ z ≤ max x y := by
  rcases Int.le_total x y with h | h
  · have k1 := nn_nn h1 (show 0 ≤ y - x by omega)
    have k2 : 0 ≤ z - x := by
      by_cases q : 0 ≤ z - x
      · exact q
      · have := mul_neg' hD (show z - x < 0 by omega); omega
    have k3 := nn_nn (show 0 ≤ D - s by omega) (show 0 ≤ y - x by omega)
    have k4 : 0 ≤ y - z := by
      by_cases q : 0 ≤ y - z
      · exact q
      · have k5 := mul_neg' hD (show y - z < 0 by omega)
        have e9 : D * (y - z) = (D - s) * (y - x) := by grind
        omega
    omega
  · have k1 := nn_np h1 (show y - x ≤ 0 by omega)
    have k2 : z - x ≤ 0 := by
      by_cases q : z - x ≤ 0
      · exact q
      · have := pos_mul hD (show 0 < z - x by omega); omega
    have k3 := nn_np (show 0 ≤ D - s by omega) (show y - x ≤ 0 by omega)
    have k4 : y - z ≤ 0 := by
      by_cases q : y - z ≤ 0
      · exact q
      · have k5 := pos_mul hD (show 0 < y - z by omega)
        have e9 : D * (y - z) = (D - s) * (y - x) := by grind
        omega
    omega
theorem btw_sep {d e a p q : Pt} (h0 : ar d e a = 0) (h1 : ar p q d < ar p q a) (h2 : ar p q a < ar p q e) : btw d e a = true := by
  have i1 : (ar p q e - ar p q d) * (a.1 - d.1) = (ar p q a - ar p q d) * (e.1 - d.1) - (q.1 - p.1) * ar d e a := by unfold ar; grind
  have i2 : (ar p q e - ar p q d) * (a.2 - d.2) = (ar p q a - ar p q d) * (e.2 - d.2) - (q.2 - p.2) * ar d e a := by unfold ar; grind
  rw [h0] at i1 i2
  simp only [Int.mul_zero, Int.sub_zero] at i1 i2
  obtain ⟨k1, k2⟩ := box_of (by omega) (by omega) (by omega) i1
  obtain ⟨k3, k4⟩ := box_of (by omega) (by omega) (by omega) i2
  unfold btw
  rw [decide_eq_true h0, decide_eq_true k1, decide_eq_true k2, decide_eq_true k3, decide_eq_true k4]
  rfl
/-- pins and gates of a layer -/
structure Net (V : List Pt) (E : Pt → Pt → Prop) : Prop where
  sym : ∀ {a b}, E a b → E b a
  mem : ∀ {a b}, E a b → a ∈ V
  ne : ∀ {a b}, E a b → a ≠ b
  clear : ∀ {a b c}, E a b → c ∈ V → c ≠ a → c ≠ b → btw a b c = true → False
  apart : ∀ {a b c d}, E a b → E c d → X a b c d → False
  full : ∀ {a b}, a ∈ V → b ∈ V → a ≠ b → (∀ c ∈ V, c ≠ a → c ≠ b → btw a b c = true → False) → (∀ c d, E c d → X a b c d → False) → E a b
/-- the greatest of some -/
theorem exists_max {α : Type} (f : α → Int) : ∀ (l : List α), l ≠ [] → ∃ x ∈ l, ∀ y ∈ l, f y ≤ f x
  | [x], _ => ⟨x, List.mem_singleton.mpr rfl, fun y hy => by rw [List.mem_singleton.mp hy]; exact Int.le_refl _⟩
  | x :: y :: l, _ => by
    obtain ⟨z, hz, hm⟩ := exists_max f (y :: l) (by simp)
    rcases Int.le_total (f x) (f z) with h | h
    · exact ⟨z, List.mem_cons_of_mem _ hz, fun w hw => by
        rcases List.mem_cons.mp hw with e | e
        · rw [e]; exact h
        · exact hm w e⟩
    · exact ⟨x, List.mem_cons_self, fun w hw => by
        rcases List.mem_cons.mp hw with e | e
        · rw [e]; exact Int.le_refl _
        · exact Int.le_trans (hm w e) h⟩
/-- within three, or on its sides -/
def Tri (a b r c : Pt) : Prop := 0 ≤ ar b r c ∧ 0 ≤ ar a c r ∧ 0 ≤ ar a b c
theorem ar_self1 (a b : Pt) : ar a b a = 0 := by unfold ar; grind
theorem ar_self2 (a b : Pt) : ar a b b = 0 := by unfold ar; grind
section
variable {V : List Pt} {E : Pt → Pt → Prop}
theorem X_ne1 {a c d e : Pt} (h : X a c d e) : d ≠ a ∧ e ≠ a ∧ d ≠ c ∧ e ≠ c := by
  refine ⟨fun z => ?_, fun z => ?_, fun z => ?_, fun z => ?_⟩
  · have := h.1; rw [z, ar_self1] at this; simp at this
  · have := h.1; rw [z, ar_self1] at this; simp at this
  · have := h.1; rw [z, ar_self2] at this; simp at this
  · have := h.1; rw [z, ar_self2] at this; simp at this
theorem next_clear (N : Net V E) {a b r : Pt} (hab : E a b) (har : E a r) (hD : 0 < ar a b r) (next : ∀ f, E a f → 0 < ar a b f → 0 < ar a f r → False) : ∀ c ∈ V, c ≠ a → c ≠ b → c ≠ r → ¬Tri a b r c := by
  intro c0 hc0 na nb nr ht
  have dec : ∀ c, Decidable (c ≠ a ∧ c ≠ b ∧ c ≠ r ∧ Tri a b r c) := fun c => by unfold Tri; infer_instance
  obtain ⟨c, hc, hmax⟩ := exists_max (fun c => ar b r c) (V.filter fun c => @decide _ (dec c)) (List.ne_nil_of_mem (List.mem_filter.mpr ⟨hc0, @decide_eq_true _ (dec c0) ⟨na, nb, nr, ht⟩⟩))
  obtain ⟨hcV, hcd⟩ := List.mem_filter.mp hc
  obtain ⟨na, nb, nr, t1, t2, t3⟩ := @of_decide_eq_true _ (dec c) hcd
  have hmax' : ∀ e ∈ V, e ≠ a → e ≠ b → e ≠ r → Tri a b r e → ar b r e ≤ ar b r c := fun e he x y z t => hmax e (List.mem_filter.mpr ⟨he, @decide_eq_true _ (dec e) ⟨x, y, z, t⟩⟩)
  have es := id_sum a b r c
  have p3 : 0 < ar a b c := by
    rcases Int.lt_or_eq_of_le t3 with h | h
    · exact h
    · exact (N.clear hab hcV na nb (btw_tri hD h.symm t2 t1)).elim
  have p2 : 0 < ar a c r := by
    rcases Int.lt_or_eq_of_le t2 with h | h
    · exact h
    · have e1 : ar r a b = ar a b r := by unfold ar; grind
      have e2 : ar r a c = ar a c r := by unfold ar; grind
      have e3 : ar r c b = ar b r c := by unfold ar; grind
      have h5 : btw r a c = true := btw_tri (r := b) (by rw [e1]; exact hD) (by rw [e2]; exact h.symm) (by rw [e3]; exact t1) t3
      exact (N.clear (N.sym har) hcV nr na h5).elim
  have haD : ar b r a = ar a b r := by unfold ar; grind
  have hlt : ar b r c < ar b r a := by omega
  refine next c (N.full (N.mem hab) hcV (Ne.symm na) (fun e he n1 n2 hb => ?_) fun d e hde hx => ?_) p3 p2
  · obtain ⟨k1, k2, k3, k4⟩ := btw_aff hb b r hlt
    have k5 := k3 n2
    have y1 : ar a b e ≤ ar a b c ∧ 0 ≤ ar a b e := by
      have hb2 : btw c a e = true := by
        obtain ⟨h0, h1, h2⟩ := btw_parts hb
        unfold btw
        rw [decide_eq_true (show ar c a e = 0 by rw [ar_flip]; omega), decide_eq_true (show min c.1 a.1 ≤ e.1 by omega), decide_eq_true (show e.1 ≤ max c.1 a.1 by omega), decide_eq_true (show min c.2 a.2 ≤ e.2 by omega), decide_eq_true (show e.2 ≤ max c.2 a.2 by omega)]
        rfl
      have := btw_aff hb2 a b (by rw [ar_self1]; exact p3)
      rw [ar_self1] at this
      exact ⟨this.2.1, this.1⟩
    have y2 : 0 ≤ ar a e r := by
      have hb2 : btw c a e = true := by
        obtain ⟨h0, h1, h2⟩ := btw_parts hb
        unfold btw
        rw [decide_eq_true (show ar c a e = 0 by rw [ar_flip]; omega), decide_eq_true (show min c.1 a.1 ≤ e.1 by omega), decide_eq_true (show e.1 ≤ max c.1 a.1 by omega), decide_eq_true (show min c.2 a.2 ≤ e.2 by omega), decide_eq_true (show e.2 ≤ max c.2 a.2 by omega)]
        rfl
      have f1 : ar r a c = ar a c r := by unfold ar; grind
      have f2 : ar r a e = ar a e r := by unfold ar; grind
      have f3 : ar r a a = 0 := ar_self2 r a
      have := btw_aff hb2 r a (by rw [f1, f3]; exact p2)
      rw [f2, f3] at this
      exact this.1
    have nb' : e ≠ b := fun z => by rw [z, ar_self1] at k5; omega
    have nr' : e ≠ r := fun z => by rw [z, ar_self2] at k5; omega
    have := hmax' e he n1 nb' nr' ⟨by omega, y2, y1.2⟩
    omega
  · have xn := X_ne1 hx
    refine geo1 hD p3 p2 t1 hx (fun u hu hh ht => ?_) (N.apart hab hde) (N.apart har hde)
    have huV : u ∈ V := by
      rcases hu with z | z
      · rw [z]; exact N.mem hde
      · rw [z]; exact N.mem (N.sym hde)
    have una : u ≠ a := by
      rcases hu with z | z
      · rw [z]; exact xn.1
      · rw [z]; exact xn.2.1
    have unb : u ≠ b := fun z => by rw [z, ar_self1] at hh; omega
    have unr : u ≠ r := fun z => by rw [z, ar_self2] at hh; omega
    have := hmax' u huV una unb unr ⟨by omega, ht.1, ht.2⟩
    omega
theorem btw_flip {a c e : Pt} (h : btw a c e = true) : btw c a e = true := by
  obtain ⟨h0, h1, h2⟩ := btw_parts h
  unfold btw
  rw [decide_eq_true (show ar c a e = 0 by rw [ar_flip]; omega), decide_eq_true (show min c.1 a.1 ≤ e.1 by omega), decide_eq_true (show e.1 ≤ max c.1 a.1 by omega), decide_eq_true (show min c.2 a.2 ≤ e.2 by omega), decide_eq_true (show e.2 ≤ max c.2 a.2 by omega)]
  rfl
/-- the side that faces the tip is a gate -/
theorem next_gate (N : Net V E) {a b r : Pt} (hab : E a b) (har : E a r) (hD : 0 < ar a b r) (next : ∀ f, E a f → 0 < ar a b f → 0 < ar a f r → False) : E b r := by
  have cl := next_clear N hab har hD next
  have haD : ar b r a = ar a b r := by unfold ar; grind
  have hbr : b ≠ r := fun z => by rw [z, ar_self2] at hD; omega
  have one : ∀ d e, E d e → X b r d e → 0 < ar b r d → False := by
    intro d e hde hx pd
    have xn := X_ne1 hx
    have nv := fac_neg hx.1 pd
    have hea : e ≠ a := fun z => by rw [z, haD] at nv; omega
    by_cases hda : d = a
    · subst hda
      have h2 := hx.2
      have e1 : ar d e b = - ar d b e := by unfold ar; grind
      rw [e1] at h2
      have es := id_sum d b r e
      rcases Int.lt_trichotomy (ar d b e) 0 with z | z | z
      · have : ar d e r < 0 := fac_neg (show -ar d b e * ar d e r < 0 from h2) (by omega)
        omega
      · rw [z] at h2; simp at h2
      · have : 0 < ar d e r := fac_neg' (show -ar d b e * ar d e r < 0 from h2) (by omega)
        exact next e hde z this
    · have out : ¬(0 ≤ ar a d r ∧ 0 ≤ ar a b d) := fun h => by
        refine cl d (N.mem hde) hda xn.1 xn.2.2.1 ⟨by omega, h.1, h.2⟩
      refine geo2o hD hx pd (fun z => ?_) out (N.apart hab hde) (N.apart har hde)
      -- a lies on the piece
      have il := id_la a b r d e
      have ib := id_lb a b r d e
      have ir := id_lr a b r d e
      rw [z, Int.mul_zero] at il
      have opp : (ar a b r * ar d e b) * (ar a b r * ar d e r) < 0 := by
        rcases Int.lt_trichotomy (ar d e b) 0 with y | y | y
        · exact neg_mul' (mul_neg' hD y) (pos_mul hD (fac_neg' hx.2 y))
        · have := hx.2; rw [y] at this; simp at this
        · exact mul_neg' (pos_mul hD y) (mul_neg' hD (fac_neg hx.2 y))
      rw [ib, ir] at opp
      have s1 := id_sum a b r d
      have s2 := id_sum a b r e
      have fr : ∀ p, ar r a p = ar a p r := fun p => by unfold ar; grind
      by_cases hb : ar a d r < 0
      · have he : 0 < ar a e r := by
          by_cases k : 0 < ar a e r
          · exact k
          · exfalso
            have g1 : 0 < ar a b e := by omega
            have g2 := neg_mul' hb g1
            have g3 : ar a e r * ar a b d < 0 := by omega
            have g4 : ar a e r < 0 := by
              rcases Int.lt_or_eq_of_le (show ar a e r ≤ 0 by omega) with y | y
              · exact y
              · rw [y] at g3; simp at g3
            have g5 := fac_neg' g3 g4
            have g6 := mul_neg' g5 nv
            have g7 := pos_mul g1 pd
            have g8 := mul_neg' pd g4
            have g9 := neg_neg' nv hb
            have := neg_neg' (show ar a b d * ar b r e - ar a b e * ar b r d < 0 by omega) (show ar b r d * ar a e r - ar b r e * ar a d r < 0 by omega)
            omega
        exact N.clear hde (N.mem hab) (Ne.symm hda) (Ne.symm hea) (btw_sep (p := r) (q := a) z (by have h8 := fr d; have h9 : ar r a a = 0 := ar_self2 r a; omega) (by have h8 := fr e; have h9 : ar r a a = 0 := ar_self2 r a; omega))
      · have hg : ar a b d < 0 := by
          by_cases k : 0 ≤ ar a b d
          · exact absurd ⟨by omega, k⟩ out
          · omega
        have he : 0 < ar a b e := by
          by_cases k : 0 < ar a b e
          · exact k
          · exfalso
            have g1 : 0 < ar a e r := by omega
            have g2 := mul_neg' g1 hg
            have g3 : ar a d r * ar a b e < 0 := by omega
            have g4 : ar a b e < 0 := by
              rcases Int.lt_or_eq_of_le (show ar a b e ≤ 0 by omega) with y | y
              · exact y
              · rw [y] at g3; simp at g3
            have g5 : 0 < ar a d r := by
              rw [Int.mul_comm] at g3
              exact fac_neg' g3 g4
            have g6 := neg_neg' hg nv
            have g7 := neg_mul' g4 pd
            have g8 := pos_mul pd g1
            have g9 := neg_mul' nv g5
            have := pos_mul (show 0 < ar a b d * ar b r e - ar a b e * ar b r d by omega) (show 0 < ar b r d * ar a e r - ar b r e * ar a d r by omega)
            omega
        exact N.clear hde (N.mem hab) (Ne.symm hda) (Ne.symm hea) (btw_sep (p := a) (q := b) z (by have h9 := ar_self1 a b; omega) (by have h9 := ar_self1 a b; omega))
  refine N.full (N.mem (N.sym hab)) (N.mem (N.sym har)) hbr (fun e he n1 n2 hb => ?_) fun d e hde hx => ?_
  · obtain ⟨h0, _, _⟩ := btw_parts hb
    have b1 := btw_aff (btw_flip hb) a b (by rw [ar_self2]; exact hD)
    rw [ar_self2] at b1
    have fr : ∀ p, ar r a p = ar a p r := fun p => by unfold ar; grind
    have hD2 : ar r a b = ar a b r := by unfold ar; grind
    have b2 := btw_aff hb r a (by rw [ar_self1, hD2]; exact hD)
    rw [ar_self1, fr] at b2
    have na : e ≠ a := fun z => by
      rw [z, haD] at h0
      omega
    exact cl e he na n1 n2 ⟨by omega, b2.1, b1.1⟩
  · rcases Int.lt_trichotomy (ar b r d) 0 with z | z | z
    · exact one e d (N.sym hde) (X_flip2.mp hx) (fac_neg' hx.1 z)
    · have := hx.1; rw [z] at this; simp at this
    · exact one d e hde hx z
/-- the least of some, by an order that holds on them -/
theorem exists_least {α : Type} (R : α → α → Prop) : ∀ (l : List α), l ≠ [] → (∀ x ∈ l, ¬R x x) → (∀ x ∈ l, ∀ y ∈ l, ∀ z ∈ l, R x y → R y z → R x z) → ∃ x ∈ l, ∀ y ∈ l, ¬R y x
  | [x], _, hi, _ => ⟨x, List.mem_singleton.mpr rfl, fun y hy => by rw [List.mem_singleton.mp hy]; exact hi x (List.mem_singleton.mpr rfl)⟩
  | x :: y :: l, _, hi, ht => by
    obtain ⟨z, hz, hm⟩ := exists_least R (y :: l) (by simp) (fun a ha => hi a (List.mem_cons_of_mem _ ha)) (fun a ha b hb c hc => ht a (List.mem_cons_of_mem _ ha) b (List.mem_cons_of_mem _ hb) c (List.mem_cons_of_mem _ hc))
    by_cases h : R x z
    · refine ⟨x, List.mem_cons_self, fun w hw => ?_⟩
      rcases List.mem_cons.mp hw with e | e
      · rw [e]; exact hi x List.mem_cons_self
      · exact fun k => hm w e (ht w hw x List.mem_cons_self z (List.mem_cons_of_mem _ hz) k h)
    · refine ⟨z, List.mem_cons_of_mem _ hz, fun w hw => ?_⟩
      rcases List.mem_cons.mp hw with e | e
      · rw [e]; exact h
      · exact hm w e
theorem id_tr (a b f g h : Pt) : ar a b f * ar a g h - ar a b g * ar a f h + ar a b h * ar a f g = 0 := by unfold ar; grind
/-- a triangle to the left of a gate, where some gate goes there -/
theorem tri_left (N : Net V E) {a b f : Pt} (hab : E a b) (haf : E a f) (hl : 0 < ar a b f) : ∃ r, E a r ∧ E b r ∧ 0 < ar a b r ∧ ∀ c ∈ V, c ≠ a → c ≠ b → c ≠ r → ¬Tri a b r c := by
  have dec : ∀ c, Decidable (E a c ∧ 0 < ar a b c) := fun c => Classical.propDecidable _
  obtain ⟨r, hr, hm⟩ := exists_least (fun g h => 0 < ar a g h) (V.filter fun c => @decide _ (dec c)) (List.ne_nil_of_mem (List.mem_filter.mpr ⟨N.mem (N.sym haf), @decide_eq_true _ (dec f) ⟨haf, hl⟩⟩)) (fun x _ h => by rw [ar_self2] at h; omega) (fun x hx y hy z hz h k => by
    have px := (@of_decide_eq_true _ (dec x) (List.mem_filter.mp hx).2).2
    have py := (@of_decide_eq_true _ (dec y) (List.mem_filter.mp hy).2).2
    have pz := (@of_decide_eq_true _ (dec z) (List.mem_filter.mp hz).2).2
    have e := id_tr a b x y z
    have q1 := pos_mul px k
    have q2 := pos_mul pz h
    exact fac_pos (show 0 < ar a b y * ar a x z by omega) py)
  obtain ⟨har, hpr⟩ := @of_decide_eq_true _ (dec r) (List.mem_filter.mp hr).2
  have next : ∀ f, E a f → 0 < ar a b f → 0 < ar a f r → False := fun f h1 h2 h3 => hm f (List.mem_filter.mpr ⟨N.mem (N.sym h1), @decide_eq_true _ (dec f) ⟨h1, h2⟩⟩) h3
  exact ⟨r, har, next_gate N hab har hpr next, hpr, next_clear N hab har hpr next⟩
end
/-- a piece g h over the piece from a (0, 0) to f, f within a, z, d: it goes over a c, or over d e, or ends there -/
theorem exit_core {D xe ye xf yf xg yg xh yh pg ph m0 m Lf Lg Lh Md Me Mc : Int} (hD : 0 < D) (hxe : 0 < xe) (hye : ye < 0) (hxy : xe + ye < D) (hxf : 0 ≤ xf) (hyf : 0 ≤ yf) (em : m = D - ye)
    (eLf : Lf = xe * (D - yf) - m * xf) (eLg : Lg = xe * (D - yg) - m * xg) (eLh : Lh = xe * (D - yh) - m * xh) (hLf : 0 ≤ Lf) (epg : pg = xf * yg - yf * xg) (eph : ph = xf * yh - yf * xh) (hpg : pg < 0) (hph : 0 < ph)
    (em0 : m0 = xg * yh - xh * yg) (hm0 : 0 < m0) (hmf : m0 < ph - pg) (eMd : Md = m0 + (xh - xg) * D) (eMe : Me = m0 + (xh - xg) * ye - (yh - yg) * xe) (eMc : Mc = m0 - (yh - yg) * D) :
    (yg * yh < 0 ∧ Mc < 0) ∨ (Lg * Lh < 0 ∧ Md * Me < 0) ∨ (0 ≤ xg ∧ 0 ≤ yg ∧ 0 ≤ Lg) := by
  have xW : ph * xg - pg * xh = m0 * xf := by subst epg eph em0; grind
  have yW : ph * yg - pg * yh = m0 * yf := by subst epg eph em0; grind
  have LW : ph * Lg - pg * Lh = (ph - pg - m0) * (xe * D) + m0 * Lf := by subst eLf eLg eLh epg eph em0; grind
  have nxW := nn_nn (show 0 ≤ m0 by omega) hxf
  have nyW := nn_nn (show 0 ≤ m0 by omega) hyf
  have pLW : 0 < ph * Lg - pg * Lh := by
    have h1 := pos_mul (show 0 < ph - pg - m0 by omega) (pos_mul hxe hD)
    have h2 := nn_nn (show 0 ≤ m0 by omega) hLf
    omega
  have hm : 0 < m := by omega
  have iMd : -(xe * Md) = Lh * xg - Lg * xh := by subst eMd eLg eLh em0; grind
  have iMe : m * Me = Lh * (yg - ye) - Lg * (yh - ye) := by subst eMe eLg eLh em0 em; grind
  have Lh_of : Lg < 0 → 0 < Lh := fun h => by
    have h1 := mul_neg' hph h
    exact fac_neg' (show pg * Lh < 0 by omega) hpg
  -- where d e is gone over
  have fin : Lg < 0 → 0 < Lh * xg - Lg * xh → 0 < Lh * (yg - ye) - Lg * (yh - ye) → Lg * Lh < 0 ∧ Md * Me < 0 := fun h1 h2 h3 => by
    refine ⟨neg_mul' h1 (Lh_of h1), ?_⟩
    have k1 : Md < 0 := fac_neg (show xe * Md < 0 by omega) hxe
    have k2 : 0 < Me := fac_pos (show 0 < m * Me by omega) hm
    exact neg_mul' k1 k2
  by_cases hyg : 0 ≤ yg
  · have h1 := nn_nn hxf hyg
    have h2 : 0 < yf * xg := by omega
    have hxg : 0 < xg := by
      rcases Int.lt_or_eq_of_le hyf with y | y
      · exact fac_pos h2 y
      · rw [← y] at h2; simp at h2
    by_cases hLg : 0 ≤ Lg
    · exact .inr (.inr ⟨by omega, hyg, hLg⟩)
    · have nLg : Lg < 0 := by omega
      refine .inr (.inl (fin nLg ?_ ?_))
      · have e : (ph * Lg - pg * Lh) * xg - Lg * (ph * xg - pg * xh) = (-pg) * (Lh * xg - Lg * xh) := by grind
        have k1 := pos_mul pLW hxg
        have k2 : Lg * (ph * xg - pg * xh) ≤ 0 := by rw [xW]; exact np_nn (by omega) nxW
        exact fac_pos (show 0 < (-pg) * (Lh * xg - Lg * xh) by omega) (by omega)
      · have e : (ph * Lg - pg * Lh) * (yg - ye) - Lg * ((ph * yg - pg * yh) - (ph - pg) * ye) = (-pg) * (Lh * (yg - ye) - Lg * (yh - ye)) := by grind
        have k1 := pos_mul pLW (show 0 < yg - ye by omega)
        have k3 := mul_neg' (show 0 < ph - pg by omega) hye
        have k2 : Lg * ((ph * yg - pg * yh) - (ph - pg) * ye) < 0 := neg_mul' nLg (by omega)
        exact fac_pos (show 0 < (-pg) * (Lh * (yg - ye) - Lg * (yh - ye)) by omega) (by omega)
  · have nyg : yg < 0 := by omega
    have hyh : 0 < yh := by
      have h1 := mul_neg' hph nyg
      exact fac_neg' (show pg * yh < 0 by omega) hpg
    have q0 := neg_mul' nyg hyh
    by_cases hMc : Mc < 0
    · exact .inl ⟨q0, hMc⟩
    refine .inr (.inl ?_)
    have hY : (yh - yg) * D ≤ m0 := by omega
    have pyf : 0 < yf := by
      rcases Int.lt_or_eq_of_le hyf with y | y
      · exact y
      · exfalso
        rw [← y] at epg eph eLf
        simp only [Int.zero_mul, Int.sub_zero] at epg eph eLf
        -- xf (yh - yg) > m0 >= D (yh - yg), and xf < D
        have h1 : m0 < xf * (yh - yg) := by rw [Int.mul_sub]; omega
        have h2 : 0 < (xf - D) * (yh - yg) := by
          have : (xf - D) * (yh - yg) = xf * (yh - yg) - (yh - yg) * D := by grind
          omega
        have h3 : 0 < xf - D := by
          rw [Int.mul_comm] at h2
          exact fac_pos h2 (by omega)
        have h4 := pos_mul hm h3
        have h5 : m * (xf - D) = m * xf - m * D := by grind
        have h6 := pos_mul (show 0 < m - xe by omega) hD
        have h7 : (m - xe) * D = m * D - xe * D := by grind
        omega
    have LY : yh * Lg - yg * Lh = (yh - yg) * (xe * D) - m * m0 := by subst eLg eLh em0; grind
    have nLY : yh * Lg - yg * Lh < 0 := by
      have h1 := pos_mul (show 0 < yh - yg by omega) (pos_mul (show 0 < m - xe by omega) hD)
      have h2 := nn_nn (show 0 ≤ m by omega) (show 0 ≤ m0 - (yh - yg) * D by omega)
      have e : m * (m0 - (yh - yg) * D) + (yh - yg) * ((m - xe) * D) = m * m0 - (yh - yg) * (xe * D) := by grind
      omega
    have pyW := pos_mul hm0 pyf
    have nLg : Lg < 0 := by
      by_cases k : 0 ≤ Lg
      · exfalso
        have h1 := pos_mul (show 0 < -yg by omega) pLW
        have h2 := mul_neg' (show 0 < -pg by omega) nLY
        have e : (-yg) * (ph * Lg - pg * Lh) - (-pg) * (yh * Lg - yg * Lh) = -(Lg * (ph * yg - pg * yh)) := by grind
        have h3 : 0 ≤ Lg * (ph * yg - pg * yh) := by rw [yW]; exact nn_nn k nyW
        omega
      · omega
    have xY : yh * xg - yg * xh = m0 := by subst em0; grind
    refine fin nLg ?_ ?_
    · have e : (ph * Lg - pg * Lh) * (yh * xg - yg * xh) - (yh * Lg - yg * Lh) * (ph * xg - pg * xh) = (ph * yg - pg * yh) * (Lh * xg - Lg * xh) := by grind
      have h1 : 0 < (ph * Lg - pg * Lh) * (yh * xg - yg * xh) := by rw [xY]; exact pos_mul pLW hm0
      have h2 : (yh * Lg - yg * Lh) * (ph * xg - pg * xh) ≤ 0 := by rw [xW]; exact np_nn (by omega) nxW
      exact fac_pos (show 0 < (ph * yg - pg * yh) * (Lh * xg - Lg * xh) by omega) (by omega)
    · have e : (ph * Lg - pg * Lh) * ((yh * yg - yg * yh) - (yh - yg) * ye) - (yh * Lg - yg * Lh) * ((ph * yg - pg * yh) - (ph - pg) * ye) = (ph * yg - pg * yh) * (Lh * (yg - ye) - Lg * (yh - ye)) := by grind
      have k0 : yh * yg - yg * yh = 0 := by grind
      have k3 := mul_neg' (show 0 < yh - yg by omega) hye
      have k4 := mul_neg' (show 0 < ph - pg by omega) hye
      have h1 := pos_mul pLW (show 0 < (yh * yg - yg * yh) - (yh - yg) * ye by omega)
      have h2 := neg_mul' nLY (show 0 < (ph * yg - pg * yh) - (ph - pg) * ye by omega)
      exact fac_pos (show 0 < (ph * yg - pg * yh) * (Lh * (yg - ye) - Lg * (yh - ye)) by omega) (by omega)
theorem exit_geo {a c d e f g h : Pt} (hx : X a c d e) (hD : 0 < ar a c d) (f1 : 0 ≤ ar a c f) (f2 : 0 ≤ ar a f d) (f3 : 0 ≤ ar e d f) (hy : X a f g h) (hg : ar a f g < 0) (ng : ¬X d e g h) :
    X a c g h ∨ (0 ≤ ar a g d ∧ 0 ≤ ar a c g ∧ 0 ≤ ar e d g) := by
  have ye := fac_neg hx.1 hD
  have eo := id_or a c d e
  have hl : ar d e a < 0 ∧ 0 < ar d e c := by
    rcases Int.lt_trichotomy (ar d e a) 0 with z | z | z
    · exact ⟨z, fac_neg' hx.2 z⟩
    · have := hx.2; rw [z] at this; simp at this
    · have := fac_neg hx.2 z; omega
  have exe : ar a e d = - ar d e a := by unfold ar; grind
  have hh := fac_neg' hy.1 hg
  have eo2 := id_or a f g h
  have hM : 0 < ar g h a ∧ ar g h f < 0 := by
    rcases Int.lt_trichotomy (ar g h a) 0 with z | z | z
    · have := fac_neg' hy.2 z; omega
    · have := hy.2; rw [z] at this; simp at this
    · exact ⟨z, fac_neg hy.2 z⟩
  have iL : ∀ p, ar a c d * ar e d p = ar a e d * (ar a c d - ar a c p) - (ar a c d - ar a c e) * ar a p d := fun p => by unfold ar; grind
  have iP : ∀ p, ar a c d * ar a f p = ar a f d * ar a c p - ar a c f * ar a p d := fun p => by unfold ar; grind
  have i0 : ar a c d * ar g h a = ar a g d * ar a c h - ar a h d * ar a c g := by unfold ar; grind
  have id' : ar a c d * ar g h d = ar a c d * ar g h a + (ar a h d - ar a g d) * ar a c d := by unfold ar; grind
  have ie : ar a c d * ar g h e = ar a c d * ar g h a + (ar a h d - ar a g d) * ar a c e - (ar a c h - ar a c g) * ar a e d := by unfold ar; grind
  have ic : ar a c d * ar g h c = ar a c d * ar g h a - (ar a c h - ar a c g) * ar a c d := by unfold ar; grind
  have hmf : ar a c d * ar g h a < ar a c d * ar a f h - ar a c d * ar a f g := by
    have e : ar a c d * ar g h f = ar a c d * ar g h a - (ar a c d * ar a f h - ar a c d * ar a f g) := by unfold ar; grind
    have := mul_neg' hD hM.2
    omega
  rcases exit_core hD (show 0 < ar a e d by omega) ye (show ar a e d + ar a c e < ar a c d by omega) f2 f1 rfl (iL f) (iL g) (iL h) (nn_nn (by omega) f3) (iP g) (iP h) (mul_neg' hD hg) (pos_mul hD hh) i0 (pos_mul hD hM.1) hmf id' ie ic with h1 | h1 | h1
  · exact .inl ⟨h1.1, mul_neg' hM.1 (fac_neg h1.2 hD)⟩
  · exfalso
    refine ng ⟨?_, scale_neg hD h1.2⟩
    have h2 := scale_neg hD h1.1
    rw [ar_flip d e g, ar_flip d e h, neg_neg_mul] at h2
    exact h2
  · refine .inr ⟨h1.1, h1.2.1, ?_⟩
    by_cases k : 0 ≤ ar e d g
    · exact k
    · have := mul_neg' hD (show ar e d g < 0 by omega)
      omega
/-- the plane turned over -/
def flp (p : Pt) : Pt := (p.2, p.1)
theorem ar_flp (a b c : Pt) : ar (flp a) (flp b) (flp c) = - ar a b c := by unfold ar flp; grind
theorem X_flp {a b c d : Pt} : X (flp a) (flp b) (flp c) (flp d) ↔ X a b c d := by
  unfold X
  rw [ar_flp, ar_flp, ar_flp, ar_flp, neg_neg_mul, neg_neg_mul]
theorem btw_nonneg {a c e p q : Pt} (h : btw a c e = true) (ha : 0 ≤ ar p q a) (hc : 0 ≤ ar p q c) : 0 ≤ ar p q e := by
  rcases Int.lt_trichotomy (ar p q c) (ar p q a) with z | z | z
  · have := (btw_aff h p q z).1; omega
  · obtain ⟨h0, h1, h2⟩ := btw_parts h
    have i1 : (c.1 - a.1) * (ar p q e - ar p q c) = (e.1 - c.1) * (ar p q c - ar p q a) + (q.1 - p.1) * ar a c e := by unfold ar; grind
    have i2 : (c.2 - a.2) * (ar p q e - ar p q c) = (e.2 - c.2) * (ar p q c - ar p q a) + (q.2 - p.2) * ar a c e := by unfold ar; grind
    rw [h0, z, Int.sub_self, Int.mul_zero, Int.mul_zero, Int.add_zero] at i1 i2
    rcases Int.mul_eq_zero.mp i1 with y | y
    · rcases Int.mul_eq_zero.mp i2 with x | x
      · have : e = a := Prod.ext (by omega) (by omega)
        rw [this]; exact ha
      · omega
    · omega
  · have := (btw_aff (btw_flip h) p q z).1; omega
theorem btw_trans {a f f0 p : Pt} (h : btw a f0 f = true) (hn : f ≠ a) (k : btw a f p = true) : btw a f0 p = true := by
  obtain ⟨h0, h1, h2⟩ := btw_parts h
  obtain ⟨k0, k1, k2⟩ := btw_parts k
  have i1 : (f.1 - a.1) * ar a f0 p = (p.1 - a.1) * ar a f0 f + (f0.1 - a.1) * ar a f p := by unfold ar; grind
  have i2 : (f.2 - a.2) * ar a f0 p = (p.2 - a.2) * ar a f0 f + (f0.2 - a.2) * ar a f p := by unfold ar; grind
  rw [h0, k0, Int.mul_zero, Int.mul_zero, Int.add_zero] at i1 i2
  have e0 : ar a f0 p = 0 := by
    rcases Int.mul_eq_zero.mp i1 with y | y
    · rcases Int.mul_eq_zero.mp i2 with x | x
      · exact absurd (Prod.ext (by omega) (by omega)) hn
      · exact x
    · exact y
  unfold btw
  rw [decide_eq_true e0, decide_eq_true (show min a.1 f0.1 ≤ p.1 by omega), decide_eq_true (show p.1 ≤ max a.1 f0.1 by omega), decide_eq_true (show min a.2 f0.2 ≤ p.2 by omega), decide_eq_true (show p.2 ≤ max a.2 f0.2 by omega)]
  rfl
theorem nearest {V : List Pt} {a f0 : Pt} (hf : f0 ∈ V) (hne : f0 ≠ a) : ∃ f ∈ V, f ≠ a ∧ (f = f0 ∨ btw a f0 f = true) ∧ ∀ p ∈ V, p ≠ a → p ≠ f → btw a f p = true → False := by
  have dec : ∀ c : Pt, Decidable (c ≠ a ∧ (c = f0 ∨ btw a f0 c = true)) := fun c => Classical.propDecidable _
  obtain ⟨f, hfm, hmax⟩ := exists_max (fun p : Pt => -(((p.1 - a.1).natAbs + (p.2 - a.2).natAbs : Nat) : Int)) (V.filter fun c => @decide _ (dec c)) (List.ne_nil_of_mem (List.mem_filter.mpr ⟨hf, @decide_eq_true _ (dec f0) ⟨hne, .inl rfl⟩⟩))
  obtain ⟨hfV, hd⟩ := List.mem_filter.mp hfm
  obtain ⟨hfa, hfo⟩ := @of_decide_eq_true _ (dec f) hd
  refine ⟨f, hfV, hfa, hfo, fun p hp hpa hpf hb => ?_⟩
  have hb2 : btw a f0 p = true := by
    rcases hfo with z | z
    · rw [← z]; exact hb
    · exact btw_trans z hfa hb
  have h1 := hmax p (List.mem_filter.mpr ⟨hp, @decide_eq_true _ (dec p) ⟨hpa, .inr hb2⟩⟩)
  obtain ⟨_, b1, b2⟩ := btw_parts hb
  apply hpf
  exact Prod.ext (by omega) (by omega)
section
variable {V : List Pt} {E : Pt → Pt → Prop}
/-- a pin in sight: what goes over the piece to it goes over a c too, but d e does not -/
theorem sight_step (N : Net V E) {a c d e : Pt} (hde : E d e) (hx : X a c d e) (hD : 0 < ar a c d) : ∃ f ∈ V, f ≠ a ∧ (0 ≤ ar a c f ∧ 0 ≤ ar a f d) ∧ (∀ p ∈ V, p ≠ a → p ≠ f → btw a f p = true → False) ∧ (∀ g h, E g h → X a f g h → X a c g h) ∧ ¬X a f d e := by
  have xn := X_ne1 hx
  have eo := id_or a c d e
  have ye := fac_neg hx.1 hD
  have hl : ar d e a < 0 := by
    rcases Int.lt_trichotomy (ar d e a) 0 with z | z | z
    · exact z
    · have := hx.2; rw [z] at this; simp at this
    · have := fac_neg hx.2 z; omega
  have dec : ∀ f, Decidable (f ≠ a ∧ 0 ≤ ar a f d ∧ 0 ≤ ar a c f ∧ 0 ≤ ar e d f) := fun c => Classical.propDecidable _
  have inQ : ∀ f ∈ V, f ≠ a → 0 ≤ ar a f d → 0 ≤ ar a c f → 0 ≤ ar e d f → f ∈ V.filter (fun f => @decide _ (dec f)) := fun f h h1 h2 h3 h4 => List.mem_filter.mpr ⟨h, @decide_eq_true _ (dec f) ⟨h1, h2, h3, h4⟩⟩
  have pos : ∀ f ∈ V.filter (fun f => @decide _ (dec f)), 0 < ar a c f + ar a f d := fun f hf => by
    obtain ⟨h1, h2, h3, _⟩ := @of_decide_eq_true _ (dec f) (List.mem_filter.mp hf).2
    rcases Int.lt_or_eq_of_le (show 0 ≤ ar a c f + ar a f d by omega) with z | z
    · exact z
    · exfalso
      have z1 : ar a c f = 0 := by omega
      have z2 : ar a f d = 0 := by omega
      have i1 : ar a c d * (f.1 - a.1) = ar a f d * (c.1 - a.1) + ar a c f * (d.1 - a.1) := by unfold ar; grind
      have i2 : ar a c d * (f.2 - a.2) = ar a f d * (c.2 - a.2) + ar a c f * (d.2 - a.2) := by unfold ar; grind
      rw [z1, z2, Int.zero_mul, Int.zero_mul, Int.add_zero] at i1 i2
      rcases Int.mul_eq_zero.mp i1 with y | y
      · omega
      · rcases Int.mul_eq_zero.mp i2 with x | x
        · omega
        · exact h1 (Prod.ext (by omega) (by omega))
  obtain ⟨f0, hf0, hm⟩ := exists_least (fun g h => 0 < ar a g h) (V.filter fun f => @decide _ (dec f)) (List.ne_nil_of_mem (inQ d (N.mem hde) xn.1 (by rw [ar_self2]; exact Int.le_refl _) (by omega) (by rw [ar_self2]; exact Int.le_refl _))) (fun x _ h => by rw [ar_self2] at h; omega) (fun x hx y hy z hz h k => by
    have px := pos x hx
    have py := pos y hy
    have pz := pos z hz
    have e : (ar a c x + ar a x d) * ar a y z - (ar a c y + ar a y d) * ar a x z + (ar a c z + ar a z d) * ar a x y = 0 := by unfold ar; grind
    have q1 := pos_mul px k
    have q2 := pos_mul pz h
    exact fac_pos (show 0 < (ar a c y + ar a y d) * ar a x z by omega) py)
  obtain ⟨hf0V, hq⟩ := List.mem_filter.mp hf0
  obtain ⟨n0, q1, q2, q3⟩ := @of_decide_eq_true _ (dec f0) hq
  obtain ⟨f, hfV, hfa, hfo, hclear⟩ := nearest hf0V n0
  have conv : ∀ p q, 0 ≤ ar p q a → 0 ≤ ar p q f0 → 0 ≤ ar p q f := fun p q h1 h2 => by
    rcases hfo with z | z
    · rw [z]; exact h2
    · exact btw_nonneg z h1 h2
  have fd : ∀ p, ar d a p = ar a p d := fun p => by unfold ar; grind
  have f1 : 0 ≤ ar a c f := conv a c (by rw [ar_self1]; exact Int.le_refl _) q2
  have f2 : 0 ≤ ar a f d := by
    have := conv d a (by rw [ar_self2]; exact Int.le_refl _) (by rw [fd]; exact q1)
    rw [fd] at this
    exact this
  have f3 : 0 ≤ ar e d f := conv e d (by rw [ar_flip]; omega) q3
  have least : ∀ g, g ∈ V.filter (fun f => @decide _ (dec f)) → ¬0 < ar a g f := fun g hg h => by
    have h1 := hm g hg
    have h2 := conv g a (by rw [ar_self2]; exact Int.le_refl _) (by rw [ar_flip]; omega)
    rw [ar_flip] at h2
    omega
  have one : ∀ g h, E g h → X a f g h → ar a f g < 0 → X a c g h := fun g h hgh hy hg => by
    rcases exit_geo hx hD f1 f2 f3 hy hg (N.apart hde hgh) with z | z
    · exact z
    · exfalso
      have e9 : ar a g f = - ar a f g := by unfold ar; grind
      exact least g (inQ g (N.mem hgh) (X_ne1 hy).1 z.1 z.2.1 z.2.2) (by omega)
  refine ⟨f, hfV, hfa, ⟨f1, f2⟩, hclear, fun g h hgh hy => ?_, fun z => ?_⟩
  · rcases Int.lt_trichotomy (ar a f g) 0 with z | z | z
    · exact one g h hgh hy z
    · have := hy.1; rw [z] at this; simp at this
    · exact X_flip2.mp (one h g (N.sym hgh) (X_flip2.mp hy) (fac_neg hy.1 z))
  · have h2 := fac_neg' z.2 hl
    rw [ar_flip] at h2
    omega
end
theorem filter_le {α : Type} {p q : α → Bool} : ∀ {l : List α}, (∀ x ∈ l, p x = true → q x = true) → (l.filter p).length ≤ (l.filter q).length
  | [], _ => Nat.le_refl _
  | x :: l, h => by
    have ih := filter_le (l := l) fun y hy => h y (List.mem_cons_of_mem _ hy)
    rw [List.filter_cons, List.filter_cons]
    cases e : p x with
    | true =>
      rw [h x List.mem_cons_self e]
      simp only [if_true, List.length_cons]
      omega
    | false =>
      simp only [Bool.false_eq_true, if_false]
      split
      · rw [List.length_cons]; omega
      · exact ih
theorem filter_lt {α : Type} {p q : α → Bool} : ∀ {l : List α} {z : α}, (∀ x ∈ l, p x = true → q x = true) → z ∈ l → q z = true → p z = false → (l.filter p).length < (l.filter q).length
  | x :: l, z, h, hz, hq, hp => by
    have le := filter_le (l := l) fun y hy => h y (List.mem_cons_of_mem _ hy)
    rw [List.filter_cons, List.filter_cons]
    rcases List.mem_cons.mp hz with e | e
    · subst e
      rw [hp, hq]
      simp only [Bool.false_eq_true, if_false, if_true, List.length_cons]
      omega
    · have ih := filter_lt (l := l) (fun y hy => h y (List.mem_cons_of_mem _ hy)) e hq hp
      cases e2 : p x with
      | true =>
        rw [h x List.mem_cons_self e2]
        simp only [if_true, List.length_cons]
        omega
      | false =>
        simp only [Bool.false_eq_true, if_false]
        split
        · rw [List.length_cons]; omega
        · exact ih
theorem btw_flp {a b c : Pt} : btw (flp a) (flp b) (flp c) = btw a b c := by
  unfold btw
  rw [ar_flp]
  have e : decide (-ar a b c = 0) = decide (ar a b c = 0) := decide_eq_decide.mpr (by omega)
  rw [e]
  exact Bool.and_right_comm _ _ _
section
variable {V : List Pt} {E : Pt → Pt → Prop}
theorem Net.flip (N : Net V E) : Net (V.map flp) (fun p q => E (flp p) (flp q)) := by
  have mem : ∀ {p : Pt}, p ∈ V.map flp → flp p ∈ V := fun {p} h => by
    obtain ⟨q, hq, rfl⟩ := List.mem_map.mp h
    exact hq
  have mem' : ∀ {p : Pt}, flp p ∈ V → p ∈ V.map flp := fun {p} h => List.mem_map.mpr ⟨flp p, h, rfl⟩
  have inj : ∀ {p q : Pt}, flp p = flp q → p = q := fun {p q} h => by
    have := congrArg flp h
    exact this
  refine ⟨fun h => N.sym h, fun h => mem' (N.mem h), fun h z => N.ne h (by rw [z]), fun {a b c} h hc n1 n2 k => N.clear h (mem hc) (fun z => n1 (inj z)) (fun z => n2 (inj z)) (by rw [btw_flp]; exact k), fun h k x => N.apart h k (X_flp.mpr x), fun {a b} ha hb n cl ng => ?_⟩
  refine N.full (mem ha) (mem hb) (fun z => n (inj z)) (fun c hc n1 n2 k => cl (flp c) (List.mem_map.mpr ⟨c, hc, rfl⟩) (fun z => n1 (by rw [← z]; rfl)) (fun z => n2 (by rw [← z]; rfl)) ?_) fun c d h x => ng (flp c) (flp d) h ?_
  · have := btw_flp (a := a) (b := b) (c := flp c)
    rw [← this]
    exact k
  · exact X_flp.mp x
theorem sight_step' (N : Net V E) {a c d e : Pt} (hde : E d e) (hx : X a c d e) (hD : ar a c d < 0) : ∃ f ∈ V, f ≠ a ∧ (ar a c f ≤ 0 ∧ ar a f d ≤ 0) ∧ (∀ p ∈ V, p ≠ a → p ≠ f → btw a f p = true → False) ∧ (∀ g h, E g h → X a f g h → X a c g h) ∧ ¬X a f d e := by
  obtain ⟨f, hf, n, ⟨q1, q2⟩, cl, ov, no⟩ := sight_step (N.flip) (a := flp a) (c := flp c) (d := flp d) (e := flp e) hde (X_flp.mpr hx) (by rw [ar_flp]; omega)
  obtain ⟨f', hf', rfl⟩ := List.mem_map.mp hf
  rw [ar_flp] at q1 q2
  refine ⟨f', hf', fun z => n (by rw [z]), ⟨by omega, by omega⟩, fun p hp n1 n2 k => cl (flp p) (List.mem_map.mpr ⟨p, hp, rfl⟩) (fun z => n1 (congrArg flp z)) (fun z => n2 (congrArg flp z)) (by rw [btw_flp]; exact k), fun g h hgh x => X_flp.mp (ov (flp g) (flp h) hgh (X_flp.mpr x)), fun x => no (X_flp.mpr x)⟩
open Classical in
/-- the gates over a piece -/
noncomputable def overs (V : List Pt) (E : Pt → Pt → Prop) (a c : Pt) : List (Pt × Pt) := (V.flatMap fun d => V.map fun e => (d, e)).filter fun de => decide (E de.1 de.2 ∧ X a c de.1 de.2)
theorem pair_mem {d e : Pt} (hd : d ∈ V) (he : e ∈ V) : (d, e) ∈ V.flatMap fun d => V.map fun e => (d, e) := List.mem_flatMap.mpr ⟨d, hd, List.mem_map.mpr ⟨e, he, rfl⟩⟩
open Classical in
theorem overs_pos {a c d e : Pt} (hd : d ∈ V) (he : e ∈ V) (hde : E d e) (hx : X a c d e) : 0 < (overs V E a c).length := by
  refine List.length_pos_of_mem (a := (d, e)) ?_
  unfold overs
  rw [List.mem_filter]
  exact ⟨pair_mem hd he, decide_eq_true ⟨hde, hx⟩⟩
open Classical in
theorem overs_lt {a c f d e : Pt} (h : ∀ g h, E g h → X a f g h → X a c g h) (hd : d ∈ V) (he : e ∈ V) (hde : E d e) (hx : X a c d e) (no : ¬X a f d e) : (overs V E a f).length < (overs V E a c).length := by
  unfold overs
  refine filter_lt (z := (d, e)) (fun x _ k => ?_) (pair_mem hd he) (decide_eq_true ⟨hde, hx⟩) (decide_eq_false fun z => no z.2)
  have k2 := of_decide_eq_true k
  exact decide_eq_true ⟨k2.1, h _ _ k2.1 k2.2⟩
/-- some gate goes to the left of a gate, where some pin is there -/
theorem sight (N : Net V E) {a b : Pt} (hab : E a b) : ∀ (n : Nat) (c : Pt), c ∈ V → 0 < ar a b c → (∀ p ∈ V, p ≠ a → p ≠ c → btw a c p = true → False) →
    (overs V E a c).length ≤ n → ∃ f, E a f ∧ 0 < ar a b f := by
  have mono : ∀ {c d e : Pt}, 0 < ar a b c → E d e → X a c d e → ∃ d e, E d e ∧ X a c d e ∧ 0 < ar a b d := by
    intro c d e hc hde hx
    by_cases k : 0 < ar a b d
    · exact ⟨d, e, hde, hx, k⟩
    by_cases k2 : 0 < ar a b e
    · exact ⟨e, d, N.sym hde, X_flip2.mp hx, k2⟩
    exfalso
    have ih : ar a c d * ar a b e - ar a c e * ar a b d = -(ar d e a * ar a b c) := by unfold ar; grind
    have eo := id_or a c d e
    rcases Int.lt_trichotomy (ar a c d) 0 with z | z | z
    · have y := fac_neg' hx.1 z
      have w1 := np_np (show ar a c d ≤ 0 by omega) (show ar a b e ≤ 0 by omega)
      have w2 := nn_np (show 0 ≤ ar a c e by omega) (show ar a b d ≤ 0 by omega)
      have hl : 0 < ar d e a := by
        rcases Int.lt_trichotomy (ar d e a) 0 with x | x | x
        · have := fac_neg' hx.2 x; omega
        · have := hx.2; rw [x] at this; simp at this
        · exact x
      have := pos_mul hl hc
      omega
    · have := hx.1; rw [z] at this; simp at this
    · have y := fac_neg hx.1 z
      have w1 := nn_np (show 0 ≤ ar a c d by omega) (show ar a b e ≤ 0 by omega)
      have w2 := np_np (show ar a c e ≤ 0 by omega) (show ar a b d ≤ 0 by omega)
      have hl : ar d e a < 0 := by
        rcases Int.lt_trichotomy (ar d e a) 0 with x | x | x
        · exact x
        · have := hx.2; rw [x] at this; simp at this
        · have := fac_neg hx.2 x; omega
      have := neg_mul' hl hc
      omega
  intro n
  induction n with
  | zero =>
    intro c hcV hc cl hn
    have hca : a ≠ c := fun z => by rw [← z, ar_self1] at hc; omega
    refine ⟨c, N.full (N.mem hab) hcV hca cl fun d e hde hx => ?_, hc⟩
    have := overs_pos (N.mem hde) (N.mem (N.sym hde)) hde hx
    omega
  | succ n ih =>
    intro c hcV hc cl hn
    have hca : a ≠ c := fun z => by rw [← z, ar_self1] at hc; omega
    by_cases hno : ∃ d e, E d e ∧ X a c d e
    · obtain ⟨d0, e0, h1, h2⟩ := hno
      obtain ⟨d, e, hde, hx, hd⟩ := mono hc h1 h2
      have go : ∀ f ∈ V, 0 < ar a b f → (∀ p ∈ V, p ≠ a → p ≠ f → btw a f p = true → False) → (∀ g h, E g h → X a f g h → X a c g h) → ¬X a f d e → ∃ f, E a f ∧ 0 < ar a b f := fun f hf hp hcl ov nov => by
        refine ih f hf hp hcl ?_
        have hlt := overs_lt ov (N.mem hde) (N.mem (N.sym hde)) hde hx nov
        omega
      have ic : ∀ f, ar a c d * ar a b f = ar a f d * ar a b c + ar a c f * ar a b d := fun f => by unfold ar; grind
      have off : ∀ f, f ≠ a → ar a c f = 0 → ar a f d = 0 → ar a c d = 0 := fun f hn z1 z2 => by
        have i1 : ar a c d * (f.1 - a.1) = ar a f d * (c.1 - a.1) + ar a c f * (d.1 - a.1) := by unfold ar; grind
        have i2 : ar a c d * (f.2 - a.2) = ar a f d * (c.2 - a.2) + ar a c f * (d.2 - a.2) := by unfold ar; grind
        rw [z1, z2, Int.zero_mul, Int.zero_mul, Int.add_zero] at i1 i2
        rcases Int.mul_eq_zero.mp i1 with y | y
        · exact y
        · rcases Int.mul_eq_zero.mp i2 with x | x
          · exact x
          · exact absurd (Prod.ext (by omega) (by omega)) hn
      rcases Int.lt_trichotomy (ar a c d) 0 with z | z | z
      · obtain ⟨f, hf, hfa, ⟨q1, q2⟩, hcl, ov, nov⟩ := sight_step' N hde hx z
        refine go f hf ?_ hcl ov nov
        have e1 := ic f
        have w1 := np_nn q2 (show 0 ≤ ar a b c by omega)
        have w2 := np_nn q1 (show 0 ≤ ar a b d by omega)
        refine fac_neg' (show ar a c d * ar a b f < 0 from ?_) z
        rcases Int.lt_or_eq_of_le q2 with y | y
        · have := neg_mul' y hc; omega
        · rcases Int.lt_or_eq_of_le q1 with x | x
          · have := neg_mul' x hd; omega
          · have := off f hfa x y; omega
      · have := hx.1; rw [z] at this; simp at this
      · obtain ⟨f, hf, hfa, ⟨q1, q2⟩, hcl, ov, nov⟩ := sight_step N hde hx z
        refine go f hf ?_ hcl ov nov
        have e1 := ic f
        have w1 := nn_nn q2 (show 0 ≤ ar a b c by omega)
        have w2 := nn_nn q1 (show 0 ≤ ar a b d by omega)
        refine fac_pos (show 0 < ar a c d * ar a b f from ?_) z
        rcases Int.lt_or_eq_of_le q2 with y | y
        · have := pos_mul y hc; omega
        · rcases Int.lt_or_eq_of_le q1 with x | x
          · have := pos_mul x hd; omega
          · have := off f hfa x.symm y.symm; omega
    · exact ⟨c, N.full (N.mem hab) hcV hca cl fun d e hde hx => hno ⟨d, e, hde, hx⟩, hc⟩
/-- a triangle beside a gate, where some pin is on that side -/
theorem beside_left (N : Net V E) {a b c : Pt} (hab : E a b) (hc : c ∈ V) (hl : 0 < ar a b c) : ∃ r, E a r ∧ E b r ∧ 0 < ar a b r ∧ ∀ p ∈ V, p ≠ a → p ≠ b → p ≠ r → ¬Tri a b r p := by
  have hca : c ≠ a := fun z => by rw [z, ar_self1] at hl; omega
  obtain ⟨f, hf, hfa, hfo, hcl⟩ := nearest hc hca
  have hfl : 0 < ar a b f := by
    rcases hfo with z | z
    · rw [z]; exact hl
    · have := (btw_aff (btw_flip z) a b (by rw [ar_self1]; exact hl)).2.2.1 hfa
      rw [ar_self1] at this
      exact this
  obtain ⟨g, hg, hgl⟩ := sight N hab _ f hf hfl hcl (Nat.le_refl _)
  exact tri_left N hab hg hgl
/-- some corner of three lies beyond a side of other three, or within -/
theorem not_in {a b r c : Pt} (h : ¬Tri a b r c) : ar b r c < 0 ∨ ar a c r < 0 ∨ ar a b c < 0 := by
  unfold Tri at h
  omega
end
theorem sgn_mul (x y : Int) : sgn x * sgn y < 0 ↔ x * y < 0 := by
  have s1 : ∀ z : Int, (0 < z ∧ sgn z = 1) ∨ (z < 0 ∧ sgn z = -1) ∨ (z = 0 ∧ sgn z = 0) := fun z => by
    unfold sgn
    by_cases h : 0 < z
    · rw [if_pos h]; exact .inl ⟨h, rfl⟩
    · rw [if_neg h]
      by_cases k : z < 0
      · rw [if_pos k]; exact .inr (.inl ⟨k, rfl⟩)
      · rw [if_neg k]; exact .inr (.inr ⟨by omega, rfl⟩)
  rcases s1 x with ⟨a, e⟩ | ⟨a, e⟩ | ⟨a, e⟩ <;> rcases s1 y with ⟨b, f⟩ | ⟨b, f⟩ | ⟨b, f⟩ <;> rw [e, f]
  · have := pos_mul a b; omega
  · have := mul_neg' a b; omega
  · rw [b]; simp
  · have := neg_mul' a b; omega
  · have := neg_neg' a b; omega
  · rw [b]; simp
  · rw [a]; simp
  · rw [a]; simp
  · rw [a]; simp
theorem crs_iff (a b c d : Pt) : crs a b c d = true ↔ X a b c d := by
  unfold crs X
  rw [Bool.and_eq_true, decide_eq_true_eq, decide_eq_true_eq, sgn_mul, sgn_mul]
end Z
namespace Z
open Tch
structure Bd (w h : Int) (rows : List R4) : Prop where
  w0 : 0 < w
  h0 : 0 < h
  inn : ∀ r ∈ rows, (0 < r.1 ∧ r.1 < w) ∧ 0 < r.2.1 ∧ r.2.1 < h
  nd : (rows.map fun r => (r.1, r.2.1)).Nodup
section
variable {w h : Int} {rows : List R4}
theorem spots_nd (B : Bd w h rows) : (spots w h rows).Nodup := by
  have hw := B.w0
  have hh := B.h0
  unfold spots
  rw [List.nodup_append]
  refine ⟨?_, B.nd, fun a ha b hb e => ?_⟩
  · simp [Prod.ext_iff]
    omega
  · obtain ⟨r, hr, rfl⟩ := List.mem_map.mp hb
    obtain ⟨h1, h2⟩ := B.inn r hr
    simp only [List.mem_cons, List.not_mem_nil, or_false] at ha
    rcases ha with z | z | z | z <;> rw [e] at z <;> simp only [Prod.ext_iff] at z <;> omega
theorem spot_inj (B : Bd w h rows) {i j : Int} (i0 : 0 ≤ i) (i1 : i < rows.length + 4) (j0 : 0 ≤ j) (j1 : j < rows.length + 4) (e : spAt (spots w h rows) i = spAt (spots w h rows) j) : i = j := by
  have li := spAt_at (sp := spots w h rows) i0 (by rw [spots_len]; omega)
  have lj := spAt_at (sp := spots w h rows) j0 (by rw [spots_len]; omega)
  rw [e] at li
  obtain ⟨h1, e1⟩ := List.getElem?_eq_some_iff.mp li
  obtain ⟨h2, e2⟩ := List.getElem?_eq_some_iff.mp lj
  have := (List.getElem_inj (spots_nd B)).mp (e1.trans e2.symm)
  omega
/-- every pin lies on the board -/
theorem spot_box (B : Bd w h rows) (i : Int) : (0 ≤ (spAt (spots w h rows) i).1 ∧ (spAt (spots w h rows) i).1 ≤ w) ∧ 0 ≤ (spAt (spots w h rows) i).2 ∧ (spAt (spots w h rows) i).2 ≤ h := by
  have hw := B.w0
  have hh := B.h0
  unfold spAt
  rw [List.getD_eq_getElem?_getD]
  cases e : (spots w h rows)[i.toNat]? with
  | none => simp; omega
  | some p =>
    have hp := List.mem_of_getElem? e
    unfold spots at hp
    rcases List.mem_append.mp hp with z | z
    · simp only [List.mem_cons, List.not_mem_nil, or_false] at z
      rcases z with z | z | z | z <;> (rw [z]; simp; omega)
    · obtain ⟨r, hr, rfl⟩ := List.mem_map.mp z
      obtain ⟨h1, h2⟩ := B.inn r hr
      simp
      omega
theorem sp0 : spAt (spots w h rows) 0 = (0, 0) := rfl
theorem sp1 : spAt (spots w h rows) 1 = (w, 0) := rfl
theorem sp2 : spAt (spots w h rows) 2 = (w, h) := rfl
theorem sp3 : spAt (spots w h rows) 3 = (0, h) := rfl
/-- what lies on the lower side is an end of it -/
theorem low_side (B : Bd w h rows) {i : Int} (i0 : 0 ≤ i) (i1 : i < rows.length + 4) (e : (spAt (spots w h rows) i).2 = 0) : i = 0 ∨ i = 1 := by
  have hh := B.h0
  have li := spAt_at (sp := spots w h rows) i0 (by rw [spots_len]; omega)
  by_cases h4 : i < 4
  · have : i = 0 ∨ i = 1 ∨ i = 2 ∨ i = 3 := by omega
    rcases this with z | z | z | z
    · exact .inl z
    · exact .inr z
    · subst z; rw [sp2] at e; simp at e; omega
    · subst z; rw [sp3] at e; simp at e; omega
  · exfalso
    unfold spots at li
    rw [List.getElem?_append_right (by simp; omega)] at li
    have hm := List.mem_of_getElem? li
    obtain ⟨r, hr, er⟩ := List.mem_map.mp hm
    obtain ⟨_, h2⟩ := B.inn r hr
    unfold spots at e
    rw [← er] at e
    simp at e
    omega
def VL (w h : Int) (rows : List R4) (lv : Int) : List Pt := (pinsOf rows lv).map (spAt (spots w h rows))
def EL (w h : Int) (rows : List R4) (lv : Int) (p q : Pt) : Prop := ∃ g ∈ gOf w h rows lv, (spAt (spots w h rows) g.1 = p ∧ spAt (spots w h rows) g.2 = q) ∨ (spAt (spots w h rows) g.2 = p ∧ spAt (spots w h rows) g.1 = q)
variable {lv : Int}
theorem pin_inj (B : Bd w h rows) {i j : Int} (hi : i ∈ pinsOf rows lv) (hj : j ∈ pinsOf rows lv) (e : spAt (spots w h rows) i = spAt (spots w h rows) j) : i = j := spot_inj B (pins_in hi).1 (pins_in hi).2 (pins_in hj).1 (pins_in hj).2 e
theorem crs_sym {sp : List Pt} {g g' : Pt} : crsG sp g g' = crsG sp g' g := crs_swap _ _ _ _
/-- no two gates cross -/
theorem gates_apart {sp : List Pt} {pins : List Int} (hn : pins.Nodup) {g g' : Pt} (hg : g ∈ gatesOf sp pins) (hg' : g' ∈ gatesOf sp pins) : crsG sp g g' = false := by
  have pr : ∀ {g : Pt}, g ∈ gatesOf sp pins → g ∈ pairsOf pins := fun {g} h => by
    obtain ⟨a, b, c, _⟩ := gate_pair h
    exact mem_pairs.mpr ⟨a, b, c⟩
  rcases lt3_tri (gkey sp g') (gkey sp g) with z | z | z
  · exact ((gate_iff hn (pr hg)).mp hg).2 g' hg' z
  · have e := gkey_inj z
    subst e
    by_cases q : crsG sp g' g' = true
    · exact absurd rfl (crsG_off q).1
    · simpa using q
  · rw [crs_sym]
    exact ((gate_iff hn (pr hg')).mp hg').2 g hg z
theorem net (B : Bd w h rows) : Net (VL w h rows lv) (EL w h rows lv) where
  sym := fun ⟨g, hg, z⟩ => ⟨g, hg, z.symm.imp And.symm And.symm⟩
  mem := fun ⟨g, hg, z⟩ => by
    obtain ⟨h1, h2, _⟩ := gate_pair hg
    rcases z with ⟨rfl, rfl⟩ | ⟨rfl, rfl⟩
    · exact List.mem_map.mpr ⟨_, h1, rfl⟩
    · exact List.mem_map.mpr ⟨_, h2, rfl⟩
  ne := fun ⟨g, hg, z⟩ e => by
    obtain ⟨h1, h2, h3, _⟩ := gate_pair hg
    have : g.1 = g.2 := by
      rcases z with ⟨a, b⟩ | ⟨a, b⟩
      · exact pin_inj B h1 h2 (by rw [a, b, e])
      · exact pin_inj B h1 h2 (by rw [a, b, e])
    omega
  clear := fun ⟨g, hg, z⟩ hc n1 n2 hb => by
    obtain ⟨h1, h2, h3, h4⟩ := gate_pair hg
    obtain ⟨r, hr, rfl⟩ := List.mem_map.mp hc
    rcases z with ⟨rfl, rfl⟩ | ⟨rfl, rfl⟩
    · rw [hits_no h4 hr (fun e => n1 (by rw [e])) (fun e => n2 (by rw [e]))] at hb
      cases hb
    · have hb := btw_flip hb
      rw [hits_no h4 hr (fun e => n2 (by rw [e])) (fun e => n1 (by rw [e]))] at hb
      cases hb
  apart := fun ⟨g, hg, z⟩ ⟨g', hg', z'⟩ hx => by
    have hf := gates_apart (pins_nodup rows lv) hg hg'
    have no : ¬X (spAt (spots w h rows) g.1) (spAt (spots w h rows) g.2) (spAt (spots w h rows) g'.1) (spAt (spots w h rows) g'.2) := fun k => by
      have := (crs_iff _ _ _ _).mpr k
      rw [show crs _ _ _ _ = crsG (spots w h rows) g g' from rfl, hf] at this
      cases this
    rcases z with ⟨rfl, rfl⟩ | ⟨rfl, rfl⟩ <;> rcases z' with ⟨rfl, rfl⟩ | ⟨rfl, rfl⟩
    · exact no hx
    · exact no (X_flip2.mp hx)
    · exact no (X_flip1.mp hx)
    · exact no (X_flip1.mp (X_flip2.mp hx))
  full := fun {a b} ha hb hne hcl hno => by
    obtain ⟨i, hi, rfl⟩ := List.mem_map.mp ha
    obtain ⟨j, hj, rfl⟩ := List.mem_map.mp hb
    have key : ∀ i j, i ∈ pinsOf rows lv → j ∈ pinsOf rows lv → i < j → (∀ c ∈ VL w h rows lv, c ≠ spAt (spots w h rows) i → c ≠ spAt (spots w h rows) j → btw (spAt (spots w h rows) i) (spAt (spots w h rows) j) c = true → False) →
        (∀ c d, EL w h rows lv c d → X (spAt (spots w h rows) i) (spAt (spots w h rows) j) c d → False) → (i, j) ∈ gOf w h rows lv := fun i j hi hj hlt hcl hno => by
      refine (gate_iff (pins_nodup rows lv) (mem_pairs.mpr ⟨hi, hj, hlt⟩)).mpr ⟨?_, fun g' hg' _ => ?_⟩
      · unfold hits
        rw [List.any_eq_false]
        intro r hr q
        simp only [Bool.and_eq_true, Bool.not_eq_true', Bool.or_eq_false_iff, decide_eq_false_iff_not] at q
        exact hcl _ (List.mem_map.mpr ⟨r, hr, rfl⟩) (fun e => q.1.1 (pin_inj B hr hi e)) (fun e => q.1.2 (pin_inj B hr hj e)) q.2
      · by_cases q : crsG (spots w h rows) (i, j) g' = true
        · exact (hno _ _ ⟨g', hg', .inl ⟨rfl, rfl⟩⟩ ((crs_iff _ _ _ _).mp q)).elim
        · simpa using q
    rcases Int.lt_trichotomy i j with z | z | z
    · exact ⟨(i, j), key i j hi hj z hcl hno, .inl ⟨rfl, rfl⟩⟩
    · exact absurd (by rw [z]) hne
    · exact ⟨(j, i), key j i hj hi z (fun c hc n1 n2 hb => hcl c hc n2 n1 (btw_flip hb)) (fun c d hcd hx => hno c d hcd (X_flip1.mp hx)), .inr ⟨rfl, rfl⟩⟩
theorem corner_pin {i : Int} (h0 : 0 ≤ i) (h1 : i < 4) : i ∈ pinsOf rows lv := by
  unfold pinsOf
  refine List.mem_append_left _ ?_
  simp only [List.mem_cons, List.not_mem_nil, or_false]
  omega
/-- two pins that are a gate by their spots -/
theorem gate_of_E (B : Bd w h rows) {i j : Int} (hi : i ∈ pinsOf rows lv) (hj : j ∈ pinsOf rows lv) (hlt : i < j) (e : EL w h rows lv (spAt (spots w h rows) i) (spAt (spots w h rows) j)) : (i, j) ∈ gOf w h rows lv := by
  obtain ⟨g, hg, z⟩ := e
  obtain ⟨h1, h2, h3, _⟩ := gate_pair hg
  rcases z with ⟨a, b⟩ | ⟨a, b⟩
  · have e1 := pin_inj B h1 hi a
    have e2 := pin_inj B h2 hj b
    have : g = (i, j) := Prod.ext e1 e2
    rw [← this]
    exact hg
  · have e1 := pin_inj B h2 hi a
    have e2 := pin_inj B h1 hj b
    omega
/-- the lower side is a gate -/
theorem low_gate (B : Bd w h rows) : (0, 1) ∈ gOf w h rows lv := by
  have hw := B.w0
  have c0 : (0 : Int) ∈ pinsOf rows lv := corner_pin (by decide) (by decide)
  have c1 : (1 : Int) ∈ pinsOf rows lv := corner_pin (by decide) (by decide)
  refine gate_of_E B c0 c1 (by decide) ((net B).full (List.mem_map.mpr ⟨0, c0, rfl⟩) (List.mem_map.mpr ⟨1, c1, rfl⟩) ?_ (fun c hc n1 n2 hb => ?_) (fun c d hcd hx => ?_))
  · rw [sp0, sp1]
    simp [Prod.ext_iff]
    omega
  · obtain ⟨r, hr, rfl⟩ := List.mem_map.mp hc
    have hz : (spAt (spots w h rows) r).2 = 0 := by
      have h1 := (btw_parts hb).1
      rw [sp0, sp1] at h1
      unfold ar at h1
      simp only [Int.sub_zero, Int.zero_mul] at h1
      rcases Int.mul_eq_zero.mp h1 with z | z
      · omega
      · exact z
    rcases low_side B (pins_in hr).1 (pins_in hr).2 hz with z | z
    · subst z; exact n1 rfl
    · subst z; exact n2 rfl
  · have pos : ∀ p ∈ VL w h rows lv, 0 ≤ ar (spAt (spots w h rows) 0) (spAt (spots w h rows) 1) p := fun p hp => by
      obtain ⟨r, hr, rfl⟩ := List.mem_map.mp hp
      have hb := spot_box B r
      rw [sp0, sp1]
      unfold ar
      simp only [Int.sub_zero, Int.zero_mul]
      exact nn_nn (by omega) hb.2.1
    have := nn_nn (pos c ((net B).mem hcd)) (pos d ((net B).mem ((net B).sym hcd)))
    have := hx.1
    omega
end
theorem mem_tris {sp : List Pt} {pins : List Int} {gs : List Pt} {t : Int × Int × Int} : t ∈ trisOf sp pins gs ↔ (t.1, t.2.1) ∈ gs ∧ t.2.2 ∈ pins ∧ t.2.1 < t.2.2 ∧ (t.1, t.2.2) ∈ gs ∧ (t.2.1, t.2.2) ∈ gs ∧ emptyT sp pins t = true := by
  unfold trisOf
  rw [List.mem_flatMap]
  constructor
  · rintro ⟨g, hg, h⟩
    obtain ⟨h1, h2⟩ := List.mem_filter.mp h
    obtain ⟨r, hr, rfl⟩ := List.mem_map.mp h1
    obtain ⟨h3, h4⟩ := List.mem_filter.mp hr
    simp only [Bool.and_eq_true, decide_eq_true_eq] at h4
    exact ⟨hg, h3, h4.1, h4.2.1, h4.2.2, h2⟩
  · rintro ⟨h1, h2, h3, h4, h5, h6⟩
    refine ⟨(t.1, t.2.1), h1, List.mem_filter.mpr ⟨List.mem_map.mpr ⟨t.2.2, List.mem_filter.mpr ⟨h2, ?_⟩, rfl⟩, h6⟩⟩
    simp only [Bool.and_eq_true, decide_eq_true_eq]
    exact ⟨h3, h4, h5⟩
theorem sgn_one {x : Int} : sgn x = 1 ↔ 0 < x := by
  unfold sgn
  split
  · omega
  · split <;> omega
theorem sgn_neg {x : Int} : sgn x = -1 ↔ x < 0 := by
  unfold sgn
  split
  · omega
  · split <;> omega
theorem sgn_nil {x : Int} : sgn x = 0 ↔ x = 0 := by
  unfold sgn
  split
  · omega
  · split <;> omega
/-- strictly within, whichever way round -/
def Ins (a b c p : Pt) : Prop := (0 < ar a b p ∧ 0 < ar b c p ∧ 0 < ar c a p) ∨ (ar a b p < 0 ∧ ar b c p < 0 ∧ ar c a p < 0)
theorem ins_sum (a b c p : Pt) : ar a b p + ar b c p + ar c a p = ar a b c := by unfold ar; grind
theorem empty_iff {sp : List Pt} {pins : List Int} {t : Int × Int × Int} : emptyT sp pins t = true ↔ ar (spAt sp t.1) (spAt sp t.2.1) (spAt sp t.2.2) ≠ 0 ∧ ∀ r ∈ pins, ¬Ins (spAt sp t.1) (spAt sp t.2.1) (spAt sp t.2.2) (spAt sp r) := by
  unfold emptyT
  simp only [Bool.and_eq_true, Bool.not_eq_true', decide_eq_false_iff_not, List.all_eq_true]
  rw [sgn_nil]
  refine and_congr_right fun hne => forall_congr' fun r => forall_congr' fun hr => ?_
  rw [Bool.and_eq_false_iff, Bool.and_eq_false_iff]
  simp only [decide_eq_false_iff_not]
  have hs := ins_sum (spAt sp t.1) (spAt sp t.2.1) (spAt sp t.2.2) (spAt sp r)
  unfold Ins
  rcases Int.lt_or_gt_of_ne hne with z | z
  · rw [sgn_neg.mpr z, sgn_neg, sgn_neg, sgn_neg]
    constructor
    · intro k
      omega
    · intro k
      omega
  · rw [sgn_one.mpr z, sgn_one, sgn_one, sgn_one]
    constructor
    · intro k
      omega
    · intro k
      omega
def inT3 (p : Int) (t : Int × Int × Int) : Bool := decide (p ∈ [t.1, t.2.1, t.2.2])
theorem inT3_iff {p : Int} {t : Int × Int × Int} : inT3 p t = true ↔ p = t.1 ∨ p = t.2.1 ∨ p = t.2.2 := by
  unfold inT3
  simp
abbrev sharedL (t t' : Int × Int × Int) : List Int := [t.1, t.2.1, t.2.2].filter fun x => inT3 x t'
section
variable {w h lv : Int} {rows : List R4}
abbrev trL (w h : Int) (rows : List R4) (lv : Int) : List (Int × Int × Int) := trisOf (spots w h rows) (pinsOf rows lv) (gOf w h rows lv)
/-- three pins, each two a gate, nothing within: a triangle -/
theorem tri_of (B : Bd w h rows) {i j k : Int} (hi : i ∈ pinsOf rows lv) (hj : j ∈ pinsOf rows lv) (hk : k ∈ pinsOf rows lv) (e1 : EL w h rows lv (spAt (spots w h rows) i) (spAt (spots w h rows) j)) (e2 : EL w h rows lv (spAt (spots w h rows) i) (spAt (spots w h rows) k)) (e3 : EL w h rows lv (spAt (spots w h rows) j) (spAt (spots w h rows) k))
    (hD : 0 < ar (spAt (spots w h rows) i) (spAt (spots w h rows) j) (spAt (spots w h rows) k)) (hno : ∀ p ∈ VL w h rows lv, p ≠ spAt (spots w h rows) i → p ≠ spAt (spots w h rows) j → p ≠ spAt (spots w h rows) k → ¬Tri (spAt (spots w h rows) i) (spAt (spots w h rows) j) (spAt (spots w h rows) k) p) :
    ∃ t ∈ trL w h rows lv, ∀ x, inT3 x t = true ↔ x = i ∨ x = j ∨ x = k := by
  have N := net (lv := lv) B
  have nij : i ≠ j := fun e => N.ne e1 (by rw [e])
  have nik : i ≠ k := fun e => N.ne e2 (by rw [e])
  have njk : j ≠ k := fun e => N.ne e3 (by rw [e])
  -- nothing within, by areas
  have core : ∀ p ∈ pinsOf rows lv, ¬(0 < ar (spAt (spots w h rows) i) (spAt (spots w h rows) j) (spAt (spots w h rows) p) ∧ 0 < ar (spAt (spots w h rows) j) (spAt (spots w h rows) k) (spAt (spots w h rows) p) ∧ 0 < ar (spAt (spots w h rows) k) (spAt (spots w h rows) i) (spAt (spots w h rows) p)) := fun p hp ⟨h1, h2, h3⟩ => by
    by_cases pi : p = i
    · subst pi; rw [ar_self1] at h1; omega
    by_cases pj : p = j
    · subst pj; rw [ar_self2] at h1; omega
    by_cases pk : p = k
    · subst pk; rw [ar_self1] at h3; omega
    refine hno _ (List.mem_map.mpr ⟨p, hp, rfl⟩) (fun e => pi (pin_inj B hp hi e)) (fun e => pj (pin_inj B hp hj e)) (fun e => pk (pin_inj B hp hk e)) ?_
    refine ⟨Int.le_of_lt h2, ?_, Int.le_of_lt h1⟩
    rw [← ar_rot]
    exact Int.le_of_lt h3
  have sum := fun p => ins_sum (spAt (spots w h rows) i) (spAt (spots w h rows) j) (spAt (spots w h rows) k) p
  have fl := fun a b c => ar_flip (spAt (spots w h rows) a) (spAt (spots w h rows) b) c
  have main : ∀ a b c : Int, a ∈ pinsOf rows lv → b ∈ pinsOf rows lv → c ∈ pinsOf rows lv → a < b → b < c → EL w h rows lv (spAt (spots w h rows) a) (spAt (spots w h rows) b) → EL w h rows lv (spAt (spots w h rows) a) (spAt (spots w h rows) c) → EL w h rows lv (spAt (spots w h rows) b) (spAt (spots w h rows) c) →
      ar (spAt (spots w h rows) a) (spAt (spots w h rows) b) (spAt (spots w h rows) c) ≠ 0 → (∀ p ∈ pinsOf rows lv, ¬Ins (spAt (spots w h rows) a) (spAt (spots w h rows) b) (spAt (spots w h rows) c) (spAt (spots w h rows) p)) → (a, b, c) ∈ trL w h rows lv := fun a b c ha hb hc hab hbc f1 f2 f3 hne hin =>
    mem_tris.mpr ⟨gate_of_E B ha hb hab f1, hc, hbc, gate_of_E B ha hc (Int.lt_trans hab hbc) f2, gate_of_E B hb hc hbc f3, empty_iff.mpr ⟨hne, hin⟩⟩
  have rot1 := ar_rot (spAt (spots w h rows) i) (spAt (spots w h rows) j) (spAt (spots w h rows) k)
  have rot2 := ar_rot (spAt (spots w h rows) j) (spAt (spots w h rows) k) (spAt (spots w h rows) i)
  have f1 := ar_flip (spAt (spots w h rows) i) (spAt (spots w h rows) j) (spAt (spots w h rows) k)
  have f2 := ar_flip (spAt (spots w h rows) j) (spAt (spots w h rows) k) (spAt (spots w h rows) i)
  have f3 := ar_flip (spAt (spots w h rows) k) (spAt (spots w h rows) i) (spAt (spots w h rows) j)
  have ins : ∀ p ∈ pinsOf rows lv, ∀ a b c : Int, (a = i ∧ b = j ∧ c = k) ∨ (a = j ∧ b = k ∧ c = i) ∨ (a = k ∧ b = i ∧ c = j) ∨ (a = j ∧ b = i ∧ c = k) ∨ (a = i ∧ b = k ∧ c = j) ∨ (a = k ∧ b = j ∧ c = i) → ¬Ins (spAt (spots w h rows) a) (spAt (spots w h rows) b) (spAt (spots w h rows) c) (spAt (spots w h rows) p) := fun p hp a b c hc => by
    have hco := core p hp
    have s := sum (spAt (spots w h rows) p)
    have g1 := fl i j (spAt (spots w h rows) p)
    have g2 := fl j k (spAt (spots w h rows) p)
    have g3 := fl k i (spAt (spots w h rows) p)
    unfold Ins
    rcases hc with ⟨rfl, rfl, rfl⟩ | ⟨rfl, rfl, rfl⟩ | ⟨rfl, rfl, rfl⟩ | ⟨rfl, rfl, rfl⟩ | ⟨rfl, rfl, rfl⟩ | ⟨rfl, rfl, rfl⟩ <;> omega
  have lt : ∀ {a b : Int}, a ≠ b → a < b ∨ b < a := fun h => Int.lt_or_gt_of_ne h
  rcases lt nij with z1 | z1
  · rcases lt njk with z2 | z2
    · exact ⟨(i, j, k), main i j k hi hj hk z1 z2 e1 e2 e3 (by omega) (fun p hp => ins p hp _ _ _ (.inl ⟨rfl, rfl, rfl⟩)), fun x => inT3_iff⟩
    · rcases lt nik with z3 | z3
      · exact ⟨(i, k, j), main i k j hi hk hj z3 z2 e2 e1 (N.sym e3) (by omega) (fun p hp => ins p hp _ _ _ (by simp)), fun x => by rw [inT3_iff]; dsimp only; omega⟩
      · exact ⟨(k, i, j), main k i j hk hi hj z3 z1 (N.sym e2) (N.sym e3) e1 (by omega) (fun p hp => ins p hp _ _ _ (by simp)), fun x => by rw [inT3_iff]; dsimp only; omega⟩
  · rcases lt nik with z2 | z2
    · exact ⟨(j, i, k), main j i k hj hi hk z1 z2 (N.sym e1) e3 e2 (by omega) (fun p hp => ins p hp _ _ _ (by simp)), fun x => by rw [inT3_iff]; dsimp only; omega⟩
    · rcases lt njk with z3 | z3
      · exact ⟨(j, k, i), main j k i hj hk hi z3 z2 e3 (N.sym e1) (N.sym e2) (by omega) (fun p hp => ins p hp _ _ _ (by simp)), fun x => by rw [inT3_iff]; dsimp only; omega⟩
      · exact ⟨(k, j, i), main k j i hk hj hi z3 z1 (N.sym e3) (N.sym e2) (N.sym e1) (by omega) (fun p hp => ins p hp _ _ _ (by simp)), fun x => by rw [inT3_iff]; dsimp only; omega⟩
/-- a triangle left of a gate, where some pin is there -/
theorem tri_beside (B : Bd w h rows) {i j c : Int} (hi : i ∈ pinsOf rows lv) (hj : j ∈ pinsOf rows lv) (hc : c ∈ pinsOf rows lv) (e : EL w h rows lv (spAt (spots w h rows) i) (spAt (spots w h rows) j)) (hl : 0 < ar (spAt (spots w h rows) i) (spAt (spots w h rows) j) (spAt (spots w h rows) c)) :
    ∃ k ∈ pinsOf rows lv, 0 < ar (spAt (spots w h rows) i) (spAt (spots w h rows) j) (spAt (spots w h rows) k) ∧ ∃ t ∈ trL w h rows lv, ∀ x, inT3 x t = true ↔ x = i ∨ x = j ∨ x = k := by
  obtain ⟨r, h1, h2, h3, h4⟩ := beside_left (net (lv := lv) B) e (List.mem_map.mpr ⟨c, hc, rfl⟩) hl
  obtain ⟨k, hk, rfl⟩ := List.mem_map.mp ((net (lv := lv) B).mem ((net (lv := lv) B).sym h1))
  exact ⟨k, hk, h3, tri_of B hi hj hk e h1 h2 h3 h4⟩
/-- each layer has a triangle -/
theorem tris_some (B : Bd w h rows) : ∃ t, t ∈ trL w h rows lv := by
  have c0 : (0 : Int) ∈ pinsOf rows lv := corner_pin (by decide) (by decide)
  have c1 : (1 : Int) ∈ pinsOf rows lv := corner_pin (by decide) (by decide)
  have c2 : (2 : Int) ∈ pinsOf rows lv := corner_pin (by decide) (by decide)
  obtain ⟨_, _, _, t, ht, _⟩ := tri_beside B c0 c1 c2 ⟨(0, 1), low_gate B, .inl ⟨rfl, rfl⟩⟩ (by
    rw [sp0, sp1, sp2]
    unfold ar
    simp only [Int.sub_zero, Int.zero_mul]
    exact pos_mul B.w0 B.h0)
  exact ⟨t, ht⟩
/-- what a triangle is made of -/
structure Tr (w h : Int) (rows : List R4) (lv : Int) (t : Int × Int × Int) : Prop where
  p1 : t.1 ∈ pinsOf rows lv
  p2 : t.2.1 ∈ pinsOf rows lv
  p3 : t.2.2 ∈ pinsOf rows lv
  l1 : t.1 < t.2.1
  l2 : t.2.1 < t.2.2
  g1 : (t.1, t.2.1) ∈ gOf w h rows lv
  g2 : (t.1, t.2.2) ∈ gOf w h rows lv
  g3 : (t.2.1, t.2.2) ∈ gOf w h rows lv
  em : emptyT (spots w h rows) (pinsOf rows lv) t = true
theorem tr_of {t : Int × Int × Int} (ht : t ∈ trL w h rows lv) : Tr w h rows lv t := by
  obtain ⟨h1, h2, h3, h4, h5, h6⟩ := mem_tris.mp ht
  obtain ⟨a, b, c, _⟩ := gate_pair h1
  exact ⟨a, b, h2, c, h3, h1, h4, h5, h6⟩
/-- in a triangle, its sides too, there is no other pin -/
theorem tri_clear (B : Bd w h rows) {a b c : Pt} (N : Net (VL w h rows lv) (EL w h rows lv)) (e1 : EL w h rows lv a b) (e2 : EL w h rows lv a c) (e3 : EL w h rows lv b c) (hD : 0 < ar a b c) (hno : ∀ p ∈ VL w h rows lv, ¬(0 < ar a b p ∧ 0 < ar b c p ∧ 0 < ar c a p)) :
    ∀ p ∈ VL w h rows lv, p ≠ a → p ≠ b → p ≠ c → ¬Tri a b c p := fun p hp na nb nc ⟨h1, h2, h3⟩ => by
  have r1 := ar_rot a p c
  have r2 := ar_rot p c a
  have r3 := ar_rot a b c
  have r4 := ar_rot b c a
  rcases Int.lt_or_eq_of_le h3 with z3 | z3
  · rcases Int.lt_or_eq_of_le h1 with z1 | z1
    · rcases Int.lt_or_eq_of_le h2 with z2 | z2
      · exact hno p hp ⟨z3, z1, by omega⟩
      · refine N.clear (N.sym e2) hp nc na (btw_tri (a := c) (b := a) (r := b) (by omega) (by omega) ?_ ?_)
        · have := ar_rot b c p; have := ar_rot c p b; omega
        · exact h3
    · refine N.clear e3 hp nb nc (btw_tri (a := b) (b := c) (r := a) (by omega) z1.symm ?_ ?_)
      · have := ar_rot a b p; have := ar_rot b p a; omega
      · omega
  · exact N.clear e1 hp na nb (btw_tri hD z3.symm h2 h1)
/-- each triangle has another one beside it -/
theorem tri_next (B : Bd w h rows) {t : Int × Int × Int} (ht : t ∈ trL w h rows lv) : ∃ t' ∈ trL w h rows lv, t' ≠ t ∧ (sharedL t t').length = 2 := by
  have T := tr_of ht
  have N := net (lv := lv) B
  obtain ⟨hne, hin⟩ := empty_iff.mp T.em
  have E : ∀ {g : Pt}, g ∈ gOf w h rows lv → EL w h rows lv (spAt (spots w h rows) g.1) (spAt (spots w h rows) g.2) := fun {g} hg => ⟨g, hg, .inl ⟨rfl, rfl⟩⟩
  have k1 := E T.g1
  have k2 := E T.g2
  have k3 := E T.g3
  dsimp only at k1 k2 k3
  -- corners in the left turning order
  have main : ∀ i j k : Int, i ∈ pinsOf rows lv → j ∈ pinsOf rows lv → k ∈ pinsOf rows lv → EL w h rows lv (spAt (spots w h rows) i) (spAt (spots w h rows) j) → EL w h rows lv (spAt (spots w h rows) i) (spAt (spots w h rows) k) → EL w h rows lv (spAt (spots w h rows) j) (spAt (spots w h rows) k) →
      0 < ar (spAt (spots w h rows) i) (spAt (spots w h rows) j) (spAt (spots w h rows) k) → (∀ p ∈ VL w h rows lv, ¬(0 < ar (spAt (spots w h rows) i) (spAt (spots w h rows) j) p ∧ 0 < ar (spAt (spots w h rows) j) (spAt (spots w h rows) k) p ∧ 0 < ar (spAt (spots w h rows) k) (spAt (spots w h rows) i) p)) →
      ∃ a b c k', ((a = i ∧ b = j ∧ c = k) ∨ (a = j ∧ b = k ∧ c = i) ∨ (a = k ∧ b = i ∧ c = j)) ∧ k' ≠ c ∧ k' ≠ a ∧ k' ≠ b ∧ ∃ t' ∈ trL w h rows lv, ∀ x, inT3 x t' = true ↔ x = a ∨ x = b ∨ x = k' := fun i j k hi hj hk e1 e2 e3 hD hno => by
    have clr := tri_clear B N e1 e2 e3 hD hno
    obtain ⟨v, hv, ni, nj, nk⟩ : ∃ v, v ∈ pinsOf rows lv ∧ v ≠ i ∧ v ≠ j ∧ v ≠ k := by
      have c : ∀ v : Int, 0 ≤ v → v < 4 → v ∈ pinsOf rows lv := fun v h0 h1 => corner_pin h0 h1
      by_cases q0 : 0 ≠ i ∧ 0 ≠ j ∧ 0 ≠ k
      · exact ⟨0, c 0 (by decide) (by decide), q0⟩
      by_cases q1 : 1 ≠ i ∧ 1 ≠ j ∧ 1 ≠ k
      · exact ⟨1, c 1 (by decide) (by decide), q1⟩
      by_cases q2 : 2 ≠ i ∧ 2 ≠ j ∧ 2 ≠ k
      · exact ⟨2, c 2 (by decide) (by decide), q2⟩
      exact ⟨3, c 3 (by decide) (by decide), by omega, by omega, by omega⟩
    have nt := clr _ (List.mem_map.mpr ⟨v, hv, rfl⟩) (fun e => ni (pin_inj B hv hi e)) (fun e => nj (pin_inj B hv hj e)) (fun e => nk (pin_inj B hv hk e))
    have step : ∀ a b c : Int, a ∈ pinsOf rows lv → b ∈ pinsOf rows lv → EL w h rows lv (spAt (spots w h rows) a) (spAt (spots w h rows) b) → 0 < ar (spAt (spots w h rows) a) (spAt (spots w h rows) b) (spAt (spots w h rows) c) → ar (spAt (spots w h rows) a) (spAt (spots w h rows) b) (spAt (spots w h rows) v) < 0 →
        ∃ k', k' ≠ c ∧ k' ≠ a ∧ k' ≠ b ∧ ∃ t' ∈ trL w h rows lv, ∀ x, inT3 x t' = true ↔ x = a ∨ x = b ∨ x = k' := fun a b c ha hb e hc hv2 => by
      obtain ⟨k', hk', hpos, t', ht', hm⟩ := tri_beside B hb ha hv (N.sym e) (by rw [ar_flip]; omega)
      refine ⟨k', fun z => ?_, fun z => ?_, fun z => ?_, t', ht', fun x => ?_⟩
      · rw [z, ar_flip] at hpos; omega
      · rw [z, ar_self2] at hpos; omega
      · rw [z, ar_self1] at hpos; omega
      · rw [hm]; omega
    have rr := ar_rot (spAt (spots w h rows) i) (spAt (spots w h rows) j) (spAt (spots w h rows) k)
    have rr2 := ar_rot (spAt (spots w h rows) j) (spAt (spots w h rows) k) (spAt (spots w h rows) i)
    rcases not_in nt with z | z | z
    · obtain ⟨k', a1, a2, a3, a4⟩ := step j k i hj hk e3 (by omega) z
      exact ⟨j, k, i, k', .inr (.inl ⟨rfl, rfl, rfl⟩), a1, a2, a3, a4⟩
    · obtain ⟨k', a1, a2, a3, a4⟩ := step k i j hk hi (N.sym e2) (by omega) (by rw [ar_rot]; exact z)
      exact ⟨k, i, j, k', .inr (.inr ⟨rfl, rfl, rfl⟩), a1, a2, a3, a4⟩
    · obtain ⟨k', a1, a2, a3, a4⟩ := step i j k hi hj e1 hD z
      exact ⟨i, j, k, k', .inl ⟨rfl, rfl, rfl⟩, a1, a2, a3, a4⟩
  have l1 := T.l1
  have l2 := T.l2
  have finish : ∀ a b c k', a ≠ b → a ≠ c → b ≠ c → (∀ x, (x = a ∨ x = b ∨ x = c) ↔ (x = t.1 ∨ x = t.2.1 ∨ x = t.2.2)) → k' ≠ c → k' ≠ a → k' ≠ b → (∃ t' ∈ trL w h rows lv, ∀ x, inT3 x t' = true ↔ x = a ∨ x = b ∨ x = k') → ∃ t' ∈ trL w h rows lv, t' ≠ t ∧ (sharedL t t').length = 2 := fun a b c k' nab nac nbc hs n1 n2 n3 ⟨t', ht', hm⟩ => by
    refine ⟨t', ht', fun e => ?_, ?_⟩
    · have z1 := (hm k').mpr (.inr (.inr rfl))
      rw [e, inT3_iff] at z1
      have := (hs k').mpr z1
      omega
    · have x1 := (hs t.1).mpr (.inl rfl)
      have x2 := (hs t.2.1).mpr (.inr (.inl rfl))
      have x3 := (hs t.2.2).mpr (.inr (.inr rfl))
      have b1 : ∀ x : Int, inT3 x t' = decide (x = a ∨ x = b ∨ x = k') := fun x => by rw [Bool.eq_iff_iff, hm, decide_eq_true_eq]
      unfold sharedL
      rw [List.filter_cons, List.filter_cons, List.filter_cons, List.filter_nil, b1, b1, b1]
      have c1 : (t.1 = a ∨ t.1 = b ∨ t.1 = k') ↔ t.1 ≠ c := by omega
      have c2 : (t.2.1 = a ∨ t.2.1 = b ∨ t.2.1 = k') ↔ t.2.1 ≠ c := by omega
      have c3 : (t.2.2 = a ∨ t.2.2 = b ∨ t.2.2 = k') ↔ t.2.2 ≠ c := by omega
      rw [decide_eq_decide.mpr c1, decide_eq_decide.mpr c2, decide_eq_decide.mpr c3]
      have hc := (hs c).mp (.inr (.inr rfl))
      rcases hc with z | z | z
      · rw [decide_eq_false (p := t.1 ≠ c) (by omega), decide_eq_true (p := t.2.1 ≠ c) (by omega), decide_eq_true (p := t.2.2 ≠ c) (by omega)]; rfl
      · rw [decide_eq_true (p := t.1 ≠ c) (by omega), decide_eq_false (p := t.2.1 ≠ c) (by omega), decide_eq_true (p := t.2.2 ≠ c) (by omega)]; rfl
      · rw [decide_eq_true (p := t.1 ≠ c) (by omega), decide_eq_true (p := t.2.1 ≠ c) (by omega), decide_eq_false (p := t.2.2 ≠ c) (by omega)]; rfl
  rcases Int.lt_or_gt_of_ne hne with z | z
  · obtain ⟨a, b, c, k', hp, n1, n2, n3, ht'⟩ := main t.2.1 t.1 t.2.2 T.p2 T.p1 T.p3 (N.sym k1) k3 k2 (by rw [ar_flip]; omega) (fun p hp ⟨h1, h2, h3⟩ => by
      obtain ⟨r, hr, rfl⟩ := List.mem_map.mp hp
      refine hin r hr (.inr ⟨?_, ?_, ?_⟩)
      · have := ar_flip (spAt (spots w h rows) t.1) (spAt (spots w h rows) t.2.1) (spAt (spots w h rows) r); omega
      · have := ar_flip (spAt (spots w h rows) t.2.1) (spAt (spots w h rows) t.2.2) (spAt (spots w h rows) r); omega
      · have := ar_flip (spAt (spots w h rows) t.2.2) (spAt (spots w h rows) t.1) (spAt (spots w h rows) r); omega)
    exact finish a b c k' (by omega) (by omega) (by omega) (fun x => by omega) n1 n2 n3 ht'
  · obtain ⟨a, b, c, k', hp, n1, n2, n3, ht'⟩ := main t.1 t.2.1 t.2.2 T.p1 T.p2 T.p3 k1 k2 k3 z (fun p hp ⟨h1, h2, h3⟩ => by
      obtain ⟨r, hr, rfl⟩ := List.mem_map.mp hp
      exact hin r hr (.inl ⟨h1, h2, h3⟩))
    exact finish a b c k' (by omega) (by omega) (by omega) (fun x => by omega) n1 n2 n3 ht'
end
end Z
namespace Z
def r2 (ρ : Int → Int) (g : Pt) : Pt := (ρ g.1, ρ g.2)
def r3 (ρ : Int → Int) (t : Int × Int × Int) : Int × Int × Int := (ρ t.1, ρ t.2.1, ρ t.2.2)
/-- ρ numbers the pins L of sp' as pins of sp, rising -/
structure Ren (sp sp' : List Pt) (L : List Int) (ρ : Int → Int) : Prop where
  mono : ∀ i ∈ L, ∀ j ∈ L, (ρ i < ρ j ↔ i < j)
  spot : ∀ i ∈ L, spAt sp (ρ i) = spAt sp' i
section
variable {sp sp' : List Pt} {L : List Int} {ρ : Int → Int}
theorem Ren.inj (R : Ren sp sp' L ρ) {i j : Int} (hi : i ∈ L) (hj : j ∈ L) : ρ i = ρ j ↔ i = j := by
  constructor
  · intro e
    have h1 := R.mono i hi j hj
    have h2 := R.mono j hj i hi
    rcases Int.lt_trichotomy i j with h | h | h
    · have := h1.mpr h; omega
    · exact h
    · have := h2.mpr h; omega
  · rintro rfl; rfl
end
theorem leP_trans (a b c : Pt) (h1 : leP a b = true) (h2 : leP b c = true) : leP a c = true := by
  unfold leP at *
  simp only [Bool.or_eq_true, Bool.and_eq_true, decide_eq_true_eq] at *
  omega
theorem leP_total (a b : Pt) : (leP a b || leP b a) = true := by
  unfold leP
  simp only [Bool.or_eq_true, Bool.and_eq_true, decide_eq_true_eq]
  omega
theorem gates_sorted (sp : List Pt) (pins : List Int) : (gatesOf sp pins).Pairwise fun a b => leP a b = true := List.pairwise_mergeSort leP_trans leP_total _
def le3 (a b : Int × Int × Int) : Bool := !lt3 b a
theorem gates_nodup (sp : List Pt) {pins : List Int} (hn : pins.Nodup) : (gatesOf sp pins).Nodup := by
  have h1 : (srtG sp (pairsOf pins)).Nodup := (List.mergeSort_perm _ _).nodup_iff.mpr (nodup_pairs hn)
  have h2 : ∀ l : List Pt, l.Nodup → (foundG sp pins l).Nodup := fun l => by
    refine snoc_ind (P := fun l => l.Nodup → (foundG sp pins l).Nodup) (fun _ => List.nodup_nil) (fun l g ih hn => ?_) l
    rw [List.nodup_append] at hn
    rw [foundG_snoc, stepG]
    split
    · rw [List.nodup_append]
      refine ⟨ih hn.1, hn.2.1, fun a ha b hb => ?_⟩
      exact hn.2.2 a (foundG_sub _ _ ha).1 b hb
    · exact ih hn.1
  exact (List.mergeSort_perm _ _).nodup_iff.mpr (h2 _ h1)
theorem gates_rise (sp : List Pt) {pins : List Int} (hn : pins.Nodup) : (gatesOf sp pins).Pairwise fun a b => a.1 < b.1 ∨ (a.1 = b.1 ∧ a.2 < b.2) := by
  have h := (gates_sorted sp pins).and (gates_nodup sp hn)
  refine h.imp fun {a b} ⟨e, ne⟩ => ?_
  unfold leP at e
  simp only [Bool.or_eq_true, Bool.and_eq_true, decide_eq_true_eq] at e
  rcases e with e | ⟨e1, e2⟩
  · exact .inl e
  · refine .inr ⟨e1, ?_⟩
    have : a.2 ≠ b.2 := fun z => ne (Prod.ext e1 z)
    omega
theorem tris_rise (sp : List Pt) {pins : List Int} {gs : List Pt} (hp : pins.Pairwise (· < ·)) (hg : gs.Pairwise fun a b => a.1 < b.1 ∨ (a.1 = b.1 ∧ a.2 < b.2)) : (trisOf sp pins gs).Pairwise fun a b => lt3 a b = true := by
  unfold trisOf
  rw [List.pairwise_flatMap]
  refine ⟨fun g _ => ?_, hg.imp fun {a b} h x hx y hy => ?_⟩
  · refine List.Pairwise.filter _ ?_
    rw [List.pairwise_map]
    refine (List.Pairwise.filter _ hp).imp fun {r s} h => ?_
    unfold lt3
    simp only [Bool.or_eq_true, Bool.and_eq_true, decide_eq_true_eq]
    exact .inr ⟨trivial, .inr ⟨trivial, h⟩⟩
  · obtain ⟨r, _, rfl⟩ := List.mem_map.mp (List.mem_filter.mp hx).1
    obtain ⟨s, _, rfl⟩ := List.mem_map.mp (List.mem_filter.mp hy).1
    unfold lt3
    simp only [Bool.or_eq_true, Bool.and_eq_true, decide_eq_true_eq]
    rcases h with h | ⟨h1, h2⟩
    · exact .inl h
    · exact .inr ⟨h1, .inl h2⟩
end Z
namespace Z
section
variable {α : Type} [DecidableEq α]
/-- one more triangle, the last one on top -/
def pushR : List α → α → List α
  | a :: y :: r, x => if y = x then y :: r else x :: a :: y :: r
  | s, x => x :: s
def turnsR (s w : List α) : List α := w.foldl pushR s
/-- nothing goes in and back -/
def redR : List α → Prop
  | a :: b :: c :: r => a ≠ c ∧ redR (b :: c :: r)
  | _ => True
theorem redR_tail {a : α} {s : List α} (h : redR (a :: s)) : redR s := by
  match s with
  | [] => trivial
  | [_] => trivial
  | _ :: _ :: _ => exact h.2
theorem push_red {s : List α} {x : α} (h : redR s) : redR (pushR s x) := by
  match s with
  | [] => trivial
  | [_] => trivial
  | a :: y :: r =>
    by_cases k : y = x
    · rw [show pushR (a :: y :: r) x = y :: r by simp [pushR, k]]
      exact redR_tail h
    · rw [show pushR (a :: y :: r) x = x :: a :: y :: r by simp [pushR, k]]
      exact ⟨fun e => k e.symm, h⟩
theorem push_top {s : List α} {x : α} : ∃ r, pushR s x = x :: r := by
  match s with
  | [] => exact ⟨_, rfl⟩
  | [_] => exact ⟨_, rfl⟩
  | a :: y :: r =>
    by_cases k : y = x
    · exact ⟨r, by simp [pushR, k]⟩
    · exact ⟨a :: y :: r, by simp [pushR, k]⟩
theorem turns_red {w s : List α} (h : redR s) : redR (turnsR s w) := by
  induction w generalizing s with
  | nil => exact h
  | cons x w ih => exact ih (push_red h)
/-- in and back: as if it were not -/
theorem push_back {s : List α} {a b : α} (h : redR (a :: s)) : pushR (pushR (a :: s) b) a = a :: s := by
  match s with
  | [] => simp [pushR]
  | y :: r =>
    by_cases k : y = b
    · subst k
      have e : pushR (a :: y :: r) y = y :: r := by simp [pushR]
      rw [e]
      match r with
      | [] => rfl
      | z :: r' =>
        have e2 : ¬ z = a := fun e => h.1 e.symm
        simp [pushR, e2]
    · have e : pushR (a :: y :: r) b = b :: a :: y :: r := by simp [pushR, k]
      rw [e]
      simp [pushR]
theorem turns_app (s u v : List α) : turnsR s (u ++ v) = turnsR (turnsR s u) v := List.foldl_append
theorem turns_mid (u v : List α) (a b : α) : turnsR [] (u ++ a :: b :: a :: v) = turnsR [] (u ++ a :: v) := by
  rw [turns_app, turns_app]
  have hr : redR (pushR (turnsR [] u) a) := push_red (turns_red trivial)
  obtain ⟨r, e⟩ := push_top (s := turnsR [] u) (x := a)
  show turnsR (pushR (pushR (pushR (turnsR [] u) a) b) a) v = turnsR (pushR (turnsR [] u) a) v
  rw [e] at hr ⊢
  rw [push_back hr]
/-- a triangle ahead of all: s without it, s' with it; b is at the bottom of s -/
def LRel (a b : α) (s s' : List α) : Prop := (s' = s ++ [a] ∧ (∃ r, s = r ++ [b]) ∧ ∀ t, s ≠ t ++ [a, b]) ∨ ∃ t, s = t ++ [a, b] ∧ s' = t ++ [a]
theorem lrel_push {a b x : α} {s s' : List α} (h : LRel a b s s') : LRel a b (pushR s x) (pushR s' x) := by
  rcases h with ⟨rfl, ⟨r, hr⟩, hn⟩ | ⟨t, rfl, rfl⟩
  · match s with
    | [] => simp at hr
    | [c] =>
      have e : c = b := by
        cases r with
        | nil => simpa using hr
        | cons z r => simp at hr
      subst e
      by_cases k : a = x
      · subst k
        exact .inr ⟨[], rfl, by simp [pushR]⟩
      · refine .inl ⟨by simp [pushR, k], ⟨[x], rfl⟩, fun t ht => ?_⟩
        cases t with
        | nil => exact k (by simp [pushR] at ht; exact ht.symm)
        | cons z t =>
          have := congrArg List.length ht
          simp [pushR] at this
    | c :: y :: s0 =>
      have hb : ∃ r, y :: s0 = r ++ [b] := by
        cases r with
        | nil => simp at hr
        | cons z r => exact ⟨r, by simpa using (List.cons.inj hr).2⟩
      by_cases k : y = x
      · refine .inl ⟨by simp [pushR, k], by simpa [pushR, k] using hb, fun t ht => hn (c :: t) ?_⟩
        rw [show pushR (c :: y :: s0) x = y :: s0 by simp [pushR, k]] at ht
        rw [ht]
        rfl
      · refine .inl ⟨by simp [pushR, k], ⟨x :: r, by simp [pushR, k, hr]⟩, fun t ht => ?_⟩
        rw [show pushR (c :: y :: s0) x = x :: c :: y :: s0 by simp [pushR, k]] at ht
        cases t with
        | nil => simp at ht
        | cons z t => exact hn t (by simpa using (List.cons.inj ht).2)
  · match t with
    | [] =>
      by_cases k : b = x
      · subst k
        refine .inl ⟨by simp [pushR], ⟨[], by simp [pushR]⟩, fun t ht => ?_⟩
        have := congrArg List.length ht
        simp [pushR] at this
      · exact .inr ⟨[x], by simp [pushR, k], by simp [pushR]⟩
    | [c] =>
      by_cases k : a = x
      · exact .inr ⟨[], by simp [pushR, k], by simp [pushR, k]⟩
      · exact .inr ⟨[x, c], by simp [pushR, k], by simp [pushR, k]⟩
    | c :: y :: t =>
      by_cases k : y = x
      · exact .inr ⟨y :: t, by simp [pushR, k], by simp [pushR, k]⟩
      · exact .inr ⟨x :: c :: y :: t, by simp [pushR, k], by simp [pushR, k]⟩
theorem lrel_turns {a b : α} {w : List α} : ∀ {s s' : List α}, LRel a b s s' → LRel a b (turnsR s w) (turnsR s' w) := by
  induction w with
  | nil => exact fun h => h
  | cons x w ih => exact fun h => ih (lrel_push h)
theorem turns_first {a b : α} (r : List α) (h : a ≠ b) : LRel a b (turnsR [] (b :: r)) (turnsR [] (a :: b :: r)) := by
  refine lrel_turns (s := [b]) (s' := [b, a]) (.inl ⟨rfl, ⟨[], rfl⟩, fun t ht => ?_⟩)
  have := congrArg List.length ht
  simp at this
def dropF (P : α → Bool) : List α → List α
  | a :: b :: r => if P b = true then dropF P (b :: r) else a :: b :: r
  | l => l
def dropL (Q : α → Bool) (l : List α) : List α := (dropF Q l.reverse).reverse
def nfW (P Q : α → Bool) (w : List α) : List α := dropL Q (dropF P (turnsR [] w).reverse)
/-- the same, or both one triangle -/
def Alike (x y : List α) : Prop := x = y ∨ (x.length = 1 ∧ y.length = 1)
theorem dropF_snoc {P : α → Bool} {b a : α} : ∀ (F : List α), (∃ G, dropF P (F ++ [b]) = G ++ [b] ∧ (G ≠ [] → dropF P (F ++ [b, a]) = G ++ [b, a]) ∧ (G = [] → dropF P (F ++ [b, a]) = if P a = true then [a] else [b, a]))
  | [] => ⟨[], rfl, fun h => absurd rfl h, fun _ => rfl⟩
  | [c] => by
    by_cases k : P b = true
    · exact ⟨[], by simp [dropF, k], fun h => absurd rfl h, fun _ => by simp [dropF, k]⟩
    · exact ⟨[c], by simp [dropF, k], fun _ => by simp [dropF, k], fun h => (by simp at h)⟩
  | c :: d :: F => by
    obtain ⟨G, h1, h2, h3⟩ := dropF_snoc (P := P) (b := b) (a := a) (d :: F)
    by_cases k : P d = true
    · exact ⟨G, by simpa [dropF, k] using h1, fun h => by simpa [dropF, k] using h2 h, fun h => by simpa [dropF, k] using h3 h⟩
    · exact ⟨c :: d :: F, by simp [dropF, k], fun _ => by simp [dropF, k], fun h => (by simp at h)⟩
theorem ends_snoc {P Q : α → Bool} {F : List α} {b a : α} (h : Q b = true) : Alike (dropL Q (dropF P (F ++ [b, a]))) (dropL Q (dropF P (F ++ [b]))) := by
  obtain ⟨G, h1, h2, h3⟩ := dropF_snoc (P := P) (b := b) (a := a) F
  have key : ∀ G : List α, dropL Q (G ++ [b, a]) = dropL Q (G ++ [b]) := fun G => by
    unfold dropL
    rw [List.reverse_append, List.reverse_append]
    simp [dropF, h]
  by_cases k : G = []
  · rw [h1, h3 k, k]
    split
    · exact .inr ⟨rfl, rfl⟩
    · exact .inl (key [])
  · rw [h1, h2 k]
    exact .inl (key G)
/-- in and back -/
theorem nf_mid {P Q : α → Bool} (u v : List α) (a b : α) : nfW P Q (u ++ a :: b :: a :: v) = nfW P Q (u ++ a :: v) := by
  unfold nfW
  rw [turns_mid]
/-- round the first pin -/
theorem nf_first {P Q : α → Bool} {a b : α} (r : List α) (h : a ≠ b) (ha : P a = true) (hb : P b = true) : nfW P Q (a :: b :: r) = nfW P Q (b :: r) := by
  unfold nfW
  rcases turns_first r h with ⟨e, ⟨t, ht⟩, _⟩ | ⟨t, e1, e2⟩
  · rw [e, ht]
    simp [dropF, hb]
  · rw [e1, e2]
    simp [dropF, ha]
/-- round the last pin -/
theorem nf_last {P Q : α → Bool} {a b : α} (w : List α) (ha : Q a = true) (hb : Q b = true) : Alike (nfW P Q (w ++ [b, a])) (nfW P Q (w ++ [b])) := by
  unfold nfW
  rw [turns_app, turns_app]
  show Alike (dropL Q (dropF P (pushR (pushR (turnsR [] w) b) a).reverse)) (dropL Q (dropF P (pushR (turnsR [] w) b).reverse))
  obtain ⟨s, e⟩ := push_top (s := turnsR [] w) (x := b)
  rw [e]
  match s with
  | [] => exact ends_snoc (F := []) hb
  | y :: r =>
    by_cases k : y = a
    · subst k
      rw [show pushR (b :: y :: r) y = y :: r by simp [pushR]]
      have := ends_snoc (P := P) (Q := Q) (F := r.reverse) (b := y) (a := b) ha
      rw [List.reverse_cons, List.reverse_cons, List.reverse_cons, List.append_assoc]
      rcases this with z | ⟨z1, z2⟩
      · exact .inl z.symm
      · exact .inr ⟨z2, z1⟩
    · rw [show pushR (b :: y :: r) a = a :: b :: y :: r by simp [pushR, k]]
      have := ends_snoc (P := P) (Q := Q) (F := (y :: r).reverse) (b := b) (a := a) hb
      rw [List.reverse_cons, List.reverse_cons (a := b), List.append_assoc]
      exact this
theorem Alike.trans {x y z : List α} (h : Alike x y) (k : Alike y z) : Alike x z := by
  rcases h with rfl | ⟨a, b⟩
  · exact k
  · rcases k with rfl | ⟨c, d⟩
    · exact .inr ⟨a, b⟩
    · exact .inr ⟨a, d⟩
theorem Alike.symm {x y : List α} (h : Alike x y) : Alike y x := by
  rcases h with rfl | ⟨a, b⟩
  · exact .inl rfl
  · exact .inr ⟨b, a⟩
theorem turns_id {w : List α} (h : ∀ u a b v, w ≠ u ++ a :: b :: a :: v) : (turnsR [] w).reverse = w := by
  have key : ∀ (v s : List α), (∀ u a b x, s.reverse ++ v ≠ u ++ a :: b :: a :: x) → turnsR s v = v.reverse ++ s := fun v => by
    induction v with
    | nil => exact fun s _ => rfl
    | cons x v ih =>
      intro s hs
      have e : pushR s x = x :: s := by
        match s with
        | [] => rfl
        | [_] => rfl
        | a :: y :: r =>
          have k : ¬ y = x := fun k => hs r.reverse x a v (by simp [k])
          simp [pushR, k]
      show turnsR (pushR s x) v = _
      rw [e, ih (x :: s) (fun u a b z hz => hs u a b z (by simpa using hz))]
      simp
  rw [key w [] (by simpa using h)]
  simp
theorem dropF_id {P : α → Bool} {l : List α} (h : ∀ a b r, l = a :: b :: r → P b = false) : dropF P l = l := by
  match l with
  | [] => rfl
  | [_] => rfl
  | a :: b :: r => simp [dropF, h a b r rfl]
theorem nf_id {P Q : α → Bool} {w : List α} (h : ∀ u a b v, w ≠ u ++ a :: b :: a :: v) (h1 : ∀ a b r, w = a :: b :: r → P b = false) (h2 : ∀ a b r, w = r ++ [b, a] → Q b = false) : nfW P Q w = w := by
  unfold nfW dropL
  rw [turns_id h, dropF_id h1, dropF_id, List.reverse_reverse]
  intro a b r e
  refine h2 a b r.reverse ?_
  have := congrArg List.reverse e
  simpa using this
theorem push_mem {s : List α} {x y : α} (h : y ∈ pushR s x) : y ∈ s ∨ y = x := by
  match s, h with
  | [], h => simpa [pushR] using h
  | [c], h => simp [pushR] at h; rcases h with rfl | rfl <;> simp
  | a :: z :: r, h =>
    by_cases k : z = x
    · rw [show pushR (a :: z :: r) x = z :: r by simp [pushR, k]] at h
      exact .inl (List.mem_cons_of_mem _ h)
    · rw [show pushR (a :: z :: r) x = x :: a :: z :: r by simp [pushR, k]] at h
      rcases List.mem_cons.mp h with rfl | h
      · exact .inr rfl
      · exact .inl h
theorem turns_mem {y : α} : ∀ {w s : List α}, y ∈ turnsR s w → y ∈ s ∨ y ∈ w
  | [], _, h => .inl h
  | x :: w, s, h => by
    rcases turns_mem (w := w) (s := pushR s x) h with z | z
    · rcases push_mem z with z | rfl
      · exact .inl z
      · exact .inr List.mem_cons_self
    · exact .inr (List.mem_cons_of_mem _ z)
theorem dropF_mem {P : α → Bool} {y : α} : ∀ {l : List α}, y ∈ dropF P l → y ∈ l
  | [], h => h
  | [_], h => h
  | a :: b :: r, h => by
    by_cases k : P b = true
    · rw [show dropF P (a :: b :: r) = dropF P (b :: r) by simp [dropF, k]] at h
      exact List.mem_cons_of_mem _ (dropF_mem h)
    · rwa [show dropF P (a :: b :: r) = a :: b :: r by simp [dropF, k]] at h
theorem nf_mem {P Q : α → Bool} {w : List α} {y : α} (h : y ∈ nfW P Q w) : y ∈ w := by
  unfold nfW dropL at h
  have h1 := dropF_mem (List.mem_reverse.mp (dropF_mem (List.mem_reverse.mp h)))
  rcases turns_mem (List.mem_reverse.mp h1) with z | z
  · cases z
  · exact z
theorem push_bot {s : List α} {x a : α} (h : s.getLast? = some a) : (pushR s x).getLast? = some a := by
  match s, h with
  | [], h => simp at h
  | [c], h => simpa [pushR] using h
  | c :: z :: r, h =>
    by_cases k : z = x
    · rw [show pushR (c :: z :: r) x = z :: r by simp [pushR, k]]
      simpa using h
    · rw [show pushR (c :: z :: r) x = x :: c :: z :: r by simp [pushR, k]]
      simpa using h
theorem turns_bot {a : α} : ∀ {w s : List α}, s.getLast? = some a → (turnsR s w).getLast? = some a
  | [], _, h => h
  | _ :: w, _, h => turns_bot (w := w) (push_bot h)
theorem dropF_head {P : α → Bool} : ∀ {l : List α}, (∃ a, l.head? = some a ∧ P a = true) → ∃ a, (dropF P l).head? = some a ∧ P a = true
  | [], h => h
  | [_], h => h
  | a :: b :: r, h => by
    by_cases k : P b = true
    · rw [show dropF P (a :: b :: r) = dropF P (b :: r) by simp [dropF, k]]
      exact dropF_head ⟨b, rfl, k⟩
    · rwa [show dropF P (a :: b :: r) = a :: b :: r by simp [dropF, k]]
theorem dropF_lst {P : α → Bool} : ∀ {l : List α}, (dropF P l).getLast? = l.getLast?
  | [] => rfl
  | [_] => rfl
  | a :: b :: r => by
    by_cases k : P b = true
    · rw [show dropF P (a :: b :: r) = dropF P (b :: r) by simp [dropF, k], dropF_lst]
      simp
    · rw [show dropF P (a :: b :: r) = a :: b :: r by simp [dropF, k]]
/-- what is left begins at the first pin and ends at the last one -/
theorem nf_ends {P Q : α → Bool} {w : List α} (h1 : ∃ a, w.head? = some a ∧ P a = true) (h2 : ∃ a, w.getLast? = some a ∧ Q a = true) : (∃ a, (nfW P Q w).head? = some a ∧ P a = true) ∧ ∃ a, (nfW P Q w).getLast? = some a ∧ Q a = true := by
  obtain ⟨a, ha, pa⟩ := h1
  obtain ⟨z, hz, qz⟩ := h2
  have b1 : (turnsR [] w).getLast? = some a := by
    cases w with
    | nil => cases ha
    | cons x w =>
      cases ha
      exact turns_bot (s := [a]) (w := w) rfl
  have b2 : (turnsR [] w).head? = some z := by
    rcases List.eq_nil_or_concat w with rfl | ⟨w', x, rfl⟩
    · cases hz
    · rw [List.concat_eq_append] at hz ⊢
      rw [List.getLast?_append] at hz
      simp at hz
      rw [turns_app]
      obtain ⟨r, e⟩ := push_top (s := turnsR [] w') (x := x)
      show (pushR (turnsR [] w') x).head? = some z
      rw [e, hz]
      rfl
  have c1 : ∃ a, (dropF P (turnsR [] w).reverse).head? = some a ∧ P a = true := dropF_head ⟨a, by rw [List.head?_reverse]; exact b1, pa⟩
  have c2 : (dropF P (turnsR [] w).reverse).getLast? = some z := by rw [dropF_lst, List.getLast?_reverse]; exact b2
  unfold nfW dropL
  refine ⟨?_, ?_⟩
  · rw [List.head?_reverse, dropF_lst, List.getLast?_reverse]
    exact c1
  · rw [List.getLast?_reverse]
    exact dropF_head ⟨z, by rw [List.head?_reverse]; exact c2, qz⟩
end
end Z
namespace W
open PySem L2 Z
local macro_rules | `(tactic| walk_at "mu") => `(tactic| first
  | assumption
  | exact set_same
  | (refine Eq.trans (set_ne ?_) ?_; (first | assumption | (apply Ne.symm; assumption) | (intro h; subst h; simp_all)); walk_at "mu"))
local macro_rules | `(tactic| walk_at "seq") => `(tactic| first
  | rfl
  | (refine seq_ref ?_; walk_at "mu"))
local macro_rules | `(tactic| walk_at "sz") => `(tactic| first
  | assumption
  | (refine sz_2 ?_; decide)
  | (refine sz_8 ?_; decide)
  | (refine sz_32 ?_; decide)
  | (refine sz_128 ?_; decide +kernel)
  | ((with_reducible refine sz_add (a := ?a) (b := ?b) ?h ?k); (case h => walk_at "sz"); (case k => walk_at "sz"))
  | ((with_reducible refine sz_sub (a := ?a) (b := ?b) ?h ?k); (case h => walk_at "sz"); (case k => walk_at "sz"))
  | ((with_reducible refine sz_mul (a := ?a) (b := ?b) ?h ?k); (case h => walk_at "sz"); (case k => walk_at "sz"))
  | ((with_reducible refine sz_neg ?_) <;> walk_at "sz")
  | with_reducible exact sz_b
  | ((with_reducible refine sz_mod ?h1 ?h2); (case h1 => omega); (case h2 => walk_at "sz")))
local macro_rules | `(tactic| walk_at "szN") => `(tactic| first
  | assumption
  | (refine sz_mono (a := ?a) ?h ?l; (case h => walk_at "sz"); (case l => first | decide | omega)))
local macro_rules | `(tactic| walk_at "cond") => `(tactic| first
  | assumption
  | (refine mulw_of (a := ?a) (b := ?b) ?h ?k ?l; (case h => walk_at "sz"); (case k => walk_at "sz"); (case l => first | decide | omega))
  | (refine divw_of (b := ?b) ?h ?k ?l; (case h => omega); (case k => walk_at "sz"); (case l => first | decide | omega))
  | (show (0 : Int) < _; first | assumption | omega | decide)
  | (refine ⟨?_, ?_, ?_⟩ <;> first | assumption | decide | omega))
local macro_rules | `(tactic| walk_at "nf") => `(tactic| ((try simp only [List.set_cons_zero, List.set_cons_succ, Int.reduceToNat, Int.reducePow]); (try dsimp only)))
local macro_rules | `(tactic| walk_at "z1") => `(tactic| first
  | (with_reducible refine s_seq ?_)
  | ((with_reducible refine s_asgX ?_); (first | refine x_meth ?_ | refine x_call ?_))
  | (with_reducible refine s_asg ?_)
  | ((with_reducible refine s_ret ?_); (try dsimp only))
  | ((with_reducible refine s_next ?_); (try dsimp only))
  | ((with_reducible refine s_dropX ?_); (first | refine x_meth ?_ | refine x_call ?_))
  | (with_reducible refine s_drop ?_)
  | ((with_reducible refine s_retN ?_); (try dsimp only))
  | (with_reducible refine s_par ?_)
  | (with_reducible refine s_par3 ?_)
  | ((with_reducible refine g_name ?_); walk_at "nf")
  | ((with_reducible refine g_tup ?zn ?_); (case zn => rfl))
  | (with_reducible refine gs_cons ?_)
  | ((with_reducible refine gs_nil ?_); (try dsimp only))
  | ((with_reducible refine s_aug (d := ?zd) ?zh ?_); (case zh => rfl))
  | ((with_reducible refine a_var (d := ?zd) ?zh ?_); (case zh => rfl))
  | (with_reducible refine a_int ?_)
  | (with_reducible refine a_bl ?_)
  | (with_reducible refine a_str ?_)
  | (with_reducible refine a_non ?_)
  | (with_reducible refine a_ty ?_)
  | (with_reducible refine a_cref ?_)
  | (with_reducible refine a_revT ?_)
  | (with_reducible refine ro_neS ?_)
  | (with_reducible refine a_op ?_)
  | (with_reducible refine a_un ?_)
  | (with_reducible refine aa_cons ?_)
  | (with_reducible refine aa_nil ?_)
  | ((with_reducible refine a_tup ?_))
  | ((with_reducible refine a_lst ?_))
  | ((with_reducible refine a_lenSc (dec := ?zd) ?zt ?_); (case zt => first | exact tg_4 | exact tg_2 | exact tg_3 | exact tg_name))
  | (with_reducible refine a_cb ?_)
  | (with_reducible refine a_call ?_)
  | (with_reducible refine a_callX ?_)
  | (with_reducible refine a_methX ?_)
  | (with_reducible refine a_methI ?_)
  | (with_reducible refine rc_max3 ?_)
  | (with_reducible refine a_if ?_)
  | (with_reducible refine a_andV ?_)
  | (with_reducible refine a_orV ?_)
  | (with_reducible refine a_notV ?_)
  | (with_reducible refine at_test ?_)
  | (with_reducible refine at_B ?_)
  | (with_reducible refine at_and ?_)
  | (with_reducible refine at_or ?_)
  | (with_reducible refine at_not ?_)
  | (with_reducible refine at_yes ?_)
  | (with_reducible refine a_chain ?_)
  | (with_reducible refine a_chain3 ?_)
  | (with_reducible refine s_if ?_)
  | (with_reducible refine g_sub ?_)
  | (with_reducible refine ro_i ?_)
  | (with_reducible refine ru_i ?_)
  | (with_reducible refine ro_b ?_)
  | ((with_reducible refine ro_c (C := CPow) ?zc ?_); (case zc => walk_at "cond"); walk_at "nf")
  | ((with_reducible refine ro_c ?zc ?_); (case zc => walk_at "cond"))
  | ((with_reducible refine ro_ix (ds := ?zd) (e := ?ze) ?zs ?zi ?_); (case zs => walk_at "seq"); (case zi => rfl))
  | ((with_reducible refine set_lst (ds := ?zd) (j := ?zj) ?zs ?zi ?_); (case zs => walk_at "mu"); (case zi => rfl); walk_at "nf")
  | (with_reducible refine a_sl ?_)
  | (with_reducible refine ao_no ?_)
  | (with_reducible refine ao_pt ?_)
  | ((with_reducible refine rs_ref (ds := ?zd) ?zs ?_); (case zs => walk_at "mu"))
  | (with_reducible refine rs_rol ?_)
  | (with_reducible refine rs_tupA ?_)
  | ((with_reducible refine ro_catA ?zl ?_); (case zl => exact Nat.le_of_ble_eq_true rfl))
  | ((with_reducible refine ro_cat (ds := ?zd) (es := ?ze) ?zs ?zt ?zl ?_); (case zs => walk_at "mu"); (case zt => walk_at "mu"); (case zl => exact Nat.le_of_ble_eq_true rfl))
  | (with_reducible refine iteT ?_)
  | (with_reducible refine iteF ?_)
  | (with_reducible refine iteNT ?_)
  | (with_reducible refine iteNF ?_)
  | ((with_reducible refine ro_eqD ?h1 ?h2 ?_); (case h1 => rfl); (case h2 => rfl))
  | ((with_reducible refine ro_neD ?h1 ?h2 ?_); (case h1 => rfl); (case h2 => rfl))
  | ((with_reducible refine ro_inS (ds := ?zd) ?zs ?h1 ?h2 ?_); (case zs => walk_at "seq"); (case h1 => rfl); (case h2 => rfl); (try simp only [if_true, if_false, Bool.false_eq_true]))
  | (with_reducible refine ro_isB ?_)
  | (with_reducible refine ro_isN ?_)
  | (with_reducible refine ro_notN ?_)
  | (with_reducible refine ro_notB ?_)
  | (with_reducible refine ro_eqI ?_)
  | (with_reducible refine ro_neI ?_)
  | (with_reducible refine ro_eqB ?_)
  | (with_reducible refine ro_neB ?_)
  | (with_reducible refine rc_intB ?_)
  | (with_reducible refine rc_intI ?_)
  | (with_reducible refine rc_abs ?_)
  | (with_reducible refine rc_min ?_)
  | (with_reducible refine rc_max ?_)
  | ((with_reducible refine rc_len (ds := ?zd) ?zs ?_); (case zs => walk_at "seq"))
  | ((with_reducible refine rc_isi (n := ?zn) (b := ?zb) ?zs ?zk ?_); (case zs => rfl); (case zk => first | rfl | decide +kernel))
  | (with_reducible refine ⟨_, rfl, ?_⟩)
  | ((with_reducible refine ⟨_, _, rfl, ?_⟩); walk_at "nf")
  | ((with_reducible refine ⟨_, _, _, rfl, ?_⟩); walk_at "nf")
  | (refine ⟨Nat.le_of_ble_eq_true rfl, ?_⟩))
local macro_rules | `(tactic| walk_at "go") => `(tactic| repeat (walk_at "z1"))
def top (i : Nat) : Stmt := PySem.Challenge.pw_rubberroutes_k16_reduced_alike.main.body.getD i (.Pass ⟨0, 0, 0, 0⟩)
abbrev s_is_whole : Stmt := top 2
abbrev N_is_whole : List Str := ["thing"]
theorem sc_is_whole : FnScope N_is_whole ["thing"] (defScope s_is_whole) := ⟨rfl, rfl, rfl, by decide +kernel, rfl, by decide +kernel, by decide +kernel⟩
abbrev s_is_within : Stmt := top 3
abbrev N_is_within : List Str := ["thing", "least", "most"]
theorem sc_is_within : FnScope N_is_within ["thing", "least", "most"] (defScope s_is_within) := ⟨rfl, rfl, rfl, by decide +kernel, rfl, by decide +kernel, by decide +kernel⟩
abbrev s_is_row : Stmt := top 4
abbrev N_is_row : List Str := ["thing", "least", "most"]
theorem sc_is_row : FnScope N_is_row ["thing", "least", "most"] (defScope s_is_row) := ⟨rfl, rfl, rfl, by decide +kernel, rfl, by decide +kernel, by decide +kernel⟩
abbrev s_are_whole : Stmt := top 5
abbrev N_are_whole : List Str := ["thing", "many", "one"]
theorem sc_are_whole : FnScope N_are_whole ["thing", "many"] (defScope s_are_whole) := ⟨rfl, rfl, rfl, by decide +kernel, rfl, by decide +kernel, by decide +kernel⟩
abbrev s_is_pin_row : Stmt := top 32
abbrev N_is_pin_row : List Str := ["thing", "width", "height", "layers", "x", "y", "first", "last"]
theorem sc_is_pin_row : FnScope N_is_pin_row ["thing", "width", "height", "layers"] (defScope s_is_pin_row) := ⟨rfl, rfl, rfl, by decide +kernel, rfl, by decide +kernel, by decide +kernel⟩
abbrev s_are_board : Stmt := top 33
abbrev N_are_board : List Str := ["width", "height", "pins", "layers", "spacing", "row", "x", "y", "first", "last"]
theorem sc_are_board : FnScope N_are_board ["width", "height", "pins", "layers", "spacing"] (defScope s_are_board) := ⟨rfl, rfl, rfl, by decide +kernel, rfl, by decide +kernel, by decide +kernel⟩
abbrev s_board_init : Stmt := inClass (top 34) 0
abbrev N_board_init : List Str := ["self", "width", "height", "pins", "layers", "spacing", "row"]
theorem sc_board_init : FnScope N_board_init ["self", "width", "height", "pins", "layers", "spacing"] (defScope s_board_init) := ⟨rfl, rfl, rfl, by decide +kernel, rfl, by decide +kernel, by decide +kernel⟩
abbrev s_board_look_pin : Stmt := inClass (top 34) 6
abbrev N_board_look_pin : List Str := ["self", "number"]
theorem sc_board_look_pin : FnScope N_board_look_pin ["self", "number"] (defScope s_board_look_pin) := ⟨rfl, rfl, rfl, by decide +kernel, rfl, by decide +kernel, by decide +kernel⟩
abbrev s_sign_of : Stmt := top 22
abbrev N_sign_of : List Str := ["number"]
theorem sc_sign_of : FnScope N_sign_of ["number"] (defScope s_sign_of) := ⟨rfl, rfl, rfl, by decide +kernel, rfl, by decide +kernel, by decide +kernel⟩
abbrev s_side : Stmt := top 23
abbrev N_side : List Str := ["one", "other", "third", "along", "up"]
theorem sc_side : FnScope N_side ["one", "other", "third"] (defScope s_side) := ⟨rfl, rfl, rfl, by decide +kernel, rfl, by decide +kernel, by decide +kernel⟩
abbrev s_apart : Stmt := top 24
abbrev N_apart : List Str := ["one", "other"]
theorem sc_apart : FnScope N_apart ["one", "other"] (defScope s_apart) := ⟨rfl, rfl, rfl, by decide +kernel, rfl, by decide +kernel, by decide +kernel⟩
abbrev s_is_between : Stmt := top 25
abbrev N_is_between : List Str := ["one", "other", "third", "wide"]
theorem sc_is_between : FnScope N_is_between ["one", "other", "third"] (defScope s_is_between) := ⟨rfl, rfl, rfl, by decide +kernel, rfl, by decide +kernel, by decide +kernel⟩
abbrev s_board_look_layer : Stmt := inClass (top 34) 7
abbrev N_board_look_layer : List Str := ["self", "number"]
theorem sc_board_look_layer : FnScope N_board_look_layer ["self", "number"] (defScope s_board_look_layer) := ⟨rfl, rfl, rfl, by decide +kernel, rfl, by decide +kernel, by decide +kernel⟩
abbrev s_board_pins_on : Stmt := inClass (top 34) 10
abbrev N_board_pins_on : List Str := ["self", "layer", "found", "number", "row"]
theorem sc_board_pins_on : FnScope N_board_pins_on ["self", "layer"] (defScope s_board_pins_on) := ⟨rfl, rfl, rfl, by decide +kernel, rfl, by decide +kernel, by decide +kernel⟩
abbrev s_board_meets_a_pin : Stmt := inClass (top 34) 11
abbrev N_board_meets_a_pin : List Str := ["self", "one", "other", "pins", "a", "b", "pin"]
theorem sc_board_meets_a_pin : FnScope N_board_meets_a_pin ["self", "one", "other", "pins"] (defScope s_board_meets_a_pin) := ⟨rfl, rfl, rfl, by decide +kernel, rfl, by decide +kernel, by decide +kernel⟩
abbrev s_board_crosses_gate : Stmt := inClass (top 34) 12
abbrev N_board_crosses_gate : List Str := ["self", "one", "other", "gate", "a", "b", "c", "d"]
theorem sc_board_crosses_gate : FnScope N_board_crosses_gate ["self", "one", "other", "gate"] (defScope s_board_crosses_gate) := ⟨rfl, rfl, rfl, by decide +kernel, rfl, by decide +kernel, by decide +kernel⟩
abbrev s_board_found_gates : Stmt := inClass (top 34) 13
abbrev N_board_found_gates : List Str := ["self", "pins", "pairs", "found", "p", "q", "gate"]
theorem sc_board_found_gates : FnScope N_board_found_gates ["self", "pins"] (defScope s_board_found_gates) := ⟨rfl, rfl, rfl, by decide +kernel, rfl, by decide +kernel, by decide +kernel⟩
abbrev s_board_gates : Stmt := inClass (top 34) 14
abbrev N_board_gates : List Str := ["self", "layer"]
theorem sc_board_gates : FnScope N_board_gates ["self", "layer"] (defScope s_board_gates) := ⟨rfl, rfl, rfl, by decide +kernel, rfl, by decide +kernel, by decide +kernel⟩
abbrev s_board_is_empty : Stmt := inClass (top 34) 15
abbrev N_board_is_empty : List Str := ["self", "corners", "pins", "a", "b", "c", "turn", "pin", "spot"]
theorem sc_board_is_empty : FnScope N_board_is_empty ["self", "corners", "pins"] (defScope s_board_is_empty) := ⟨rfl, rfl, rfl, by decide +kernel, rfl, by decide +kernel, by decide +kernel⟩
abbrev s_board_found_triangles : Stmt := inClass (top 34) 16
abbrev N_board_found_triangles : List Str := ["self", "layer", "gates", "pins", "known", "found", "p", "q", "r", "gate", "pin"]
theorem sc_board_found_triangles : FnScope N_board_found_triangles ["self", "layer"] (defScope s_board_found_triangles) := ⟨rfl, rfl, rfl, by decide +kernel, rfl, by decide +kernel, by decide +kernel⟩
abbrev s_board_triangles : Stmt := inClass (top 34) 17
abbrev N_board_triangles : List Str := ["self", "layer"]
theorem sc_board_triangles : FnScope N_board_triangles ["self", "layer"] (defScope s_board_triangles) := ⟨rfl, rfl, rfl, by decide +kernel, rfl, by decide +kernel, by decide +kernel⟩
abbrev s_l_bag : Stmt := top 36
abbrev N_l_bag : List Str := ["_law_script", "_law_at", "_law_cell", "_law_great", "_law_primes"]
theorem sc_l_bag : FnScope N_l_bag ["_law_script", "_law_at"] (defScope s_l_bag) := ⟨rfl, rfl, rfl, by decide +kernel, rfl, by decide +kernel, by decide +kernel⟩
abbrev s_l_take : Stmt := top 37
abbrev N_l_take : List Str := ["_law_bag_here", "_law_many", "_law_digit"]
theorem sc_l_take : FnScope N_l_take ["_law_bag_here", "_law_many"] (defScope s_l_take) := ⟨rfl, rfl, rfl, by decide +kernel, rfl, by decide +kernel, by decide +kernel⟩
abbrev s_l_made_of : Stmt := top 38
abbrev N_l_made_of : List Str := ["_law_bag_here", "_law_most", "_law_far", "_law_wide", "_law_high", "_law_many", "_law_pins", "_law_met", "_law_k", "_law_point", "_law_first", "_law_last"]
theorem sc_l_made_of : FnScope N_l_made_of ["_law_bag_here", "_law_most"] (defScope s_l_made_of) := ⟨rfl, rfl, rfl, by decide +kernel, rfl, by decide +kernel, by decide +kernel⟩
abbrev s_l_board : Stmt := top 39
abbrev N_l_board : List Str := ["_law_made"]
theorem sc_l_board : FnScope N_l_board ["_law_made"] (defScope s_l_board) := ⟨rfl, rfl, rfl, by decide +kernel, rfl, by decide +kernel, by decide +kernel⟩
abbrev s_board_look_gate : Stmt := inClass (top 34) 8
abbrev N_board_look_gate : List Str := ["self", "gate", "layer"]
theorem sc_board_look_gate : FnScope N_board_look_gate ["self", "gate", "layer"] (defScope s_board_look_gate) := ⟨rfl, rfl, rfl, by decide +kernel, rfl, by decide +kernel, by decide +kernel⟩
abbrev s_board_beside : Stmt := inClass (top 34) 18
abbrev N_board_beside : List Str := ["self", "gate", "layer", "row"]
theorem sc_board_beside : FnScope N_board_beside ["self", "gate", "layer"] (defScope s_board_beside) := ⟨rfl, rfl, rfl, by decide +kernel, rfl, by decide +kernel, by decide +kernel⟩
abbrev s_l_near : Stmt := top 40
abbrev N_l_near : List Str := ["_law_triangles", "_law_found", "_law_one", "_law_other", "_law_pin"]
theorem sc_l_near : FnScope N_l_near ["_law_triangles"] (defScope s_l_near) := ⟨rfl, rfl, rfl, by decide +kernel, rfl, by decide +kernel, by decide +kernel⟩
abbrev s_board_made_of : Stmt := inClass (top 34) 5
abbrev N_board_made_of : List Str := ["self"]
theorem sc_board_made_of : FnScope N_board_made_of ["self"] (defScope s_board_made_of) := ⟨rfl, rfl, rfl, by decide +kernel, rfl, by decide +kernel, by decide +kernel⟩
abbrev s_l_way : Stmt := top 41
abbrev N_l_way : List Str := ["_law_bag_here", "_law_near_here", "_law_most", "_law_triangles", "_law_walk", "_law_turn", "_law_some", "_law_on", "_law_first", "_law_ends", "_law_one", "_law_pin"]
theorem sc_l_way : FnScope N_l_way ["_law_bag_here", "_law_near_here", "_law_most"] (defScope s_l_way) := ⟨rfl, rfl, rfl, by decide +kernel, rfl, by decide +kernel, by decide +kernel⟩
abbrev s_shared : Stmt := top 8
abbrev N_shared : List Str := ["one", "other", "pin"]
theorem sc_shared : FnScope N_shared ["one", "other"] (defScope s_shared) := ⟨rfl, rfl, rfl, by decide +kernel, rfl, by decide +kernel, by decide +kernel⟩
abbrev s_are_beside : Stmt := top 9
abbrev N_are_beside : List Str := ["one", "other"]
theorem sc_are_beside : FnScope N_are_beside ["one", "other"] (defScope s_are_beside) := ⟨rfl, rfl, rfl, by decide +kernel, rfl, by decide +kernel, by decide +kernel⟩
abbrev s_turned : Stmt := top 11
abbrev N_turned : List Str := ["way", "first", "triangles", "last"]
theorem sc_turned : FnScope N_turned ["way"] (defScope s_turned) := ⟨rfl, rfl, rfl, by decide +kernel, rfl, by decide +kernel, by decide +kernel⟩
abbrev s_is_triangle : Stmt := top 7
abbrev N_is_triangle : List Str := ["board", "thing", "layer", "pin"]
theorem sc_is_triangle : FnScope N_is_triangle ["board", "thing", "layer"] (defScope s_is_triangle) := ⟨rfl, rfl, rfl, by decide +kernel, rfl, by decide +kernel, by decide +kernel⟩
abbrev s_is_way : Stmt := top 10
abbrev N_is_way : List Str := ["board", "thing", "layer", "first", "triangles", "last", "pins", "pin", "one", "other"]
theorem sc_is_way : FnScope N_is_way ["board", "thing", "layer"] (defScope s_is_way) := ⟨rfl, rfl, rfl, by decide +kernel, rfl, by decide +kernel, by decide +kernel⟩
abbrev s_without_turns : Stmt := top 12
abbrev N_without_turns : List Str := ["triangles", "found", "one"]
theorem sc_without_turns : FnScope N_without_turns ["triangles"] (defScope s_without_turns) := ⟨rfl, rfl, rfl, by decide +kernel, rfl, by decide +kernel, by decide +kernel⟩
abbrev s_without_ends : Stmt := top 13
abbrev N_without_ends : List Str := ["first", "triangles", "last", "begin", "end"]
theorem sc_without_ends : FnScope N_without_ends ["first", "triangles", "last"] (defScope s_without_ends) := ⟨rfl, rfl, rfl, by decide +kernel, rfl, by decide +kernel, by decide +kernel⟩
abbrev s_reduced : Stmt := top 14
abbrev N_reduced : List Str := ["board", "way", "layer", "first", "triangles", "last", "found", "gate"]
theorem sc_reduced : FnScope N_reduced ["board", "way", "layer"] (defScope s_reduced) := ⟨rfl, rfl, rfl, by decide +kernel, rfl, by decide +kernel, by decide +kernel⟩
abbrev s_l_spoiled : Stmt := top 44
abbrev N_l_spoiled : List Str := ["_law_bag_here", "_law_near_here", "_law_way_here", "_law_first", "_law_walk", "_law_last", "_law_kind", "_law_at", "_law_beside", "_law_round_it", "_law_one"]
theorem sc_l_spoiled : FnScope N_l_spoiled ["_law_bag_here", "_law_near_here", "_law_way_here"] (defScope s_l_spoiled) := ⟨rfl, rfl, rfl, by decide +kernel, rfl, by decide +kernel, by decide +kernel⟩
abbrev s_l_least : Stmt := top 42
abbrev N_l_least : List Str := ["_law_triangles", "_law_first", "_law_last", "_law_one"]
theorem sc_l_least : FnScope N_l_least ["_law_triangles", "_law_first", "_law_last"] (defScope s_l_least) := ⟨rfl, rfl, rfl, by decide +kernel, rfl, by decide +kernel, by decide +kernel⟩
abbrev s_l_reduced : Stmt := top 43
abbrev N_l_reduced : List Str := ["_law_triangles", "_law_way_here", "_law_first", "_law_walk", "_law_last", "_law_found", "_law_one"]
theorem sc_l_reduced : FnScope N_l_reduced ["_law_triangles", "_law_way_here"] (defScope s_l_reduced) := ⟨rfl, rfl, rfl, by decide +kernel, rfl, by decide +kernel, by decide +kernel⟩
abbrev s_law : Stmt := top 45
abbrev N_law : List Str := ["_law_script", "_law_k", "_law_bag_here", "_law_board_here", "_law_flat", "_law_triangles", "_law_near_here", "_law_way_here", "_law_due", "_law_turn"]
theorem sc_law : FnScope N_law ["_law_script"] (defScope s_law) := ⟨rfl, rfl, rfl, by decide +kernel, rfl, by decide +kernel, by decide +kernel⟩
abbrev s_nopin_init : Stmt := inClass (top 18) 0
abbrev N_nopin_init : List Str := ["self", "pin"]
theorem sc_nopin_init : FnScope N_nopin_init ["self", "pin"] (defScope s_nopin_init) := ⟨rfl, rfl, rfl, by decide +kernel, rfl, by decide +kernel, by decide +kernel⟩
abbrev s_nolayer_init : Stmt := inClass (top 19) 0
abbrev N_nolayer_init : List Str := ["self", "layer"]
theorem sc_nolayer_init : FnScope N_nolayer_init ["self", "layer"] (defScope s_nolayer_init) := ⟨rfl, rfl, rfl, by decide +kernel, rfl, by decide +kernel, by decide +kernel⟩
abbrev s_nogate_init : Stmt := inClass (top 20) 0
abbrev N_nogate_init : List Str := ["self", "gate"]
theorem sc_nogate_init : FnScope N_nogate_init ["self", "gate"] (defScope s_nogate_init) := ⟨rfl, rfl, rfl, by decide +kernel, rfl, by decide +kernel, by decide +kernel⟩
structure Bs (mg : Str → Option Value) : Prop where
  b_abs : mg "abs" = none
  b_all : mg "all" = none
  b_any : mg "any" = none
  b_bool : mg "bool" = none
  b_enumerate : mg "enumerate" = none
  b_int : mg "int" = none
  b_isinstance : mg "isinstance" = none
  b_len : mg "len" = none
  b_list : mg "list" = none
  b_max : mg "max" = none
  b_min : mg "min" = none
  b_range : mg "range" = none
  b_sorted : mg "sorted" = none
  b_tuple : mg "tuple" = none
  b_zip : mg "zip" = none
structure Cl_Board (K : PySem.W.Frag) (C : Addr) : Prop where
  cls : Cls K C
  n_wide : NoAttr K C "wide"
  n_high : NoAttr K C "high"
  n_pin_rows : NoAttr K C "pin_rows"
  n_layer_count : NoAttr K C "layer_count"
  n_apart_by : NoAttr K C "apart_by"
  n_spots : NoAttr K C "spots"
  n_kept_gates : NoAttr K C "kept_gates"
  n_kept_triangles : NoAttr K C "kept_triangles"
abbrev xn (mg : Str → Option Value) : Str → Option Value := fun x => if x ∈ (["NoBoard", "NoPin", "NoLayer", "NoGate"] : List Str) then mg x else none
theorem xn_at {mg : Str → Option Value} {x : Str} {v : Value} (m : mg x = some v) (h : x ∈ (["NoBoard", "NoPin", "NoLayer", "NoGate"] : List Str) := by decide) : xn mg x = some v := by
  unfold xn
  rw [if_pos h]
  exact m
section
variable {P : Program} {w : World} {K : PySem.W.Frag} {mg : Str → Option Value} {base : Heap}
theorem xi_NoPin {f : Addr} {fd : FuncData} (F : Fun K "__init__" "NoPin.__init__" s_nopin_init f fd) : FnOk P w K mg base CX0 1 f fd ["self", "pin"] (XO.spI1 K "IndexError.__new__" XO.tlIE "pin") :=
  F.ok sc_nopin_init (fun vs H Q E h => by obtain ⟨_, _, _, e, _⟩ := h; rw [e]; rfl) fun cdv A outer s H vs Q E hr h => ⟨XO.tOs1 K "IndexError.__new__" XO.tlIE "pin" (tVar 0) (tVar 1), pss_one (XO.ps_os1 (pv 0) (pv 1)), XO.init_ok (P := P) (w := w) (D := ⟨fun _ _ => False, fun _ _ => False, fun _ _ => False, fun _ _ => False⟩) h⟩
theorem xi_NoLayer {f : Addr} {fd : FuncData} (F : Fun K "__init__" "NoLayer.__init__" s_nolayer_init f fd) : FnOk P w K mg base CX0 1 f fd ["self", "layer"] (XO.spI1 K "IndexError.__new__" XO.tlIE "layer") :=
  F.ok sc_nolayer_init (fun vs H Q E h => by obtain ⟨_, _, _, e, _⟩ := h; rw [e]; rfl) fun cdv A outer s H vs Q E hr h => ⟨XO.tOs1 K "IndexError.__new__" XO.tlIE "layer" (tVar 0) (tVar 1), pss_one (XO.ps_os1 (pv 0) (pv 1)), XO.init_ok (P := P) (w := w) (D := ⟨fun _ _ => False, fun _ _ => False, fun _ _ => False, fun _ _ => False⟩) h⟩
theorem xi_NoGate {f : Addr} {fd : FuncData} (F : Fun K "__init__" "NoGate.__init__" s_nogate_init f fd) : FnOk P w K mg base CX0 1 f fd ["self", "gate"] (XO.spI1 K "LookupError.__new__" XO.tlKE "gate") :=
  F.ok sc_nogate_init (fun vs H Q E h => by obtain ⟨_, _, _, e, _⟩ := h; rw [e]; rfl) fun cdv A outer s H vs Q E hr h => ⟨XO.tOs1 K "LookupError.__new__" XO.tlKE "gate" (tVar 0) (tVar 1), pss_one (XO.ps_os1 (pv 0) (pv 1)), XO.init_ok (P := P) (w := w) (D := ⟨fun _ _ => False, fun _ _ => False, fun _ _ => False, fun _ _ => False⟩) h⟩
abbrev Q_g : Str := ("Board.found_gates" ++ ".<locals>.") ++ "<lambda>"
abbrev P_law (T : Addr) : PT3 := P_lawT Q_g T
theorem len_law (T : Addr) (ds : List D) (μ : M) (Φ : D → M → Prop) (h : P_law T ds μ Φ) : ds.length = 1 := len_lawT ds μ Φ h
def P_is_whole : PT3 := fun ds μ Φ => ∃ d, ds = [d] ∧ Kd μ d ∧ Φ (.bl (wh d)) μ
theorem len_is_whole (ds : List D) (μ : M) (Φ : D → M → Prop) (h : P_is_whole ds μ Φ) : ds.length = 1 := by
  obtain ⟨_, rfl, _⟩ := h
  rfl
def P_is_within : PT3 := fun ds μ Φ => ∃ d lo hi, ds = [d, .int lo, .int hi] ∧ Kd μ d ∧ Φ (.bl (wi d lo hi)) μ
theorem len_is_within (ds : List D) (μ : M) (Φ : D → M → Prop) (h : P_is_within ds μ Φ) : ds.length = 3 := by
  obtain ⟨_, _, _, rfl, _⟩ := h
  rfl
def P_is_row : PT3 := fun ds μ Φ => ∃ d lo hi, ds = [d, .int lo, .int hi] ∧ Kd μ d ∧ Φ (.bl (ir d lo hi)) μ
theorem len_is_row (ds : List D) (μ : M) (Φ : D → M → Prop) (h : P_is_row ds μ Φ) : ds.length = 3 := by
  obtain ⟨_, _, _, rfl, _⟩ := h
  rfl
def P_are_whole : PT3 := fun ds μ Φ => ∃ d m, ds = [d, .int m] ∧ Kd μ d ∧ (∀ xs, d = .tup xs → xs.length ≤ 1000 ∧ ∀ x ∈ xs, Kd μ x) ∧ Φ (.bl (aw d m)) μ
theorem len_are_whole (ds : List D) (μ : M) (Φ : D → M → Prop) (h : P_are_whole ds μ Φ) : ds.length = 2 := by
  obtain ⟨_, _, rfl, _⟩ := h
  rfl
theorem ok_is_whole {f : Addr} {fd : FuncData} (F : Fun K "is_whole" "is_whole" s_is_whole f fd) (B : Bs mg) : FnOk P w K mg base CX0 1 f fd ["thing"] (spI K P_is_whole) := by
  refine F.ok sc_is_whole (fun vs H Q E h => spI_len h len_is_whole) (fun cdv A outer s H vs Q E hr h => ?_)
  have hu65 := hu65_of hr
  refine ⟨_, (pss_one (ps_ret (pe_and (pe_callB (call_isiK1 (K := K) rfl) (by rfl) B.b_isinstance (by decide +kernel) (pa_cons (pv 0) (pa_cons (pe_bltn (v := .ty "int") (by rfl) B.b_int (by decide +kernel) rfl) pa_nil))) (pe_one (pe_not (pe_callB (call_isiK1 (K := K) rfl) (by rfl) B.b_isinstance (by decide +kernel) (pa_cons (pv 0) (pa_cons (pe_bltn (v := .ty "bool") (by rfl) B.b_bool (by decide +kernel) rfl) pa_nil)))))))), body_ok h (fun ds μ Φ p => ?_)⟩
  (try dsimp only [cxOf, Cx.nox, Cx.wish, List.map_cons, List.map_nil])
  obtain ⟨d, rfl, ⟨n, hn⟩, q⟩ := p
  show AS K _ [some _] _ _
  cases d with
  | non => walk_at "go"; exact q
  | bl b =>
    walk_at "go"
    rw [if_pos (by decide +kernel)]
    walk_at "go"
    exact q
  | int i => walk_at "go"; exact q
  | str s => walk_at "go"; exact q
  | ty n => cases hn
  | tup xs => walk_at "go"; exact q
  | rol xs => walk_at "go"; exact q
  | ref a =>
    have hk : n = "list" ∨ n = "dict" := by
      unfold tyn at hn
      simp only at hn
      split at hn <;> first | (cases hn; first | exact .inl rfl | exact .inr rfl) | cases hn
    rcases hk with rfl | rfl
    · walk_at "go"
      refine rc_isi hn (b := false) (by decide +kernel) ?_
      walk_at "go"
      exact q
    · walk_at "go"
      refine rc_isi hn (b := false) (by decide +kernel) ?_
      walk_at "go"
      exact q
theorem ok_is_within {f : Addr} {fd : FuncData} (F : Fun K "is_within" "is_within" s_is_within f fd) (B : Bs mg) (G_is_whole : Def P w K mg base "is_whole" ["thing"] 1 (spI K P_is_whole)) : FnOk P w K mg base CX0 2 f fd ["thing", "least", "most"] (spI K P_is_within) := by
  refine F.ok sc_is_within (fun vs H Q E h => spI_len h len_is_within) (fun cdv A outer s H vs Q E hr h => ?_)
  have hu65 := hu65_of hr
  refine ⟨_, (pss_one (ps_ret (pe_and (pe_def G_is_whole (hr.mono (by decide)) (by rfl) (pa_cons (pv 0) pa_nil)) (pe_one (pe_chain op_le op_le (pv 1) (pv 0) (pv 2)))))), body_ok h (fun ds μ Φ p => ?_)⟩
  (try dsimp only [cxOf, Cx.nox, Cx.wish, List.map_cons, List.map_nil])
  obtain ⟨d, lo, hi, rfl, hk, q⟩ := p
  show AS K _ [some _, some _, some _] _ _
  walk_at "go"
  refine ⟨d, rfl, hk, ?_⟩
  cases d with
  | int i =>
    walk_at "go"
    simp only [wi] at q
    by_cases h : lo ≤ i
    · simp only [h, decide_true, Bool.true_and] at q
      simp only [wh, if_true]
      walk_at "go"
      simp only [h, decide_true, if_true]
      walk_at "go"
      exact q
    · simp only [h, decide_false, Bool.false_and] at q
      simp only [wh, if_true]
      walk_at "go"
      simp only [h, decide_false, Bool.false_eq_true, if_false]
      exact q
  | non => walk_at "go"; exact q
  | bl b => walk_at "go"; exact q
  | str s => walk_at "go"; exact q
  | ty n => walk_at "go"; exact q
  | tup xs => walk_at "go"; exact q
  | rol xs => walk_at "go"; exact q
  | ref a => walk_at "go"; exact q
theorem ok_is_row {f : Addr} {fd : FuncData} (F : Fun K "is_row" "is_row" s_is_row f fd) (B : Bs mg) : FnOk P w K mg base CX0 1 f fd ["thing", "least", "most"] (spI K P_is_row) := by
  refine F.ok sc_is_row (fun vs H Q E h => spI_len h len_is_row) (fun cdv A outer s H vs Q E hr h => ?_)
  have hu65 := hu65_of hr
  refine ⟨_, (pss_one (ps_ret (pe_and (pe_callB (call_isiK1 (K := K) rfl) (by rfl) B.b_isinstance (by decide +kernel) (pa_cons (pv 0) (pa_cons (pe_bltn (v := .ty "tuple") (by rfl) B.b_tuple (by decide +kernel) rfl) pa_nil))) (pe_one (pe_chain op_le op_le (pv 1) (pe_callB (call_lenK (K := K) rfl) (by rfl) B.b_len (by decide +kernel) (pa_cons (pv 0) pa_nil)) (pv 2)))))), body_ok h (fun ds μ Φ p => ?_)⟩
  (try dsimp only [cxOf, Cx.nox, Cx.wish, List.map_cons, List.map_nil])
  obtain ⟨d, lo, hi, rfl, ⟨n, hn⟩, q⟩ := p
  show AS K _ [some _, some _, some _] _ _
  cases d with
  | non => walk_at "go"; exact q
  | bl b => walk_at "go"; exact q
  | int i => walk_at "go"; exact q
  | str s => walk_at "go"; exact q
  | ty n => cases hn
  | rol xs => walk_at "go"; exact q
  | tup xs =>
    walk_at "go"
    simp only [ir] at q
    by_cases h : lo ≤ (xs.length : Int)
    · simp only [h, decide_true, Bool.true_and] at q
      simp only [h, decide_true, if_true]
      walk_at "go"
      exact q
    · simp only [h, decide_false, Bool.false_and] at q
      simp only [h, decide_false, Bool.false_eq_true, if_false]
      exact q
  | ref a =>
    have hk : n = "list" ∨ n = "dict" := by
      unfold tyn at hn
      simp only at hn
      split at hn <;> first | (cases hn; first | exact .inl rfl | exact .inr rfl) | cases hn
    rcases hk with rfl | rfl
    · walk_at "go"
      refine rc_isi hn (b := false) (by decide +kernel) ?_
      walk_at "go"
      exact q
    · walk_at "go"
      refine rc_isi hn (b := false) (by decide +kernel) ?_
      walk_at "go"
      exact q
theorem ok_are_whole {f : Addr} {fd : FuncData} (F : Fun K "are_whole" "are_whole" s_are_whole f fd) (B : Bs mg) (G_is_row : Def P w K mg base "is_row" ["thing", "least", "most"] 1 (spI K P_is_row)) (G_is_whole : Def P w K mg base "is_whole" ["thing"] 1 (spI K P_is_whole)) : FnOk P w K mg base CX0 2 f fd ["thing", "many"] (spI K P_are_whole) := by
  refine F.ok sc_are_whole (fun vs H Q E h => spI_len h len_are_whole) (fun cdv A outer s H vs Q E hr h => ?_)
  have hu65 := hu65_of hr
  refine ⟨_, (pss_one (ps_ret (pe_and (pe_def G_is_row (hr.mono (by decide)) (by rfl) (pa_cons (pv 0) (pa_cons (pv 1) (pa_cons (pv 1) pa_nil)))) (pe_one (pe_callB (cr_allK (K := K) rfl rfl) (by rfl) B.b_all (by decide +kernel) (pa_cons (pe_lc (own := [("one", 2)]) (g := gName 2) (tt := tYes) rfl sc_are_whole.nd (pi_tupK (K := K) rfl (pv 0)) (blkOk_by (own := [("one", 2)]) (N := N_are_whole) (sc := defScope s_are_whole) (by decide +kernel)) (fun _ _ _ _ _ => (pg_name (i := 2) sc_are_whole.nd rfl (by first | exact Or.inl rfl | exact Or.inr rfl))) (fun _ _ _ _ _ => pts_nil) (fun _ _ _ _ _ => (pe_def G_is_whole (hr.mono (by decide)) (by rfl) (pa_cons (pv 2) pa_nil)))) pa_nil)))))), body_okU h (fun ds μ Φ p => ?_)⟩
  (try dsimp only [cxOf, Cx.nox, Cx.wish, List.map_cons, List.map_nil])
  obtain ⟨d, m, rfl, hk, hx, q⟩ := p
  show AS K _ [some _, some _, none] _ _
  walk_at "go"
  refine ⟨d, m, m, rfl, hk, ?_⟩
  by_cases hr : ir d m m = true
  · cases d with
    | tup xs =>
      obtain ⟨h1, h2⟩ := hx xs rfl
      have hl : (xs.length : Int) = m := by
        simp only [ir, Bool.and_eq_true, decide_eq_true_eq] at hr
        omega
      rw [hr]
      walk_at "go"
      refine a_lc1 (fun x => .bl (wh x)) (fun _ => true) (ai_T ?_)
      walk_at "go"
      refine ⟨by have := sizeLine_eq; omega, fun x hx => at_yes ⟨rfl, rfl⟩, fun x hx _ => ?_, fun l hl2 => ?_⟩
      · walk_at "nf"
        walk_at "go"
        exact ⟨x, rfl, h2 x hx, rfl, rfl⟩
      · walk_at "go"
        have e : List.map (fun x => D.bl (wh x)) (List.filter (fun _ => true) xs) = (xs.map wh).map D.bl := by
          rw [List.filter_eq_self.mpr (fun _ _ => rfl), List.map_map]; rfl
        rw [e]
        refine rc_all set_same ?_
        refine up_of (sub_new Sub.refl hl2) ?_
        have e2 : (xs.map wh).all id = xs.all wh := by rw [List.all_map]; rfl
        rw [e2]
        simp only [aw, hl, decide_true, Bool.true_and] at q
        exact q
    | non => cases hr
    | bl b => cases hr
    | int i => cases hr
    | str s => cases hr
    | ty n => cases hr
    | rol xs => cases hr
    | ref a => cases hr
  · have hf : ir d m m = false := by simpa using hr
    rw [hf]
    walk_at "go"
    refine up ?_
    have e : aw d m = false := by
      cases d <;> first | rfl | skip
      rename_i xs
      simp only [ir, aw] at hf ⊢
      rw [Bool.and_eq_false_iff] at hf ⊢
      left
      rcases hf with h | h <;> (simp only [decide_eq_false_iff_not] at h ⊢; omega)
    rw [e] at q
    exact q
def Kx (μ : M) (d : D) : Prop := Kd μ d ∧ ∀ xs, d = .tup xs → xs.length ≤ 1000 ∧ ∀ x ∈ xs, Kd μ x
def P_is_pin_row : PT3 := fun ds μ Φ => ∃ d w h l, ds = [d, .int w, .int h, .int l] ∧ Kx μ d ∧ Φ (.bl (pr d w h l)) μ
theorem len_is_pin_row (ds : List D) (μ : M) (Φ : D → M → Prop) (h : P_is_pin_row ds μ Φ) : ds.length = 4 := by
  obtain ⟨_, _, _, _, rfl, _⟩ := h
  rfl
def P_are_board : PT3 := fun ds μ Φ => ∃ w h p l s, ds = [w, h, p, l, s] ∧ Kd μ w ∧ Kd μ h ∧ Kd μ p ∧ Kd μ l ∧ Kd μ s ∧ (∀ rows, p = .tup rows → rows.length ≤ 1000 ∧ ∀ r ∈ rows, Kx μ r) ∧ Φ (.bl (ab w h p l s)) μ
theorem len_are_board (ds : List D) (μ : M) (Φ : D → M → Prop) (h : P_are_board ds μ Φ) : ds.length = 5 := by
  obtain ⟨_, _, _, _, _, rfl, _⟩ := h
  rfl
theorem ok_is_pin_row {f : Addr} {fd : FuncData} (F : Fun K "is_pin_row" "is_pin_row" s_is_pin_row f fd) (B : Bs mg) (G_are_whole : Def P w K mg base "are_whole" ["thing", "many"] 2 (spI K P_are_whole)) : FnOk P w K mg base CX0 3 f fd ["thing", "width", "height", "layers"] (spI K P_is_pin_row) := by
  refine F.ok sc_is_pin_row (fun vs H Q E h => spI_len h len_is_pin_row) (fun cdv A outer s H vs Q E hr h => ?_)
  have hu65 := hu65_of hr
  refine ⟨_, (pss_cons (ps_if (pt_not (pt_val (pe_def G_are_whole (hr.mono (by decide)) (by rfl) (pa_cons (pv 0) (pa_cons pe_int pa_nil))))) (pss_one (ps_ret pe_bl)) pss_nil)
      (pss_cons (ps_asg (pv 0) (pg_tup (by rfl) (pgs_cons (pg_name (i := 4) sc_is_pin_row.nd rfl (by first | exact Or.inl rfl | exact Or.inr rfl)) (pgs_cons (pg_name (i := 5) sc_is_pin_row.nd rfl (by first | exact Or.inl rfl | exact Or.inr rfl)) (pgs_cons (pg_name (i := 6) sc_is_pin_row.nd rfl (by first | exact Or.inl rfl | exact Or.inr rfl)) (pgs_cons (pg_name (i := 7) sc_is_pin_row.nd rfl (by first | exact Or.inl rfl | exact Or.inr rfl)) pgs_nil))))))
      (pss_one (ps_ret (pe_and (pe_chain op_lt op_lt pe_int (pv 4) (pv 1)) (pe_and (pe_chain op_lt op_lt pe_int (pv 5) (pv 2)) (pe_one (pe_chain3 op_le op_le op_lt pe_int (pv 6) (pv 7) (pv 3))))))))), body_ok h (fun ds μ Φ p => ?_)⟩
  (try dsimp only [cxOf, Cx.nox, Cx.wish, List.map_cons, List.map_nil])
  obtain ⟨d, w, h, l, rfl, ⟨hk, hx⟩, q⟩ := p
  show AS K _ [some _, some _, some _, some _, none, none, none, none] _ _
  walk_at "go"
  refine ⟨d, 4, rfl, hk, hx, ?_⟩
  by_cases hw : aw d 4 = true
  · obtain ⟨x, y, f, g, rfl⟩ := aw_four hw
    rw [hw]
    have fin : ∀ b, pr (.tup [.int x, .int y, .int f, .int g]) w h l = b → Φ (.bl b) μ := fun b e => e ▸ q
    walk_at "go"
    refine ite_d (fun h1 => ?_) (fun h1 => ?_)
    rotate_left
    · walk_at "go"
      exact fin _ (by simp [pr, h1])
    walk_at "go"
    refine ite_d (fun h2 => ?_) (fun h2 => ?_)
    rotate_left
    · exact fin _ (by simp [pr, h2])
    walk_at "go"
    refine ite_d (fun h3 => ?_) (fun h3 => ?_)
    rotate_left
    · walk_at "go"
      exact fin _ (by simp [pr, h3])
    walk_at "go"
    refine ite_d (fun h4 => ?_) (fun h4 => ?_)
    rotate_left
    · exact fin _ (by simp [pr, h4])
    walk_at "go"
    refine ite_d (fun h5 => ?_) (fun h5 => ?_)
    rotate_left
    · exact fin _ (by simp [pr, h5])
    walk_at "go"
    refine ite_d (fun h6 => ?_) (fun h6 => ?_)
    rotate_left
    · exact fin _ (by simp [pr, h6])
    walk_at "go"
    exact fin _ (by simp [pr, h1, h2, h3, h4, h5, h6])
  · have hf : aw d 4 = false := by simpa using hw
    rw [hf]
    walk_at "go"
    rw [aw_pr hf] at q
    exact q
theorem ok_are_board {f : Addr} {fd : FuncData} (F : Fun K "are_board" "are_board" s_are_board f fd) (B : Bs mg) (V_MOST : Cst mg "MOST" (.int 1000000)) (V_MOST_LAYERS : Cst mg "MOST_LAYERS" (.int 3)) (V_MOST_PINS : Cst mg "MOST_PINS" (.int 16)) (G_is_pin_row : Def P w K mg base "is_pin_row" ["thing", "width", "height", "layers"] 3 (spI K P_is_pin_row)) (G_is_row : Def P w K mg base "is_row" ["thing", "least", "most"] 1 (spI K P_is_row)) (G_is_within : Def P w K mg base "is_within" ["thing", "least", "most"] 2 (spI K P_is_within)) : FnOk P w K mg base CX0 4 f fd ["width", "height", "pins", "layers", "spacing"] (spI K P_are_board) := by
  refine F.ok sc_are_board (fun vs H Q E h => spI_len h len_are_board) (fun cdv A outer s H vs Q E hr h => ?_)
  have hu65 := hu65_of hr
  refine ⟨_, (pss_cons (ps_if (PW.pt (pw_or (pt_not (pt_val (pe_def G_is_within (hr.mono (by decide)) (by rfl) (pa_cons (pv 0) (pa_cons pe_int (pa_cons (pe_cst V_MOST (by rfl)) pa_nil)))))) (pw_or (pt_not (pt_val (pe_def G_is_within (hr.mono (by decide)) (by rfl) (pa_cons (pv 1) (pa_cons pe_int (pa_cons (pe_cst V_MOST (by rfl)) pa_nil)))))) (pw_or1 (pt_not (pt_val (pe_def G_is_within (hr.mono (by decide)) (by rfl) (pa_cons (pv 3) (pa_cons pe_int (pa_cons (pe_cst V_MOST_LAYERS (by rfl)) pa_nil)))))))))) (pss_one (ps_ret pe_bl)) pss_nil)
      (pss_cons (ps_if (PW.pt (pw_or (pt_not (pt_val (pe_def G_is_within (hr.mono (by decide)) (by rfl) (pa_cons (pv 4) (pa_cons pe_int (pa_cons (pe_cst V_MOST (by rfl)) pa_nil)))))) (pw_or1 (pt_not (pt_val (pe_def G_is_row (hr.mono (by decide)) (by rfl) (pa_cons (pv 2) (pa_cons pe_int (pa_cons (pe_cst V_MOST_PINS (by rfl)) pa_nil))))))))) (pss_one (ps_ret pe_bl)) pss_nil)
      (pss_cons (ps_if (pt_not (pt_val (pe_callB (cr_allK (K := K) rfl rfl) (by rfl) B.b_all (by decide +kernel) (pa_cons (pe_lc (own := [("row", 5)]) (g := gName 5) (tt := tYes) rfl sc_are_board.nd (pi_tupK (K := K) rfl (pv 2)) (blkOk_by (own := [("row", 5)]) (N := N_are_board) (sc := defScope s_are_board) (by decide +kernel)) (fun _ _ _ _ _ => (pg_name (i := 5) sc_are_board.nd rfl (by first | exact Or.inl rfl | exact Or.inr rfl))) (fun _ _ _ _ _ => pts_nil) (fun _ _ _ _ _ => (pe_def G_is_pin_row (hr.mono (by decide)) (by rfl) (pa_cons (pv 5) (pa_cons (pv 0) (pa_cons (pv 1) (pa_cons (pv 3) pa_nil))))))) pa_nil)))) (pss_one (ps_ret pe_bl)) pss_nil)
      (pss_one (ps_ret (pe_cmpR op_eq (pe_callB ST.cr_lenST (by rfl) B.b_len (by decide +kernel) (pa_cons (ST.pe_scT (own := [("x", 6), ("y", 7), ("first", 8), ("last", 9)]) (g := gTup K 4 (gCons (gName 6) (gCons (gName 7) (gCons (gName 8) (gCons (gName 9) gNil))))) (tt := tYes) (hu_of hr) rfl sc_are_board.nd (pi_tupK (K := K) rfl (pv 2)) (blkOk_by (own := [("x", 6), ("y", 7), ("first", 8), ("last", 9)]) (N := N_are_board) (sc := defScope s_are_board) (by decide +kernel)) (fun _ _ _ _ _ => (pg_tup (by rfl) (pgs_cons (pg_name (i := 6) sc_are_board.nd rfl (by first | exact Or.inl rfl | exact Or.inr rfl)) (pgs_cons (pg_name (i := 7) sc_are_board.nd rfl (by first | exact Or.inl rfl | exact Or.inr rfl)) (pgs_cons (pg_name (i := 8) sc_are_board.nd rfl (by first | exact Or.inl rfl | exact Or.inr rfl)) (pgs_cons (pg_name (i := 9) sc_are_board.nd rfl (by first | exact Or.inl rfl | exact Or.inr rfl)) pgs_nil)))))) (fun _ _ _ _ _ => pts_nil) (fun _ _ _ _ _ => (pe_tup (pa_cons (pv 6) (pa_cons (pv 7) pa_nil))))) pa_nil)) (pe_callB (call_lenK (K := K) rfl) (by rfl) B.b_len (by decide +kernel) (pa_cons (pv 2) pa_nil)) (by first | exact nomark _ | rfl))))))), body_okU h (fun ds μ Φ p => ?_)⟩
  (try dsimp only [cxOf, Cx.nox, Cx.wish, List.map_cons, List.map_nil])
  obtain ⟨w, h, p, l, s, rfl, kw, kh, kp, kl, ks, kr, q⟩ := p
  show AS K _ [some _, some _, some _, some _, some _, none, none, none, none, none] _ _
  have fin : ∀ b, ab w h p l s = b → Φ (.bl b) μ := fun b e => e ▸ q
  walk_at "go"
  refine ⟨w, 2, 1000000, rfl, kw, _, rfl, ?_⟩
  by_cases h1 : wi w 2 1000000 = true
  rotate_left
  · have f1 : wi w 2 1000000 = false := by simpa using h1
    rw [f1]
    walk_at "go"
    exact up (fin _ (by simp [ab, f1]))
  rw [h1]
  walk_at "go"
  refine ⟨h, 2, 1000000, rfl, kh, _, rfl, ?_⟩
  by_cases h2 : wi h 2 1000000 = true
  rotate_left
  · have f1 : wi h 2 1000000 = false := by simpa using h2
    rw [f1]
    walk_at "go"
    exact up (fin _ (by simp [ab, f1]))
  rw [h2]
  walk_at "go"
  refine ⟨l, 1, 3, rfl, kl, _, rfl, ?_⟩
  by_cases h3 : wi l 1 3 = true
  rotate_left
  · have f1 : wi l 1 3 = false := by simpa using h3
    rw [f1]
    walk_at "go"
    exact up (fin _ (by simp [ab, f1]))
  rw [h3]
  walk_at "go"
  refine ⟨s, 1, 1000000, rfl, ks, _, rfl, ?_⟩
  by_cases h4 : wi s 1 1000000 = true
  rotate_left
  · have f1 : wi s 1 1000000 = false := by simpa using h4
    rw [f1]
    walk_at "go"
    exact up (fin _ (by simp [ab, f1]))
  rw [h4]
  walk_at "go"
  obtain ⟨wn, rfl, _⟩ := wi_int h1
  obtain ⟨hn, rfl, _⟩ := wi_int h2
  obtain ⟨ln, rfl, _⟩ := wi_int h3
  refine ⟨p, 0, 16, rfl, kp, _, rfl, ?_⟩
  by_cases h5 : ir p 0 16 = true
  rotate_left
  · have f1 : ir p 0 16 = false := by simpa using h5
    rw [f1]
    walk_at "go"
    refine up (fin _ ?_)
    cases p <;> first | (simp [ab]; done) | skip
    rename_i rows
    simp only [ir] at f1
    have : ¬ rows.length ≤ 16 := by
      intro hh
      simp at f1
      omega
    simp [ab, this]
  rw [h5]
  walk_at "go"
  obtain ⟨rows, rfl, hl⟩ : ∃ rows, p = .tup rows ∧ rows.length ≤ 16 := by
    cases p <;> first | (simp [ir] at h5; done) | skip
    rename_i rows
    refine ⟨rows, rfl, ?_⟩
    simp [ir] at h5
    omega
  obtain ⟨_, kr⟩ := kr rows rfl
  have hz : rows.length < 63 := by omega
  refine a_lc1 (fun r => .bl (pr r wn hn ln)) (fun _ => true) (ai_T ?_)
  walk_at "go"
  refine ⟨by have := sizeLine_eq; omega, fun x hx => at_yes ⟨rfl, rfl⟩, fun x hx _ => ?_, fun l2 hl2 => ?_⟩
  · walk_at "nf"
    walk_at "go"
    exact ⟨x, wn, hn, ln, rfl, kr x hx, rfl, rfl⟩
  walk_at "go"
  have e1 : List.map (fun r => D.bl (pr r wn hn ln)) (List.filter (fun _ => true) rows) = (rows.map fun r => pr r wn hn ln).map D.bl := by
    rw [List.filter_eq_self.mpr (fun _ _ => rfl), List.map_map]; rfl
  rw [e1]
  refine rc_all set_same ?_
  have e2 : (rows.map fun r => pr r wn hn ln).all id = rows.all fun r => pr r wn hn ln := by rw [List.all_map]; rfl
  rw [e2]
  by_cases h6 : (rows.all fun r => pr r wn hn ln) = true
  rotate_left
  · have f1 : (rows.all fun r => pr r wn hn ln) = false := by simpa using h6
    rw [f1]
    refine ⟨_, rfl, ?_⟩
    walk_at "go"
    exact up_of (sub_new Sub.refl hl2) (fin _ (by simp only [ab, f1, Bool.and_false, Bool.false_and]))
  rw [h6]
  refine ⟨_, rfl, ?_⟩
  walk_at "go"
  have hs : ∀ r ∈ rows, ∃ x y f g : Int, r = .tup [.int x, .int y, .int f, .int g] := fun r hr => by
    obtain ⟨x, y, f, g, e, _⟩ := pr_int (List.all_eq_true.mp h6 r hr)
    exact ⟨x, y, f, g, e⟩
  refine ai_T ?_
  walk_at "go"
  refine ⟨spot, hz, fun r hr => ?_, fun n hn2 => ?_⟩
  · obtain ⟨x, y, f, g, rfl⟩ := hs r hr
    refine ⟨_, ⟨rfl, rfl⟩, rfl, ?_⟩
    walk_at "nf"
    walk_at "go"
    exact ⟨rfl, rfl⟩
  walk_at "go"
  refine up_of (sub_new Sub.refl hl2) (fin _ ?_)
  by_cases h7 : (rows.map spot).Nodup
  · have e := num_all h7 hn2
    rw [List.length_map] at e
    simp only [ab, h1, h2, h3, h4, h6, h7, hl, decide_true, Bool.and_true, e]
  · have e := num_some h7 hn2
    rw [List.length_map] at e
    have e8 : ¬ ((n : Int) = rows.length) := by omega
    simp only [ab, h1, h2, h3, h4, h6, h7, hl, decide_true, Bool.and_true, decide_false, Bool.and_false, e8]
/-- a board stands at b -/
def Brd (C : Addr) (μ : M) (b : Addr) (w h : Int) (rows : List R4) (l s : Int) (sp kg kt : Addr) : Prop := ∃ (dx : Addr) (gl tl : List Int), (Lvs l gl ∧ Lvs l tl ∧ kg ≠ kt) ∧
  μ b = some (.ins C dx [("wide", .int w), ("high", .int h), ("pin_rows", .tup (rows.map encR)), ("layer_count", .int l), ("apart_by", .int s), ("spots", .ref sp), ("kept_gates", .ref kg), ("kept_triangles", .ref kt)]) ∧
  μ sp = some (.lst ((spots w h rows).map encS)) ∧ μ kg = some (.dK (gl.map fun lv => (Sum.inl lv, gatesD w h rows lv))) ∧ μ kt = some (.dK (tl.map fun lv => (Sum.inl lv, trisD w h rows lv)))
def P_board_init (C : Addr) : PT4 := fun ds μ Φ Ξ => ∃ b dx w h p l s, ds = [.ref b, w, h, p, l, s] ∧ μ b = some (.ins C dx []) ∧ Kd μ w ∧ Kd μ h ∧ Kd μ p ∧ Kd μ l ∧ Kd μ s ∧ (∀ rows, p = .tup rows → rows.length ≤ 1000 ∧ ∀ r ∈ rows, Kx μ r) ∧
  (∀ wn hn rows ln sn, ab w h p l s = true → w = .int wn → h = .int hn → p = .tup (rows.map encR) → l = .int ln → s = .int sn → ∀ μ' sp kg kt, SubB b μ μ' → μ sp = none → μ kg = none → μ kt = none → Brd C μ' b wn hn rows ln sn sp kg kt → Φ .non μ') ∧ (ab w h p l s = false → Ξ "NoBoard" none μ)
theorem len_board_init (C : Addr) (ds : List D) (μ : M) (Φ : D → M → Prop) (Ξ : XW) (h : P_board_init C ds μ Φ Ξ) : ds.length = 6 := by
  obtain ⟨_, _, _, _, _, _, _, rfl, _⟩ := h
  rfl
theorem rows_of {w h l : Int} : ∀ {ds : List D}, (ds.all fun r => pr r w h l) = true → ∃ rows : List R4, ds = rows.map encR
  | [], _ => ⟨[], rfl⟩
  | d :: ds, h => by
    rw [List.all_cons, Bool.and_eq_true] at h
    obtain ⟨x, y, f, g, e, _⟩ := pr_int h.1
    obtain ⟨rows, e2⟩ := rows_of h.2
    exact ⟨(x, y, f, g) :: rows, by rw [e, e2]; rfl⟩
theorem ab_of {w h p l s : D} (k : ab w h p l s = true) : ∃ (wn hn ln sn : Int) (rows : List R4), w = .int wn ∧ h = .int hn ∧ p = .tup (rows.map encR) ∧ l = .int ln ∧ s = .int sn ∧ rows.length ≤ 16 := by
  simp only [ab, Bool.and_eq_true] at k
  obtain ⟨⟨⟨⟨h1, h2⟩, h3⟩, h4⟩, h5⟩ := k
  obtain ⟨wn, rfl, _⟩ := wi_int h1
  obtain ⟨hn, rfl, _⟩ := wi_int h2
  obtain ⟨ln, rfl, _⟩ := wi_int h3
  obtain ⟨sn, rfl, _⟩ := wi_int h4
  cases p <;> first | (simp at h5; done) | skip
  rename_i ds
  simp only [Bool.and_eq_true, decide_eq_true_eq] at h5
  obtain ⟨rows, e⟩ := rows_of h5.1.2
  exact ⟨wn, hn, ln, sn, rows, rfl, rfl, by rw [e], rfl, rfl, by rw [e, List.length_map] at h5; exact h5.1.1⟩
def xyOf : D → D
  | .tup (x :: y :: _) => .tup [x, y]
  | _ => .non
theorem ok_board_init {f : Addr} {fd : FuncData} {kws : List (Str × V)} (F : FunD K "__init__" "Board.__init__" (defArgs s_board_init) (defBody s_board_init) (defScope s_board_init) [] kws f fd) (B : Bs mg) {C_Board : Addr} (K_Board : Cl_Board K C_Board) {C_NoBoard : Addr} (E_NoBoard : Exc0 K mg "NoBoard" C_NoBoard) (G_are_board : Def P w K mg base "are_board" ["width", "height", "pins", "layers", "spacing"] 4 (spI K P_are_board)) : FnOk P w K mg base (L2.CX P w) 6 f fd ["self", "width", "height", "pins", "layers", "spacing"] (spX K (xn mg) (P_board_init C_Board)) := by
  refine F.ok (CX := L2.CX P w) sc_board_init (fun vs H Q E h => spX_len h (len_board_init C_Board)) (fun cdv A outer s H vs Q E hr h => ?_)
  have hu65 := hu65_of hr
  refine ⟨_, (pss_cons (ps_if (pt_not (pt_val (pe_def G_are_board (hr.mono (by decide)) (by rfl) (pa_cons (pv 1) (pa_cons (pv 2) (pa_cons (pv 3) (pa_cons (pv 4) (pa_cons (pv 5) pa_nil)))))))) (pss_one (ps_raise rfl (takes_of rfl rfl rfl rfl) (pmk_e0 E_NoBoard (by rfl)))) pss_nil)
      (pss_cons (ps_asg (pe_tup (pa_cons (pv 1) (pa_cons (pv 2) pa_nil))) (pg_tup (by rfl) (pgs_cons (pg_fldK (K := K) rfl (pv 0)) (pgs_cons (pg_fldK (K := K) rfl (pv 0)) pgs_nil))))
      (pss_cons (ps_fldK (K := K) rfl (pv 0) (pv 3) rfl)
      (pss_cons (ps_fldK (K := K) rfl (pv 0) (pv 4) rfl)
      (pss_cons (ps_fldK (K := K) rfl (pv 0) (pv 5) rfl)
      (pss_cons (ps_fldK (K := K) rfl (pv 0) (pe_op op_cat (pe_lst (pa_cons (pe_tup (pa_cons pe_int (pa_cons pe_int pa_nil))) (pa_cons (pe_tup (pa_cons (pv 1) (pa_cons pe_int pa_nil))) (pa_cons (pe_tup (pa_cons (pv 1) (pa_cons (pv 2) pa_nil))) (pa_cons (pe_tup (pa_cons pe_int (pa_cons (pv 2) pa_nil))) pa_nil))))) (pe_lc (own := [("row", 6)]) (g := gName 6) (tt := tYes) rfl sc_board_init.nd (pi_tupK (K := K) rfl (pv 3)) (blkOk_by (own := [("row", 6)]) (N := N_board_init) (sc := defScope s_board_init) (by decide +kernel)) (fun _ _ _ _ _ => (pg_name (i := 6) sc_board_init.nd rfl (by first | exact Or.inl rfl | exact Or.inr rfl))) (fun _ _ _ _ _ => pts_nil) (fun _ _ _ _ _ => (pe_tup (pa_cons (pe_ix (ix_seqK (K := K) rfl) (pv 6) pe_int (fun _ _ => rfl)) (pa_cons (pe_ix (ix_seqK (K := K) rfl) (pv 6) pe_int (fun _ _ => rfl)) pa_nil)))))) rfl)
      (pss_cons (ps_fldK (K := K) rfl (pv 0) pe_dnewK rfl)
      (pss_one (ps_fldK (K := K) rfl (pv 0) pe_dnewK rfl))))))))), body_okX h (fun ds μ Φ Ξ p => ?_)⟩
  (try dsimp only [cxOf, Cx.nox, Cx.wish, List.map_cons, List.map_nil])
  obtain ⟨b, dx, w, h, p, l, s, rfl, hb, kw, kh, kp, kl, ks, kr, qy, qn⟩ := p
  show AS K _ [some _, some _, some _, some _, some _, some _, none] _ _
  walk_at "go"
  refine ⟨w, h, p, l, s, rfl, kw, kh, kp, kl, ks, kr, _, rfl, ?_⟩
  by_cases ha : ab w h p l s = true
  rotate_left
  · have hf : ab w h p l s = false := by simpa using ha
    rw [hf]
    walk_at "go"
    exact s_raise0 (x := "NoBoard") (xn_at E_NoBoard.mg) (qn hf)
  obtain ⟨wn, hn, ln, sn, rows, rfl, rfl, rfl, rfl, rfl, hlen⟩ := ab_of ha
  rw [ha]
  walk_at "go"
  refine g_fld ?_
  walk_at "go"
  refine ⟨b, C_Board, dx, _, rfl, hb, K_Board.cls, K_Board.n_wide, Nat.le_of_ble_eq_true rfl, ?_⟩
  walk_at "go"
  refine g_fld ?_
  walk_at "go"
  refine ⟨b, C_Board, dx, _, rfl, set_same, K_Board.cls, K_Board.n_high, Nat.le_of_ble_eq_true rfl, ?_⟩
  rw [set_set]
  walk_at "go"
  refine s_fld ?_
  walk_at "go"
  refine ⟨b, C_Board, dx, _, rfl, set_same, K_Board.cls, K_Board.n_pin_rows, Nat.le_of_ble_eq_true rfl, ?_⟩
  rw [set_set]
  walk_at "go"
  refine s_fld ?_
  walk_at "go"
  refine ⟨b, C_Board, dx, _, rfl, set_same, K_Board.cls, K_Board.n_layer_count, Nat.le_of_ble_eq_true rfl, ?_⟩
  rw [set_set]
  walk_at "go"
  refine s_fld ?_
  walk_at "go"
  refine ⟨b, C_Board, dx, _, rfl, set_same, K_Board.cls, K_Board.n_apart_by, Nat.le_of_ble_eq_true rfl, ?_⟩
  rw [set_set]
  walk_at "go"
  refine s_fld ?_
  walk_at "go"
  intro l1 hl1
  have ne1 := none_ne hl1
  walk_at "go"
  refine a_lc1 xyOf (fun _ => true) (ai_T ?_)
  walk_at "go"
  refine ⟨by rw [List.length_map]; have := sizeLine_eq; omega, fun x hx => at_yes ⟨rfl, rfl⟩, fun x hx _ => ?_, fun l2 hl2 => ?_⟩
  · obtain ⟨r, _, rfl⟩ := List.mem_map.mp hx
    walk_at "nf"
    walk_at "go"
    exact ⟨rfl, rfl⟩
  walk_at "go"
  have e2 : List.map xyOf (List.filter (fun _ => true) (rows.map encR)) = rows.map fun r => pt r.1 r.2.1 := by
    rw [List.filter_eq_self.mpr (fun _ _ => rfl), List.map_map]; rfl
  rw [e2]
  have ne2 := none_ne hl2
  have ne3 := none_ne (none_back hl2)
  refine ro_cat (by walk_at "mu") (by walk_at "mu") (by rw [List.length_map]; have := sizeLine_eq; simp only [List.length_cons, List.length_nil]; omega) fun l3 hl3 => ?_
  have ne4 := none_ne hl3
  have ne5 := none_ne (none_back hl3)
  have ne6 := none_ne (none_back (none_back hl3))
  walk_at "go"
  refine ⟨b, C_Board, dx, _, rfl, by walk_at "mu", K_Board.cls, K_Board.n_spots, Nat.le_of_ble_eq_true rfl, ?_⟩
  walk_at "go"
  refine s_fld ?_
  refine a_dnewK fun kg hkg => ?_
  walk_at "go"
  have nk1 := none_ne hkg
  have nk2 := none_ne (none_back hkg)
  have nk3 := none_ne (none_back (none_back hkg))
  have nk4 := none_ne (none_back (none_back (none_back hkg)))
  refine ⟨b, C_Board, dx, _, rfl, by walk_at "mu", K_Board.cls, K_Board.n_kept_gates, Nat.le_of_ble_eq_true rfl, ?_⟩
  walk_at "go"
  refine s_fld ?_
  refine a_dnewK fun kt hkt => ?_
  walk_at "go"
  have nt1 := none_ne hkt
  have nt2 := none_ne (none_back hkt)
  have nt3 := none_ne (none_back (none_back hkt))
  have nt4 := none_ne (none_back (none_back (none_back hkt)))
  have nt5 := none_ne (none_back (none_back (none_back (none_back hkt))))
  refine ⟨b, C_Board, dx, _, rfl, by walk_at "mu", K_Board.cls, K_Board.n_kept_triangles, Nat.le_of_ble_eq_true rfl, ?_⟩
  have e3 : (spots wn hn rows).map encS = [D.tup [D.int 0, D.int 0], D.tup [D.int wn, D.int 0], D.tup [D.int wn, D.int hn], D.tup [D.int 0, D.int hn]] ++ List.map (fun r => pt r.1 r.2.1) rows := by
    unfold spots; rw [List.map_append, List.map_map]; rfl
  refine qy wn hn rows ln sn ha rfl rfl rfl rfl rfl _ l3 kg kt ?_ ?_ ?_ ?_ ⟨dx, [], [], ⟨lvs_nil, lvs_nil, Ne.symm nt2⟩, ?_, ?_, ?_, ?_⟩
  · exact sb_self (sb_new (sb_self (sb_new (sb_self (sb_new (sb_new (sb_new (sb_self sb_refl) hl1) hl2) hl3)) hkg)) hkt)
  · exact none_back (none_back (none_back hl3))
  · exact none_back (none_back (none_back (none_back (none_back hkg))))
  · exact none_back (none_back (none_back (none_back (none_back (none_back (none_back hkt))))))
  · exact set_same
  · rw [e3]
    have n1 : l3 ≠ b := by assumption
    walk_at "mu"
  · walk_at "mu"
  · walk_at "mu"
def P_board_look_pin (C : Addr) : PT4 := fun ds μ Φ Ξ => ∃ b d w h rows l s sp kg kt, ds = [.ref b, d] ∧ Brd C μ b w h rows l s sp kg kt ∧ Kd μ d ∧ (wi d 0 (rows.length + 3) = true → Φ .non μ) ∧
  (wi d 0 (rows.length + 3) = false → ∀ dx, μ dx = none → Ξ "NoPin" (some dx) (μ.set dx (.xd [("pin", d)])))
theorem len_board_look_pin (C : Addr) (ds : List D) (μ : M) (Φ : D → M → Prop) (Ξ : XW) (h : P_board_look_pin C ds μ Φ Ξ) : ds.length = 2 := by
  obtain ⟨_, _, _, _, _, _, _, _, _, _, rfl, _⟩ := h
  rfl
theorem ok_board_look_pin {f : Addr} {fd : FuncData} (F : Fun K "look_pin" "Board.look_pin" s_board_look_pin f fd) (B : Bs mg) {C_Board : Addr} (K_Board : Cl_Board K C_Board) {C_NoPin : Addr} (E_NoPin : Exc1 P w K mg base "NoPin" "pin" C_NoPin) (G_is_within : Def P w K mg base "is_within" ["thing", "least", "most"] 2 (spI K P_is_within)) : FnOk P w K mg base (L2.CX P w) 4 f fd ["self", "number"] (spX K (xn mg) (P_board_look_pin C_Board)) := by
  refine F.okX sc_board_look_pin (fun vs H Q E h => spX_len h (len_board_look_pin C_Board)) (fun cdv A outer s H vs Q E hr h => ?_)
  have hu65 := hu65_of hr
  refine ⟨_, (pss_one (ps_if (pt_not (pt_val (pe_def G_is_within (hr.mono (by decide)) (by rfl) (pa_cons (pv 1) (pa_cons pe_int (pa_cons (pe_op op_sub (pe_callB (call_lenK (K := K) rfl) (by rfl) B.b_len (by decide +kernel) (pa_cons (pe_fldK (K := K) rfl (pv 0) rfl) pa_nil)) pe_int) pa_nil)))))) (pss_one (ps_raise rfl (takes_of rfl rfl rfl rfl) (pmk_e1 E_NoPin (hr.mono (by decide)) (by rfl) (pa_cons (pv 1) pa_nil)))) pss_nil)), body_okX h (fun ds μ Φ Ξ p => ?_)⟩
  (try dsimp only [cxOf, Cx.nox, Cx.wish, List.map_cons, List.map_nil])
  obtain ⟨b, d, w, h, rows, l, s, sp, kg, kt, rfl, ⟨dx, gl, tl, lvs, hb, hsp, hkg, hkt⟩, kd, qy, qn⟩ := p
  show AS K _ [some _, some _] _ _
  walk_at "go"
  refine a_fld ?_
  walk_at "go"
  refine ⟨b, C_Board, dx, _, rfl, hb, K_Board.cls, K_Board.n_spots, _, rfl, ?_⟩
  walk_at "go"
  have el : ((List.map encS (spots w h rows)).length : Int) - 1 = rows.length + 3 := by
    unfold spots
    simp only [List.length_map, List.length_append, List.length_cons, List.length_nil]
    omega
  rw [el]
  refine ⟨d, _, _, rfl, kd, _, rfl, ?_⟩
  by_cases hd : wi d 0 (rows.length + 3) = true
  · rw [hd]
    walk_at "go"
    exact qy hd
  · have hf : wi d 0 (rows.length + 3) = false := by simpa using hd
    rw [hf]
    walk_at "go"
    refine s_raise1 (x := "NoPin") (xn_at E_NoPin.mg) ?_
    walk_at "go"
    exact fun dx hdx => qn hf dx hdx
open Tch
def P_side : PT3 := fun ds μ Φ => ∃ a b c : Pt, ds = [encG a, encG b, encG c] ∧ Inn a ∧ Inn b ∧ Inn c ∧ Φ (.int (sgn (ar a b c))) μ
theorem len_side (ds : List D) (μ : M) (Φ : D → M → Prop) (h : P_side ds μ Φ) : ds.length = 3 := by
  obtain ⟨_, _, _, rfl, _⟩ := h
  rfl
theorem use_side {μ : M} {Φ : D → M → Prop} {a b c : Pt} (i1 : Inn a) (i2 : Inn b) (i3 : Inn c) (q : Φ (.int (sgn (ar a b c))) μ) : P_side [encG a, encG b, encG c] μ Φ := ⟨a, b, c, rfl, i1, i2, i3, q⟩
def P_sign_of : PT3 := fun ds μ Φ => ∃ n, ds = [.int n] ∧ Φ (.int (sgn n)) μ
theorem len_sign_of (ds : List D) (μ : M) (Φ : D → M → Prop) (h : P_sign_of ds μ Φ) : ds.length = 1 := by
  obtain ⟨_, rfl, _⟩ := h
  rfl
theorem due_sgn (n : Int) : ((if decide (0 < n) = true then 1 else 0) - (if decide (n < 0) = true then 1 else 0) : Int) = sgn n := by
  unfold sgn
  by_cases h1 : 0 < n <;> by_cases h2 : n < 0 <;> simp [h1, h2] <;> omega
def P_apart : PT3 := fun ds μ Φ => ∃ a b : Pt, ds = [encG a, encG b] ∧ Inn a ∧ Inn b ∧ Φ (.int ((b.1 - a.1) ^ 2 + (b.2 - a.2) ^ 2)) μ
theorem len_apart (ds : List D) (μ : M) (Φ : D → M → Prop) (h : P_apart ds μ Φ) : ds.length = 2 := by
  obtain ⟨_, _, rfl, _⟩ := h
  rfl
def P_is_between : PT3 := fun ds μ Φ => ∃ a b c : Pt, ds = [encG a, encG b, encG c] ∧ Inn a ∧ Inn b ∧ Inn c ∧ Φ (.bl (btw a b c)) μ
theorem len_is_between (ds : List D) (μ : M) (Φ : D → M → Prop) (h : P_is_between ds μ Φ) : ds.length = 3 := by
  obtain ⟨_, _, _, rfl, _⟩ := h
  rfl
theorem min_if (i j : Int) : (if j < i then j else i) = min i j := by
  split <;> omega
theorem max_if (i j : Int) : (if j > i then j else i) = max i j := by
  split <;> omega
theorem ok_sign_of {f : Addr} {fd : FuncData} (F : Fun K "sign_of" "sign_of" s_sign_of f fd) (B : Bs mg) : FnOk P w K mg base CX0 1 f fd ["number"] (spI K P_sign_of) := by
  refine F.ok sc_sign_of (fun vs H Q E h => spI_len h len_sign_of) (fun cdv A outer s H vs Q E hr h => ?_)
  have hu65 := hu65_of hr
  refine ⟨_, (pss_one (ps_ret (pe_op op_sub (pe_callTy call_int1 (by rfl) B.b_int (by decide +kernel) (pa_cons (pe_cmpR op_gt (pv 0) pe_int (by first | exact nomark _ | rfl)) pa_nil)) (pe_callTy call_int1 (by rfl) B.b_int (by decide +kernel) (pa_cons (pe_cmpR op_lt (pv 0) pe_int (by first | exact nomark _ | rfl)) pa_nil))))), body_ok h (fun ds μ Φ p => ?_)⟩
  (try dsimp only [cxOf, Cx.nox, Cx.wish, List.map_cons, List.map_nil])
  obtain ⟨n, rfl, q⟩ := p
  show AS K _ [some _] _ _
  walk_at "go"
  exact cast_int (due_sgn n) q
theorem sgn_sz (n : Int) : Sz 2 (sgn n) := by
  unfold sgn Sz
  split
  · decide
  · split <;> decide
theorem ok_side {f : Addr} {fd : FuncData} (F : Fun K "side" "side" s_side f fd) (B : Bs mg) (G_sign_of : Def P w K mg base "sign_of" ["number"] 1 (spI K P_sign_of)) : FnOk P w K mg base CX0 2 f fd ["one", "other", "third"] (spI K P_side) := by
  refine F.ok sc_side (fun vs H Q E h => spI_len h len_side) (fun cdv A outer s H vs Q E hr h => ?_)
  have hu65 := hu65_of hr
  refine ⟨_, (pss_cons (ps_par (i := 3) (j := 4) rfl sc_side.nd rfl rfl (by decide) rfl rfl (pa_cons (pe_op op_sub (pe_ix (ix_seqK (K := K) rfl) (pv 1) pe_int (fun _ _ => rfl)) (pe_ix (ix_seqK (K := K) rfl) (pv 0) pe_int (fun _ _ => rfl))) (pa_cons (pe_op op_sub (pe_ix (ix_seqK (K := K) rfl) (pv 1) pe_int (fun _ _ => rfl)) (pe_ix (ix_seqK (K := K) rfl) (pv 0) pe_int (fun _ _ => rfl))) pa_nil)) (by rfl))
      (pss_one (ps_ret (pe_def G_sign_of (hr.mono (by decide)) (by rfl) (pa_cons (pe_op op_sub (pe_op op_mulW (pv 3) (pe_op op_sub (pe_ix (ix_seqK (K := K) rfl) (pv 2) pe_int (fun _ _ => rfl)) (pe_ix (ix_seqK (K := K) rfl) (pv 0) pe_int (fun _ _ => rfl)))) (pe_op op_mulW (pv 4) (pe_op op_sub (pe_ix (ix_seqK (K := K) rfl) (pv 2) pe_int (fun _ _ => rfl)) (pe_ix (ix_seqK (K := K) rfl) (pv 0) pe_int (fun _ _ => rfl))))) pa_nil))))), body_ok h (fun ds μ Φ p => ?_)⟩
  (try dsimp only [cxOf, Cx.nox, Cx.wish, List.map_cons, List.map_nil])
  obtain ⟨a, b, c, rfl, i1, i2, i3, q⟩ := p
  obtain ⟨za1, za2⟩ := inn_sz i1
  obtain ⟨zb1, zb2⟩ := inn_sz i2
  obtain ⟨zc1, zc2⟩ := inn_sz i3
  show AS K _ [some _, some _, some _, none, none] _ _
  walk_at "go"
  exact ⟨_, rfl, q⟩
theorem ok_apart {f : Addr} {fd : FuncData} (F : Fun K "apart" "apart" s_apart f fd) (B : Bs mg) : FnOk P w K mg base CX0 1 f fd ["one", "other"] (spI K P_apart) := by
  refine F.ok sc_apart (fun vs H Q E h => spI_len h len_apart) (fun cdv A outer s H vs Q E hr h => ?_)
  have hu65 := hu65_of hr
  refine ⟨_, (pss_one (ps_ret (pe_op op_add (pe_op op_pow (pe_op op_sub (pe_ix (ix_seqK (K := K) rfl) (pv 1) pe_int (fun _ _ => rfl)) (pe_ix (ix_seqK (K := K) rfl) (pv 0) pe_int (fun _ _ => rfl))) pe_int) (pe_op op_pow (pe_op op_sub (pe_ix (ix_seqK (K := K) rfl) (pv 1) pe_int (fun _ _ => rfl)) (pe_ix (ix_seqK (K := K) rfl) (pv 0) pe_int (fun _ _ => rfl))) pe_int)))), body_ok h (fun ds μ Φ p => ?_)⟩
  (try dsimp only [cxOf, Cx.nox, Cx.wish, List.map_cons, List.map_nil])
  obtain ⟨a, b, rfl, i1, i2, q⟩ := p
  obtain ⟨za1, za2⟩ := inn_sz i1
  obtain ⟨zb1, zb2⟩ := inn_sz i2
  show AS K _ [some _, some _] _ _
  walk_at "go"
  exact q
theorem ok_is_between {f : Addr} {fd : FuncData} (F : Fun K "is_between" "is_between" s_is_between f fd) (B : Bs mg) (G_side : Def P w K mg base "side" ["one", "other", "third"] 2 (spI K P_side)) : FnOk P w K mg base CX0 3 f fd ["one", "other", "third"] (spI K P_is_between) := by
  refine F.ok sc_is_between (fun vs H Q E h => spI_len h len_is_between) (fun cdv A outer s H vs Q E hr h => ?_)
  have hu65 := hu65_of hr
  refine ⟨_, (pss_cons (ps_if (pt_cmpR op_ne (pe_def G_side (hr.mono (by decide)) (by rfl) (pa_cons (pv 0) (pa_cons (pv 1) (pa_cons (pv 2) pa_nil)))) pe_int (by first | exact nomark _ | rfl)) (pss_one (ps_ret pe_bl)) pss_nil)
      (pss_cons (ps_set (i := 3) sc_is_between.nd rfl (by first | exact Or.inl rfl | exact Or.inr rfl) (pe_chain op_le op_le (pe_callB (call_min2 rfl) (by rfl) B.b_min (by decide +kernel) (pa_cons (pe_ix (ix_seqK (K := K) rfl) (pv 0) pe_int (fun _ _ => rfl)) (pa_cons (pe_ix (ix_seqK (K := K) rfl) (pv 1) pe_int (fun _ _ => rfl)) pa_nil))) (pe_ix (ix_seqK (K := K) rfl) (pv 2) pe_int (fun _ _ => rfl)) (pe_callB (call_max2 rfl) (by rfl) B.b_max (by decide +kernel) (pa_cons (pe_ix (ix_seqK (K := K) rfl) (pv 0) pe_int (fun _ _ => rfl)) (pa_cons (pe_ix (ix_seqK (K := K) rfl) (pv 1) pe_int (fun _ _ => rfl)) pa_nil)))))
      (pss_one (ps_ret (pe_and (pv 3) (pe_one (pe_chain op_le op_le (pe_callB (call_min2 rfl) (by rfl) B.b_min (by decide +kernel) (pa_cons (pe_ix (ix_seqK (K := K) rfl) (pv 0) pe_int (fun _ _ => rfl)) (pa_cons (pe_ix (ix_seqK (K := K) rfl) (pv 1) pe_int (fun _ _ => rfl)) pa_nil))) (pe_ix (ix_seqK (K := K) rfl) (pv 2) pe_int (fun _ _ => rfl)) (pe_callB (call_max2 rfl) (by rfl) B.b_max (by decide +kernel) (pa_cons (pe_ix (ix_seqK (K := K) rfl) (pv 0) pe_int (fun _ _ => rfl)) (pa_cons (pe_ix (ix_seqK (K := K) rfl) (pv 1) pe_int (fun _ _ => rfl)) pa_nil)))))))))), body_ok h (fun ds μ Φ p => ?_)⟩
  (try dsimp only [cxOf, Cx.nox, Cx.wish, List.map_cons, List.map_nil])
  obtain ⟨a, b, c, rfl, i1, i2, i3, q⟩ := p
  show AS K _ [some _, some _, some _, none] _ _
  walk_at "go"
  refine use_side i1 i2 i3 ?_
  walk_at "go"
  have fin : ∀ v, btw a b c = v → Φ (.bl v) μ := fun v e => e ▸ q
  have ez := sgn_zero (ar a b c)
  refine ite_nd (fun h => ?_) (fun h => ?_)
  · walk_at "go"
    have h2 : ¬ ar a b c = 0 := by simpa [h] using ez
    exact fin _ (by unfold btw; rw [decide_eq_false h2]; rfl)
  · have h2 : ar a b c = 0 := by simpa [h] using ez
    have e0 : btw a b c = ((decide (min a.1 b.1 ≤ c.1) && decide (c.1 ≤ max a.1 b.1)) && (decide (min a.2 b.2 ≤ c.2) && decide (c.2 ≤ max a.2 b.2))) := by unfold btw; rw [decide_eq_true h2, Bool.true_and]
    rw [e0] at fin
    walk_at "go"
    rw [min_if]
    refine ite_d (fun k1 => ?_) (fun k1 => ?_)
    rotate_left
    · walk_at "go"
      exact fin _ (by rw [decide_eq_false k1]; rfl)
    rw [decide_eq_true k1, Bool.true_and] at fin
    walk_at "go"
    rw [max_if]
    refine ite_d (fun k2 => ?_) (fun k2 => ?_)
    rotate_left
    · exact fin _ (by rw [decide_eq_false k2]; rfl)
    rw [decide_eq_true k2, Bool.true_and] at fin
    walk_at "go"
    rw [min_if]
    refine ite_d (fun k3 => ?_) (fun k3 => ?_)
    rotate_left
    · walk_at "go"
      exact fin _ (by rw [decide_eq_false k3]; rfl)
    rw [decide_eq_true k3, Bool.true_and] at fin
    walk_at "go"
    rw [max_if]
    exact fin _ rfl
/-- what a board that a law has drawn keeps to -/
structure BOk (w h : Int) (rows : List R4) (l : Int) : Prop where
  len : rows.length ≤ 16
  inn : ∀ p ∈ spots w h rows, Inn p
  l0 : 1 ≤ l
  l1 : l ≤ 3
theorem BOk.at {w h l : Int} {rows : List R4} (k : BOk w h rows l) (i : Int) : Inn (spAt (spots w h rows) i) := spAt_inn k.inn i
theorem spot_get {w h : Int} {rows : List R4} {i : Int} (h0 : 0 ≤ i) (h1 : i < rows.length + 4) : atI ((spots w h rows).map encS) i = some (encG (spAt (spots w h rows) i)) :=
  atI_map h0 (spAt_at h0 (by rw [spots_len]; omega))
theorem Brd.sub {C : Addr} {μ μ' : M} {bd w h l s : _} {rows : List R4} {sp kg kt : Addr} (BR : Brd C μ bd w h rows l s sp kg kt) (sb : Sub μ μ') : Brd C μ' bd w h rows l s sp kg kt := by
  obtain ⟨dx, gl, tl, lvs, h1, h2, h3, h4⟩ := BR
  exact ⟨dx, gl, tl, lvs, sb _ _ h1, sb _ _ h2, sb _ _ h3, sb _ _ h4⟩
/-- a layer asked for -/
def P_board_look_layer (C : Addr) : PT4 := fun ds μ Φ Ξ => ∃ b d w h rows l s sp kg kt, ds = [.ref b, d] ∧ Brd C μ b w h rows l s sp kg kt ∧ Kd μ d ∧ (wi d 0 (l - 1) = true → Φ .non μ) ∧
  (wi d 0 (l - 1) = false → ∀ dx, μ dx = none → Ξ "NoLayer" (some dx) (μ.set dx (.xd [("layer", d)])))
theorem len_board_look_layer (C : Addr) (ds : List D) (μ : M) (Φ : D → M → Prop) (Ξ : XW) (h : P_board_look_layer C ds μ Φ Ξ) : ds.length = 2 := by
  obtain ⟨_, _, _, _, _, _, _, _, _, _, rfl, _⟩ := h
  rfl
theorem ok_board_look_layer {f : Addr} {fd : FuncData} (F : Fun K "look_layer" "Board.look_layer" s_board_look_layer f fd) (B : Bs mg) {C_Board : Addr} (K_Board : Cl_Board K C_Board) {C_NoLayer : Addr} (E_NoLayer : Exc1 P w K mg base "NoLayer" "layer" C_NoLayer) (G_is_within : Def P w K mg base "is_within" ["thing", "least", "most"] 2 (spI K P_is_within)) : FnOk P w K mg base (L2.CX P w) 4 f fd ["self", "number"] (spX K (xn mg) (P_board_look_layer C_Board)) := by
  refine F.okX sc_board_look_layer (fun vs H Q E h => spX_len h (len_board_look_layer C_Board)) (fun cdv A outer s H vs Q E hr h => ?_)
  have hu65 := hu65_of hr
  refine ⟨_, (pss_one (ps_if (pt_not (pt_val (pe_def G_is_within (hr.mono (by decide)) (by rfl) (pa_cons (pv 1) (pa_cons pe_int (pa_cons (pe_op op_sub (pe_fldK (K := K) rfl (pv 0) rfl) pe_int) pa_nil)))))) (pss_one (ps_raise rfl (takes_of rfl rfl rfl rfl) (pmk_e1 E_NoLayer (hr.mono (by decide)) (by rfl) (pa_cons (pv 1) pa_nil)))) pss_nil)), body_okX h (fun ds μ Φ Ξ p => ?_)⟩
  (try dsimp only [cxOf, Cx.nox, Cx.wish, List.map_cons, List.map_nil])
  obtain ⟨b, d, w, h, rows, l, s, sp, kg, kt, rfl, ⟨dx, gl, tl, lvs, hb, hsp, hkg, hkt⟩, kd, qy, qn⟩ := p
  show AS K _ [some _, some _] _ _
  walk_at "go"
  refine a_fld ?_
  walk_at "go"
  refine ⟨b, C_Board, dx, _, rfl, hb, K_Board.cls, K_Board.n_layer_count, _, rfl, ?_⟩
  walk_at "go"
  refine ⟨d, _, _, rfl, kd, _, rfl, ?_⟩
  by_cases hd : wi d 0 (l - 1) = true
  · rw [hd]
    walk_at "go"
    exact qy hd
  · have hf : wi d 0 (l - 1) = false := by simpa using hd
    rw [hf]
    walk_at "go"
    refine s_raise1 (x := "NoLayer") (xn_at E_NoLayer.mg) ?_
    walk_at "go"
    exact fun dx hdx => qn hf dx hdx
theorem wi_lv {lv l : Int} (h0 : 0 ≤ lv) (h1 : lv < l) : wi (.int lv) 0 (l - 1) = true := by
  simp only [wi, Bool.and_eq_true, decide_eq_true_eq]
  omega
def P_board_pins_on (C : Addr) : PT4 := fun ds μ Φ Ξ => ∃ b d w h rows l s sp kg kt, ds = [.ref b, d] ∧ Brd C μ b w h rows l s sp kg kt ∧ BOk w h rows l ∧ Kd μ d ∧
  (∀ lv, d = .int lv → 0 ≤ lv → lv < l → Φ (.tup ((pinsOf rows lv).map D.int)) μ) ∧ (wi d 0 (l - 1) = false → ∀ dx, μ dx = none → Ξ "NoLayer" (some dx) (μ.set dx (.xd [("layer", d)])))
theorem len_board_pins_on (C : Addr) (ds : List D) (μ : M) (Φ : D → M → Prop) (Ξ : XW) (h : P_board_pins_on C ds μ Φ Ξ) : ds.length = 2 := by
  obtain ⟨_, _, _, _, _, _, _, _, _, _, rfl, _⟩ := h
  rfl
def atD (k : Nat) : D → D
  | .tup ds => ds.getD k .non
  | _ => .non
def onD (lv : Int) : D → Bool
  | .tup [_, .tup [_, _, .int f, .int g]] => decide (f ≤ lv) && decide (lv ≤ g)
  | _ => false
theorem ok_board_pins_on {f : Addr} {fd : FuncData} (F : Fun K "pins_on" "Board.pins_on" s_board_pins_on f fd) (B : Bs mg) {C_Board : Addr} (K_Board : Cl_Board K C_Board) (V_CORNERS : Cst mg "CORNERS" (.int 4)) (G_board_look_layer : Mth P w K mg base C_Board "look_layer" ["self", "number"] 4 (spX K (xn mg) (P_board_look_layer C_Board))) : FnOk P w K mg base (L2.CX P w) 5 f fd ["self", "layer"] (spX K (xn mg) (P_board_pins_on C_Board)) := by
  refine F.okX sc_board_pins_on (fun vs H Q E h => spX_len h (len_board_pins_on C_Board)) (fun cdv A outer s H vs Q E hr h => ?_)
  have hu65 := hu65_of hr
  refine ⟨_, (pss_cons (ps_expr (pe_mthX (takes_of rfl rfl rfl rfl) G_board_look_layer (hr.mono (by decide)) (pv 0) (pa_cons (pv 1) pa_nil)))
      (pss_cons (ps_setLc (i := 2) (own := [("number", 3), ("row", 4)]) (g := gTup K 2 (gCons (gName 3) (gCons (gName 4) gNil)))  rfl sc_board_pins_on.nd rfl rfl (sw_true rfl rfl rfl (by decide +kernel)) (EK.pi_enumT (K := K) rfl (by rfl) B.b_enumerate (pe_fldK (K := K) rfl (pv 0) rfl) (pe_cst V_CORNERS (by rfl))) (blkOk_by (own := [("number", 3), ("row", 4)]) (N := N_board_pins_on) (sc := defScope s_board_pins_on) (by decide +kernel)) (fun _ _ _ _ _ => (pg_tup (by rfl) (pgs_cons (pg_name (i := 3) sc_board_pins_on.nd rfl (by first | exact Or.inl rfl | exact Or.inr rfl)) (pgs_cons (pg_name (i := 4) sc_board_pins_on.nd rfl (by first | exact Or.inl rfl | exact Or.inr rfl)) pgs_nil)))) (fun _ _ _ _ _ => (pts_one (pt_chain op_le op_le (pe_ix (ix_seqK (K := K) rfl) (pv 4) pe_int (fun _ _ => rfl)) (pv 1) (pe_ix (ix_seqK (K := K) rfl) (pv 4) pe_int (fun _ _ => rfl))))) (fun _ _ _ _ _ => (pv 3)))
      (pss_one (ps_ret (pe_callTy (call_tupleK (K := K) rfl) (by rfl) B.b_tuple (by decide +kernel) (pa_cons (pe_op op_cat (pe_listRg rfl (by rfl) B.b_list (prg_1 (by rfl) B.b_range (pe_cst V_CORNERS (by rfl)))) (pv 2)) pa_nil)))))), body_okXU h (fun ds μ Φ Ξ p => ?_)⟩
  (try dsimp only [cxOf, Cx.nox, Cx.wish, List.map_cons, List.map_nil])
  obtain ⟨b, d, w, h, rows, l, s, sp, kg, kt, rfl, BR, OK, kd, qy, qn⟩ := p
  obtain ⟨dx, gl, tl, lvs, hb, hsp, hkg, hkt⟩ := id BR
  show AS K _ [some _, some _, none, none, none] _ _
  walk_at "go"
  refine ⟨b, dx, _, rfl, hb, rfl, ?_⟩
  walk_at "go"
  refine ⟨b, d, w, h, rows, l, s, sp, kg, kt, rfl, BR, kd, fun h1 => ?_, fun h1 dx2 hdx2 => ⟨_, Sub.refl, qn h1 dx2 hdx2⟩⟩
  obtain ⟨lv, rfl, l0, l1⟩ := wi_int h1
  walk_at "go"
  refine a_lcp tg_2 (atD 0) (onD lv) (ai_E ?_)
  refine a_fld ?_
  walk_at "go"
  refine ⟨b, C_Board, dx, _, rfl, hb, K_Board.cls, K_Board.n_pin_rows, _, rfl, ?_⟩
  walk_at "go"
  refine ⟨_, _, rfl, rfl, by decide, ?_, ?_, ?_⟩
  · rw [enumD_len, List.length_map]
    have := OK.len
    have := sizeLine_eq
    omega
  · rintro x hx
    obtain ⟨i, hi⟩ := List.mem_iff_getElem?.mp hx
    have hlt := (List.getElem?_eq_some_iff.mp hi).1
    rw [enumD_len, List.length_map] at hlt
    rw [enumD_get (x := encR rows[i]) (by rw [List.getElem?_map, List.getElem?_eq_getElem hlt]; rfl)] at hi
    cases hi
    refine ⟨_, ⟨rfl, rfl⟩, rfl, ?_, fun _ => ?_⟩
    · walk_at "nf"
      walk_at "go"
      refine ite_d (fun k1 => ?_) (fun k1 => ?_)
      · walk_at "go"
        refine ⟨?_, rfl⟩
        simp only [onD, k1, decide_true, Bool.true_and]
      · refine ⟨_, rfl, ?_, rfl⟩
        simp only [onD, k1, decide_false, Bool.false_and]
    · walk_at "nf"
      walk_at "go"
      exact ⟨rfl, rfl⟩
  · intro l2 hl2
    rw [from_enum (onD lv) (atD 0) (fun _ _ => rfl) fun _ _ => rfl]
    walk_at "go"
    refine a_listRg1 ?_
    walk_at "go"
    refine ⟨by decide, by decide, fun l3 hl3 => ?_⟩
    have ne3 := none_ne hl3
    walk_at "go"
    refine ro_cat (by walk_at "mu") (by walk_at "mu") ?_ fun l4 hl4 => ?_
    · have h1 := from_len (lv := lv) rows 4
      have h2 := OK.len
      have h3 : (rgD 0 4).length = 4 := rfl
      have := sizeLine_eq
      rw [h3, List.length_map]
      omega
    have eq : rgD 0 4 ++ (pinsFrom lv 4 rows).map D.int = (pinsOf rows lv).map D.int := rfl
    rw [eq]
    walk_at "go"
    refine rc_tuple (seq_ref set_same) ?_
    refine up_of ?_ (qy lv rfl l0 (by omega))
    intro a m ea
    have n2 : μ l2 = none := hl2
    have n3 : μ l3 = none := none_back hl3
    have n4 : μ l4 = none := none_back (none_back hl4)
    have d2 : a ≠ l2 := fun z => by rw [z, n2] at ea; cases ea
    have d3 : a ≠ l3 := fun z => by rw [z, n3] at ea; cases ea
    have d4 : a ≠ l4 := fun z => by rw [z, n4] at ea; cases ea
    rw [set_ne d4, set_ne d3]
    show (μ.set l2 _) a = some m
    rw [set_ne d2]
    exact ea
def Pins (rows : List R4) (pins : List Int) : Prop := pins.length ≤ 20 ∧ ∀ p ∈ pins, 0 ≤ p ∧ p < rows.length + 4
theorem pins_ok {w h l : Int} {rows : List R4} (k : BOk w h rows l) (lv : Int) : Pins rows (pinsOf rows lv) := ⟨by have := pins_len rows lv; have := k.len; omega, fun p hp => pins_in hp⟩
def P_board_meets_a_pin (C : Addr) : PT3 := fun ds μ Φ => ∃ b w h rows l s sp kg kt p q pins, ds = [.ref b, .int p, .int q, .tup (pins.map D.int)] ∧ Brd C μ b w h rows l s sp kg kt ∧ BOk w h rows l ∧ (0 ≤ p ∧ p < rows.length + 4) ∧ (0 ≤ q ∧ q < rows.length + 4) ∧ Pins rows pins ∧ Φ (.bl (hits (spots w h rows) pins (p, q))) μ
theorem len_board_meets_a_pin (C : Addr) (ds : List D) (μ : M) (Φ : D → M → Prop) (h : P_board_meets_a_pin C ds μ Φ) : ds.length = 4 := by
  obtain ⟨_, _, _, _, _, _, _, _, _, _, _, _, rfl, _⟩ := h
  rfl
/-- self.spots[n] -/
theorem rd_spot {C : Addr} (KB : Cl_Board K C) {τ : T} {μ : M} {Φ : D → M → Prop} {te ti : TE} {w h l s : Int} {rows : List R4} {b sp kg kt : Addr} (BR : Brd C μ b w h rows l s sp kg kt) (he : AE K te τ μ fun d μ1 => d = .ref b ∧ μ1 = μ)
    (hi : AE K ti τ μ fun d μ1 => μ1 = μ ∧ ∃ n, d = .int n ∧ (0 ≤ n ∧ n < rows.length + 4) ∧ Φ (encG (spAt (spots w h rows) n)) μ) : AE K (tFld K te "spots") τ μ fun d μ1 => AE K ti τ μ1 fun e μ2 => RO K (rIx K) d e μ2 Φ := by
  obtain ⟨dx, gl, tl, lvs, hb, hsp, hkg, hkt⟩ := BR
  refine a_fld (he.imp fun d μ1 ⟨e1, e2⟩ => ?_)
  subst e1 e2
  refine ⟨b, C, dx, _, rfl, hb, KB.cls, KB.n_spots, _, rfl, hi.imp fun d μ2 ⟨e2, n, e1, hn, q⟩ => ?_⟩
  subst e1 e2
  exact ro_ix (seq_ref hsp) (spot_get hn.1 hn.2) q
def ofI : D → Int
  | .int i => i
  | _ => 0
theorem filter_int (p : Int → Bool) (l : List Int) : (l.map D.int).filter (fun d => p (ofI d)) = (l.filter p).map D.int := by
  rw [List.filter_map]
  rfl
theorem ok_board_meets_a_pin {f : Addr} {fd : FuncData} (F : Fun K "meets_a_pin" "Board.meets_a_pin" s_board_meets_a_pin f fd) (B : Bs mg) {C_Board : Addr} (K_Board : Cl_Board K C_Board) (G_is_between : Def P w K mg base "is_between" ["one", "other", "third"] 3 (spI K P_is_between)) : FnOk P w K mg base CX0 4 f fd ["self", "one", "other", "pins"] (spI K (P_board_meets_a_pin C_Board)) := by
  refine F.ok sc_board_meets_a_pin (fun vs H Q E h => spI_len h (len_board_meets_a_pin C_Board)) (fun cdv A outer s H vs Q E hr h => ?_)
  have hu65 := hu65_of hr
  refine ⟨_, (pss_cons (ps_asg (pe_tup (pa_cons (pe_ix (ix_seqK (K := K) rfl) (pe_fldK (K := K) rfl (pv 0) rfl) (pv 1) (fun _ _ => rfl)) (pa_cons (pe_ix (ix_seqK (K := K) rfl) (pe_fldK (K := K) rfl (pv 0) rfl) (pv 2) (fun _ _ => rfl)) pa_nil))) (pg_tup (by rfl) (pgs_cons (pg_name (i := 4) sc_board_meets_a_pin.nd rfl (by first | exact Or.inl rfl | exact Or.inr rfl)) (pgs_cons (pg_name (i := 5) sc_board_meets_a_pin.nd rfl (by first | exact Or.inl rfl | exact Or.inr rfl)) pgs_nil))))
      (pss_one (ps_ret (pe_callB (cr_anyK (K := K) rfl rfl) (by rfl) B.b_any (by decide +kernel) (pa_cons (pe_lc (own := [("pin", 6)]) (g := gName 6)  rfl sc_board_meets_a_pin.nd (pi_tupK (K := K) rfl (pv 3)) (blkOk_by (own := [("pin", 6)]) (N := N_board_meets_a_pin) (sc := defScope s_board_meets_a_pin) (by decide +kernel)) (fun _ _ _ _ _ => (pg_name (i := 6) sc_board_meets_a_pin.nd rfl (by first | exact Or.inl rfl | exact Or.inr rfl))) (fun _ _ _ _ _ => (pts_one (pt_cmpR (op_notInSK (K := K) rfl hu65) (pv 6) (pe_tup (pa_cons (pv 1) (pa_cons (pv 2) pa_nil))) (by first | exact nomark _ | rfl)))) (fun _ _ _ _ _ => (pe_def G_is_between (hr.mono (by decide)) (by rfl) (pa_cons (pv 4) (pa_cons (pv 5) (pa_cons (pe_ix (ix_seqK (K := K) rfl) (pe_fldK (K := K) rfl (pv 0) rfl) (pv 6) (fun _ _ => rfl)) pa_nil)))))) pa_nil))))), body_okU h (fun ds μ Φ p => ?_)⟩
  (try dsimp only [cxOf, Cx.nox, Cx.wish, List.map_cons, List.map_nil])
  obtain ⟨b, w, h, rows, l, s, sp, kg, kt, p, q, pins, rfl, BR, OK, hp, hq, hpins, qy⟩ := p
  show AS K _ [some _, some _, some _, some _, none, none, none] _ _
  walk_at "go"
  refine rd_spot K_Board BR ?_ ?_
  · walk_at "go"
    exact ⟨rfl, rfl⟩
  walk_at "go"
  refine ⟨rfl, p, rfl, hp, ?_⟩
  walk_at "go"
  refine rd_spot K_Board BR ?_ ?_
  · walk_at "go"
    exact ⟨rfl, rfl⟩
  walk_at "go"
  refine ⟨rfl, q, rfl, hq, ?_⟩
  walk_at "go"
  refine a_lc1 (fun d => .bl (btw (spAt (spots w h rows) p) (spAt (spots w h rows) q) (spAt (spots w h rows) (ofI d)))) (fun d => !(decide (ofI d = p) || decide (ofI d = q))) (ai_T ?_)
  walk_at "go"
  refine ⟨?_, fun x hx => ?_, fun x hx _ => ?_, fun l2 hl2 => ?_⟩
  · have := hpins.1
    have := sizeLine_eq
    rw [List.length_map]
    omega
  · obtain ⟨r, hr, rfl⟩ := List.mem_map.mp hx
    walk_at "nf"
    walk_at "go"
    rw [inD_ii]
    exact ⟨rfl, trivial⟩
  · obtain ⟨r, hr, rfl⟩ := List.mem_map.mp hx
    walk_at "nf"
    walk_at "go"
    refine rd_spot K_Board BR ?_ ?_
    · walk_at "go"
      exact ⟨rfl, rfl⟩
    walk_at "go"
    refine ⟨rfl, r, rfl, hpins.2 r hr, ?_⟩
    walk_at "go"
    exact ⟨_, _, _, rfl, OK.at p, OK.at q, OK.at r, rfl, rfl⟩
  · have e1 : ((pins.map D.int).filter fun d => !(decide (ofI d = p) || decide (ofI d = q))).map (fun d => D.bl (btw (spAt (spots w h rows) p) (spAt (spots w h rows) q) (spAt (spots w h rows) (ofI d)))) = (((pins.filter fun r => !(decide (r = p) || decide (r = q))).map fun r => btw (spAt (spots w h rows) p) (spAt (spots w h rows) q) (spAt (spots w h rows) r))).map D.bl := by
      rw [filter_int fun r => !(decide (r = p) || decide (r = q)), List.map_map, List.map_map]
      rfl
    rw [e1]
    walk_at "go"
    refine rc_any set_same ?_
    have e2 : ((((pins.filter fun r => !(decide (r = p) || decide (r = q))).map fun r => btw (spAt (spots w h rows) p) (spAt (spots w h rows) q) (spAt (spots w h rows) r))).any id) = hits (spots w h rows) pins (p, q) := by
      rw [List.any_map, List.any_filter]
      rfl
    rw [e2]
    exact up_of (sub_new Sub.refl hl2) qy
def P_board_crosses_gate (C : Addr) : PT3 := fun ds μ Φ => ∃ b w h rows l s sp kg kt p q g, ds = [.ref b, .int p, .int q, encG g] ∧ Brd C μ b w h rows l s sp kg kt ∧ BOk w h rows l ∧ (0 ≤ p ∧ p < rows.length + 4) ∧ (0 ≤ q ∧ q < rows.length + 4) ∧ (0 ≤ g.1 ∧ g.1 < rows.length + 4) ∧ (0 ≤ g.2 ∧ g.2 < rows.length + 4) ∧ Φ (.bl (crsG (spots w h rows) (p, q) g)) μ
theorem len_board_crosses_gate (C : Addr) (ds : List D) (μ : M) (Φ : D → M → Prop) (h : P_board_crosses_gate C ds μ Φ) : ds.length = 4 := by
  obtain ⟨_, _, _, _, _, _, _, _, _, _, _, _, rfl, _⟩ := h
  rfl
theorem ok_board_crosses_gate {f : Addr} {fd : FuncData} (F : Fun K "crosses_gate" "Board.crosses_gate" s_board_crosses_gate f fd) (B : Bs mg) {C_Board : Addr} (K_Board : Cl_Board K C_Board) (G_side : Def P w K mg base "side" ["one", "other", "third"] 2 (spI K P_side)) : FnOk P w K mg base CX0 3 f fd ["self", "one", "other", "gate"] (spI K (P_board_crosses_gate C_Board)) := by
  refine F.ok sc_board_crosses_gate (fun vs H Q E h => spI_len h (len_board_crosses_gate C_Board)) (fun cdv A outer s H vs Q E hr h => ?_)
  have hu65 := hu65_of hr
  refine ⟨_, (pss_cons (ps_par (i := 4) (j := 5) rfl sc_board_crosses_gate.nd rfl rfl (by decide) rfl rfl (pa_cons (pe_ix (ix_seqK (K := K) rfl) (pe_fldK (K := K) rfl (pv 0) rfl) (pv 1) (fun _ _ => rfl)) (pa_cons (pe_ix (ix_seqK (K := K) rfl) (pe_fldK (K := K) rfl (pv 0) rfl) (pv 2) (fun _ _ => rfl)) pa_nil)) (by rfl))
      (pss_cons (ps_par (i := 6) (j := 7) rfl sc_board_crosses_gate.nd rfl rfl (by decide) rfl rfl (pa_cons (pe_ix (ix_seqK (K := K) rfl) (pe_fldK (K := K) rfl (pv 0) rfl) (pe_ix (ix_seqK (K := K) rfl) (pv 3) pe_int (fun _ _ => rfl)) (fun _ _ => rfl)) (pa_cons (pe_ix (ix_seqK (K := K) rfl) (pe_fldK (K := K) rfl (pv 0) rfl) (pe_ix (ix_seqK (K := K) rfl) (pv 3) pe_int (fun _ _ => rfl)) (fun _ _ => rfl)) pa_nil)) (by rfl))
      (pss_one (ps_ret (pe_and (pe_cmpR op_lt (pe_op op_mulW (pe_def G_side (hr.mono (by decide)) (by rfl) (pa_cons (pv 4) (pa_cons (pv 5) (pa_cons (pv 6) pa_nil)))) (pe_def G_side (hr.mono (by decide)) (by rfl) (pa_cons (pv 4) (pa_cons (pv 5) (pa_cons (pv 7) pa_nil))))) pe_int (by first | exact nomark _ | rfl)) (pe_one (pe_cmpR op_lt (pe_op op_mulW (pe_def G_side (hr.mono (by decide)) (by rfl) (pa_cons (pv 6) (pa_cons (pv 7) (pa_cons (pv 4) pa_nil)))) (pe_def G_side (hr.mono (by decide)) (by rfl) (pa_cons (pv 6) (pa_cons (pv 7) (pa_cons (pv 5) pa_nil))))) pe_int (by first | exact nomark _ | rfl)))))))), body_ok h (fun ds μ Φ p => ?_)⟩
  (try dsimp only [cxOf, Cx.nox, Cx.wish, List.map_cons, List.map_nil])
  obtain ⟨b, w, h, rows, l, s, sp, kg, kt, p, q, g, rfl, BR, OK, hp, hq, h1, h2, qy⟩ := p
  show AS K _ [some _, some _, some _, some _, none, none, none, none] _ _
  walk_at "go"
  refine rd_spot K_Board BR ?_ ?_
  · walk_at "go"
    exact ⟨rfl, rfl⟩
  walk_at "go"
  refine ⟨rfl, p, rfl, hp, ?_⟩
  walk_at "go"
  refine rd_spot K_Board BR ?_ ?_
  · walk_at "go"
    exact ⟨rfl, rfl⟩
  walk_at "go"
  refine ⟨rfl, q, rfl, hq, ?_⟩
  walk_at "go"
  refine rd_spot K_Board BR ?_ ?_
  · walk_at "go"
    exact ⟨rfl, rfl⟩
  walk_at "go"
  refine ⟨rfl, g.1, rfl, h1, ?_⟩
  walk_at "go"
  refine rd_spot K_Board BR ?_ ?_
  · walk_at "go"
    exact ⟨rfl, rfl⟩
  walk_at "go"
  refine ⟨rfl, g.2, rfl, h2, ?_⟩
  walk_at "go"
  have s1 := sgn_sz (ar (spAt (spots w h rows) p) (spAt (spots w h rows) q) (spAt (spots w h rows) g.1))
  have s2 := sgn_sz (ar (spAt (spots w h rows) p) (spAt (spots w h rows) q) (spAt (spots w h rows) g.2))
  have s3 := sgn_sz (ar (spAt (spots w h rows) g.1) (spAt (spots w h rows) g.2) (spAt (spots w h rows) p))
  have s4 := sgn_sz (ar (spAt (spots w h rows) g.1) (spAt (spots w h rows) g.2) (spAt (spots w h rows) q))
  refine use_side (OK.at _) (OK.at _) (OK.at _) ?_
  walk_at "go"
  refine use_side (OK.at _) (OK.at _) (OK.at _) ?_
  walk_at "go"
  have fin : ∀ v, crsG (spots w h rows) (p, q) g = v → Φ (.bl v) μ := fun v e => e ▸ qy
  refine ite_d (fun k1 => ?_) (fun k1 => ?_)
  rotate_left
  · exact fin _ (by unfold crsG crs; rw [decide_eq_false k1]; rfl)
  walk_at "go"
  refine use_side (OK.at _) (OK.at _) (OK.at _) ?_
  walk_at "go"
  refine use_side (OK.at _) (OK.at _) (OK.at _) ?_
  walk_at "go"
  exact fin _ (by unfold crsG crs; rw [decide_eq_true k1, Bool.true_and])
def P_board_found_gates (C T : Addr) : PT3 := fun ds μ Φ => ∃ b w h rows l s sp kg kt pins, ds = [.ref b, .tup (pins.map D.int)] ∧ Brd C μ b w h rows l s sp kg kt ∧ BOk w h rows l ∧ Pins rows pins ∧ pins.Nodup ∧ μ T = some (.tab Q_g) ∧ Φ (.tup ((gatesOf (spots w h rows) pins).map encG)) μ
theorem len_board_found_gates (C T : Addr) (ds : List D) (μ : M) (Φ : D → M → Prop) (h : P_board_found_gates C T ds μ Φ) : ds.length = 2 := by
  obtain ⟨_, _, _, _, _, _, _, _, _, _, rfl, _⟩ := h
  rfl
def ofG : D → Pt
  | .tup [.int p, .int q] => (p, q)
  | _ => (0, 0)
theorem ok_board_found_gates {f : Addr} {fd : FuncData} {cT : Addr} (F : LK.FunT K "found_gates" "Board.found_gates" s_board_found_gates cT f fd) (B : Bs mg) {T_g : Addr} (TB : LamX.TabB base mg cT T_g) {C_Board : Addr} (K_Board : Cl_Board K C_Board) (G_board_crosses_gate : Mth P w K mg base C_Board "crosses_gate" ["self", "one", "other", "gate"] 3 (spI K (P_board_crosses_gate C_Board))) (G_board_meets_a_pin : Mth P w K mg base C_Board "meets_a_pin" ["self", "one", "other", "pins"] 4 (spI K (P_board_meets_a_pin C_Board))) (G_apart : Def P w K mg base "apart" ["one", "other"] 1 (spI K P_apart)) : FnOk P w K mg base CX0 6 f fd ["self", "pins"] (spI K (P_board_found_gates C_Board T_g)) := by
  refine F.ok0 sc_board_found_gates (fun vs H Q E h => spI_len h (len_board_found_gates C_Board T_g)) (fun A outer s H vs Q E hr h => ?_)
  have hu65 := hu65_of hr
  refine ⟨_, (pss_cons (ps_setLc2 (i := 2) (own := [("p", 4), ("q", 5)]) (vs1 := [5]) (g := gName 4) (tt := tYes) (g1 := gName 5)  rfl sc_board_found_gates.nd rfl rfl (sw_true rfl rfl rfl (by decide +kernel)) (pi_tupK (K := K) rfl (pv 1)) (blkOk_by (own := [("p", 4), ("q", 5)]) (N := N_board_found_gates) (sc := defScope s_board_found_gates) (by decide +kernel)) (by decide) (fun _ _ _ _ _ => (pg_name (i := 4) sc_board_found_gates.nd rfl (by first | exact Or.inl rfl | exact Or.inr rfl))) (fun _ _ _ _ _ => pts_nil) (fun _ _ _ _ _ => (pi_tupK (K := K) rfl (pv 1))) (fun _ _ _ _ _ => (pg_name (i := 5) sc_board_found_gates.nd rfl (by first | exact Or.inl rfl | exact Or.inr rfl))) (fun _ _ _ _ _ => (pts_one (pt_cmpR op_lt (pv 4) (pv 5) (by first | exact nomark _ | rfl)))) (fun _ _ _ _ _ => (pe_tup (pa_cons (pv 4) (pa_cons (pv 5) pa_nil)))))
      (pss_cons (ps_set (i := 3) sc_board_found_gates.nd rfl (by first | exact Or.inl rfl | exact Or.inr rfl) (pe_lst pa_nil))
      (pss_cons (ps_for PassesOwn.never rfl (pi_listK (K := K) rfl (LK.pe_sortL (K := K) (N := ["pair", "self"]) (ps := ["pair"]) (fr := ["self"]) (js := [0]) (k := 2) rfl (by rfl) B.b_sorted TB rfl (hr.mono (by decide)) (NdefX.nscope_by (by decide +kernel)) rfl (by change NdefX.ndefB (defScope s_board_found_gates) _ _ = true; decide +kernel) rfl rfl (fun _ _ _ _ _ us hl => match us, hl with | [_], _ => rfl) (pv 2) (fun f c s H hr => (pe_tup (pa_cons (pe_def G_apart (hr.mono (by decide)) (by rfl) (pa_cons (pe_ix (ix_seqK (K := K) rfl) (pe_fldK (K := K) rfl (pv 1) rfl) (pe_ix (ix_seqK (K := K) rfl) (pv 0) pe_int (fun _ _ => rfl)) (fun _ _ => rfl)) (pa_cons (pe_ix (ix_seqK (K := K) rfl) (pe_fldK (K := K) rfl (pv 1) rfl) (pe_ix (ix_seqK (K := K) rfl) (pv 0) pe_int (fun _ _ => rfl)) (fun _ _ => rfl)) pa_nil))) (pa_cons (pv 0) pa_nil)))))) (pg_tup (by rfl) (pgs_cons (pg_name (i := 4) sc_board_found_gates.nd rfl (by first | exact Or.inl rfl | exact Or.inr rfl)) (pgs_cons (pg_name (i := 5) sc_board_found_gates.nd rfl (by first | exact Or.inl rfl | exact Or.inr rfl)) pgs_nil)))
      (pss_one (ps_if (PW.pt (pw_and (pt_not (pt_val (pe_mthN G_board_meets_a_pin (hr.mono (by decide)) (pv 0) (pa_cons (pv 4) (pa_cons (pv 5) (pa_cons (pv 1) pa_nil)))))) (pw_and1 (pt_not (pt_val (pe_callB (cr_anyK (K := K) rfl rfl) (by rfl) B.b_any (by decide +kernel) (pa_cons (pe_lc (own := [("gate", 6)]) (g := gName 6) (tt := tYes) rfl sc_board_found_gates.nd (pi_listK (K := K) rfl (pv 3)) (blkOk_by (own := [("gate", 6)]) (N := N_board_found_gates) (sc := defScope s_board_found_gates) (by decide +kernel)) (fun _ _ _ _ _ => (pg_name (i := 6) sc_board_found_gates.nd rfl (by first | exact Or.inl rfl | exact Or.inr rfl))) (fun _ _ _ _ _ => pts_nil) (fun _ _ _ _ _ => (pe_mthN G_board_crosses_gate (hr.mono (by decide)) (pv 0) (pa_cons (pv 4) (pa_cons (pv 5) (pa_cons (pv 6) pa_nil)))))) pa_nil))))))) (pss_one (ps_expr (pe_bm PySem.F.plainAttrs_list PySem.F.slot_list_append PySem.F.type_list_append mt_append (pv 3) (pa_cons (pe_tup (pa_cons (pv 4) (pa_cons (pv 5) pa_nil))) pa_nil)))) pss_nil)))
      (pss_one (ps_ret (pe_callTy (call_tupleK (K := K) rfl) (by rfl) B.b_tuple (by decide +kernel) (pa_cons (pe_callB (SD.cr_sortDK (K := K) rfl hr.units) (by rfl) B.b_sorted (by decide +kernel) (pa_cons (pv 3) pa_nil)) pa_nil))))))), body_okU h (fun ds μ Φ p => ?_)⟩
  (try dsimp only [cxOf, Cx.nox, Cx.wish, List.map_cons, List.map_nil])
  obtain ⟨b, w, h, rows, l, s, sp, kg, kt, pins, rfl, BR, OK, hpins, hnd, hT, qy⟩ := p
  show AS K _ [some _, some _, none, none, none, none, none] _ _
  have hpl := hpins.1
  have ep : ((pins.map D.int).flatMap fun x => ((pins.map D.int).filter fun y => decide (ofI x < ofI y)).map fun y => D.tup [x, y]) = (pairsOf pins).map encG := by
    unfold pairsOf
    rw [List.flatMap_map, List.map_flatMap]
    congr 1
    funext x
    show List.map _ (List.filter (fun y => decide (x < ofI y)) (pins.map D.int)) = _
    rw [filter_int fun y => decide (x < y), List.map_map, List.map_map]
    rfl
  have el : (pairsOf pins).length ≤ 400 := by
    have h1 : ∀ (l : List Int), (l.flatMap fun p => (pins.filter fun q => decide (p < q)).map fun q => (p, q)).length ≤ l.length * pins.length := fun l => by
      induction l with
      | nil => simp
      | cons x l ih =>
        rw [List.flatMap_cons, List.length_append, List.length_map, List.length_cons, Nat.succ_mul]
        have := List.length_filter_le (fun q => decide (x < q)) pins
        omega
    have h2 := h1 pins
    have h3 : pins.length * pins.length ≤ 20 * 20 := Nat.mul_le_mul hpl hpl
    unfold pairsOf
    omega
  walk_at "go"
  refine a_lc2p tg_name tg_name (by intro j hj d; simp at hj; rcases hj with rfl | rfl <;> simp) (by decide) (fun _ => pins.map D.int) (fun x y => .tup [x, y]) (fun x y => decide (ofI x < ofI y)) (ai_T ?_)
  walk_at "go"
  rw [ep]
  refine ⟨?_, ?_, fun l1 hl1 => ?_⟩
  · rw [List.length_map]
    have := sizeLine_eq
    omega
  · intro x hx
    obtain ⟨p, hp, rfl⟩ := List.mem_map.mp hx
    refine ⟨_, rfl, rfl, at_yes ⟨rfl, rfl⟩, fun Dl acc hD => ?_, fun y hy => ?_⟩
    · walk_at "nf"
      refine ai_T ?_
      walk_at "go"
      exact ⟨rfl, rfl, rfl⟩
    · obtain ⟨q, hq, rfl⟩ := List.mem_map.mp hy
      refine ⟨_, rfl, rfl, ?_, fun _ => ?_⟩
      · walk_at "nf"
        walk_at "go"
        exact ⟨rfl, rfl⟩
      · walk_at "nf"
        walk_at "go"
        exact ⟨rfl, rfl⟩
  · walk_at "go"
    intro l2 hl2
    have ne := none_ne hl2
    walk_at "go"
    refine s_for (ai_L (a_sortL (fun _ _ => ⟨_, rfl⟩) ?_))
    walk_at "go"
    have hlen : (srtG (spots w h rows) (pairsOf pins)).length ≤ 400 := by rw [srtG, List.length_mergeSort]; exact el
    refine ⟨l1, _, keyD (spots w h rows), rfl, by walk_at "mu", ?_, ?_, key_alike _ _, key_sortable _ _, ?_, fun l3 hl3 => ?_⟩
    · show (((id μ).set l1 _).set l2 _) T_g = some (.tab Q_g)
      have n1 : T_g ≠ l1 := fun z => by
        have n0 : μ T_g = none := by rw [z]; exact hl1
        rw [hT] at n0; cases n0
      have n2 : T_g ≠ l2 := fun z => by
        have n0 : μ T_g = none := by rw [z]; exact none_back hl2
        rw [hT] at n0; cases n0
      rw [set_ne n2, set_ne n1]
      exact hT
    · intro x hx
      obtain ⟨g, _, rfl⟩ := List.mem_map.mp hx
      exact okn_t12.mono (by decide)
    · intro x hx
      obtain ⟨g, hg, rfl⟩ := List.mem_map.mp hx
      obtain ⟨g1, g2, _⟩ := mem_pairs.mp (show (g.1, g.2) ∈ pairsOf pins from hg)
      have BR2 : Brd C_Board (((id μ).set l1 (MO.lst (List.map encG (pairsOf pins)))).set l2 (MO.lst [])) b w h rows l s sp kg kt := BR.sub (sub_new (sub_new Sub.refl hl1) hl2)
      walk_at "nf"
      walk_at "go"
      refine rd_spot K_Board BR2 ?_ ?_
      · walk_at "go"
        exact ⟨rfl, rfl⟩
      walk_at "go"
      refine ⟨rfl, g.1, rfl, hpins.2 _ g1, ?_⟩
      walk_at "go"
      refine rd_spot K_Board BR2 ?_ ?_
      · walk_at "go"
        exact ⟨rfl, rfl⟩
      walk_at "go"
      refine ⟨rfl, g.2, rfl, hpins.2 _ g2, ?_⟩
      walk_at "go"
      refine ⟨_, _, rfl, OK.at _, OK.at _, ?_⟩
      walk_at "go"
      exact ⟨rfl, rfl⟩
    · rw [srt_pairs _ _ _ fun _ => rfl]
      have n31 : l3 ≠ l1 := by
        intro z
        rw [z] at hl3
        rw [set_ne (Ne.symm ne), set_same] at hl3
        cases hl3
      have n32 : l3 ≠ l2 := none_ne hl3
      refine ⟨l3, _, rfl, set_same, ?_⟩
      have n2 : μ l2 = none := none_back hl2
      have n3 : μ l3 = none := none_back (none_back hl3)
      have subOf : ∀ {μ' : M}, SubB l2 ((((id μ).set l1 (MO.lst (List.map encG (pairsOf pins)))).set l2 (MO.lst [])).set l3 (MO.lst (List.map encG (srtG (spots w h rows) (pairsOf pins)))) |>.del l3) μ' → Sub μ μ' := fun {μ'} sb a m ea => by
        have d1 : a ≠ l1 := fun z => by rw [z] at ea; rw [show μ l1 = none from hl1] at ea; cases ea
        have d2 : a ≠ l2 := fun z => by rw [z, n2] at ea; cases ea
        have d3 : a ≠ l3 := fun z => by rw [z, n3] at ea; cases ea
        refine sb a m d2 ?_
        rw [Z.del_ne d3, set_ne d3, set_ne d2, set_ne d1]
        exact ea
      refine ⟨fun j τ' μ' => ∃ o4 o5 o6 : Option D, SubB l2 ((((id μ).set l1 (MO.lst (List.map encG (pairsOf pins)))).set l2 (MO.lst [])).set l3 (MO.lst (List.map encG (srtG (spots w h rows) (pairsOf pins)))) |>.del l3) μ' ∧ μ' l2 = some (.lst ((foundG (spots w h rows) pins ((srtG (spots w h rows) (pairsOf pins)).take j)).map encG)) ∧
        τ' = [some (.ref b), some (.tup (pins.map D.int)), some (.ref l1), some (.ref l2), o4, o5, o6], ?_, ?_, ?_⟩
      · exact ⟨none, none, none, fun a m _ e => e, by rw [Z.del_ne (Ne.symm n32), set_ne (Ne.symm n32)]; exact set_same, rfl⟩
      · rintro j x τ' μ' hx ⟨o4, o5, o6, sb, hf, rfl⟩
        rw [List.getElem?_map] at hx
        obtain ⟨g, hg, rfl⟩ := Option.map_eq_some_iff.mp hx
        have hgm : g ∈ pairsOf pins := srt_mem.mp (List.mem_of_getElem? hg)
        obtain ⟨g1, g2, _⟩ := mem_pairs.mp (show (g.1, g.2) ∈ pairsOf pins from hgm)
        have sub0 := subOf sb
        have BR2 := BR.sub sub0
        obtain ⟨dx, gl, tl, lvs, hb, hsp, hkg, hkt⟩ := id BR2
        have hlt := (List.getElem?_eq_some_iff.mp hg).1
        have fsnoc : foundG (spots w h rows) pins ((srtG (spots w h rows) (pairsOf pins)).take (j + 1)) = stepG (spots w h rows) pins (foundG (spots w h rows) pins ((srtG (spots w h rows) (pairsOf pins)).take j)) g := by
          rw [List.take_add_one, hg]
          exact foundG_snoc _ _
        walk_at "go"
        refine ⟨b, dx, _, rfl, hb, rfl, ?_⟩
        walk_at "go"
        refine ⟨b, w, h, rows, l, s, sp, kg, kt, g.1, g.2, pins, rfl, BR2, OK, hpins.2 _ g1, hpins.2 _ g2, hpins, ?_⟩
        refine ⟨_, rfl, ?_⟩
        cases eh : hits (spots w h rows) pins (g.1, g.2)
        · simp only [Bool.not_false, if_true]
          walk_at "go"
          have hfl : (foundG (spots w h rows) pins ((srtG (spots w h rows) (pairsOf pins)).take j)).length ≤ 400 := by
            refine Nat.le_trans (foundG_len _) ?_
            rw [List.length_take]
            omega
          refine a_lc1 (fun d => .bl (crsG (spots w h rows) (g.1, g.2) (ofG d))) (fun _ => true) (ai_L ?_)
          walk_at "go"
          refine ⟨l2, _, rfl, hf, ?_, fun x hx => at_yes ⟨rfl, rfl⟩, fun x hx _ => ?_, fun l4 hl4 => ?_⟩
          · rw [List.length_map]
            have := sizeLine_eq
            omega
          · obtain ⟨g', hg', rfl⟩ := List.mem_map.mp hx
            have hg2 := (foundG_sub _ _ hg').1
            obtain ⟨k1, k2, _⟩ := mem_pairs.mp (show (g'.1, g'.2) ∈ pairsOf pins from srt_mem.mp (List.mem_of_mem_take hg2))
            have BR3 : Brd C_Board (μ'.del l2) b w h rows l s sp kg kt := BR.sub fun a m ea => by
              have d2 : a ≠ l2 := fun z => by rw [z, n2] at ea; cases ea
              rw [Z.del_ne d2]
              exact sub0 a m ea
            obtain ⟨dx3, gl3, tl3, _, hb3, _⟩ := id BR3
            walk_at "nf"
            walk_at "go"
            refine ⟨b, dx3, _, rfl, hb3, rfl, ?_⟩
            walk_at "go"
            exact ⟨b, w, h, rows, l, s, sp, kg, kt, g.1, g.2, g', rfl, BR3, OK, hpins.2 _ g1, hpins.2 _ g2, hpins.2 _ k1, hpins.2 _ k2, rfl, rfl⟩
          · show AA K tNil _ (((μ'.del l2).set l2 _).set l4 _) _
            rw [del_set hf]
            have e1 : (((foundG (spots w h rows) pins ((srtG (spots w h rows) (pairsOf pins)).take j)).map encG).filter fun _ => true).map (fun d => D.bl (crsG (spots w h rows) (g.1, g.2) (ofG d))) = ((foundG (spots w h rows) pins ((srtG (spots w h rows) (pairsOf pins)).take j)).map fun g' => crsG (spots w h rows) g g').map D.bl := by
              rw [List.filter_eq_self.mpr (fun _ _ => rfl), List.map_map, List.map_map]
              rfl
            rw [e1]
            have hl4' : μ' l4 = none := by
              have hl4 : ((μ'.del l2).set l2 _) l4 = none := hl4
              rw [del_set hf] at hl4
              exact hl4
            have n42 : l4 ≠ l2 := ne_of_some hl4' hf
            walk_at "go"
            refine rc_any set_same ?_
            refine ⟨_, rfl, ?_⟩
            rw [List.any_map]
            have e2 : (id ∘ fun g' => crsG (spots w h rows) g g') = fun g' => crsG (spots w h rows) g g' := rfl
            rw [e2]
            cases ec : (foundG (spots w h rows) pins ((srtG (spots w h rows) (pairsOf pins)).take j)).any fun g' => crsG (spots w h rows) g g'
            · simp only [Bool.not_false, if_true]
              walk_at "go"
              refine m_append (a := l2) (ds := (foundG (spots w h rows) pins ((srtG (spots w h rows) (pairsOf pins)).take j)).map encG) ?_
              walk_at "go"
              refine ⟨rfl, ⟨_, by rw [set_ne (Ne.symm n42)]; exact hf⟩, ?_⟩
              walk_at "go"
              refine ⟨by rw [set_ne (Ne.symm n42)]; exact hf, ?_, ?_⟩
              · rw [List.length_map]
                have := sizeLine_eq
                omega
              · refine ⟨_, _, _, sb_self (sb_new sb hl4'), ?_, rfl⟩
                rw [set_same, fsnoc, stepG, eh, ec]
                simp
            · simp only [Bool.not_true, Bool.false_eq_true, if_false]
              walk_at "go"
              refine ⟨_, _, _, sb_new sb hl4', ?_, rfl⟩
              rw [set_ne (Ne.symm n42), fsnoc, stepG, eh, ec]
              exact hf
        · simp only [Bool.not_true, Bool.false_eq_true, if_false]
          walk_at "go"
          refine ⟨_, _, _, sb, ?_, rfl⟩
          rw [fsnoc, stepG, eh]
          exact hf
      · rintro τ' μ' ⟨o4, o5, o6, sb, hf, rfl⟩
        rw [List.length_map, List.take_length] at hf
        have sub0 := subOf sb
        have n32' : l2 ≠ l3 := Ne.symm n32
        walk_at "go"
        refine rc_sorted (by rw [set_ne n32']; exact hf) (fun x hx => ?_) (pt_alike _) (pt_sortable _) fun l5 hl5 => ?_
        · obtain ⟨g', _, rfl⟩ := List.mem_map.mp hx
          exact okn_pt.mono (by decide)
        · rw [srt_found]
          walk_at "go"
          refine rc_tuple (seq_ref set_same) ?_
          have hl5' : μ' l5 = none := none_back hl5
          exact up_of (sub_new (sub_own sub0 n3) hl5) qy
theorem pairs_len {pins : List Int} (h : pins.length ≤ 20) : (pairsOf pins).length ≤ 400 := by
  have h1 : ∀ (l : List Int), (l.flatMap fun p => (pins.filter fun q => decide (p < q)).map fun q => (p, q)).length ≤ l.length * pins.length := fun l => by
    induction l with
    | nil => simp
    | cons x l ih =>
      rw [List.flatMap_cons, List.length_append, List.length_map, List.length_cons, Nat.succ_mul]
      have := List.length_filter_le (fun q => decide (x < q)) pins
      omega
  have h2 := h1 pins
  have h3 : pins.length * pins.length ≤ 20 * 20 := Nat.mul_le_mul h h
  unfold pairsOf
  omega
theorem gOf_len {w h l : Int} {rows : List R4} (OK : BOk w h rows l) (lv : Int) : (gOf w h rows lv).length ≤ 400 := by
  have e := pairs_len (pins_ok OK lv).1
  have k := foundG_len (sp := spots w h rows) (pins := pinsOf rows lv) (srtG (spots w h rows) (pairsOf (pinsOf rows lv)))
  have l2 : (srtG (spots w h rows) (pairsOf (pinsOf rows lv))).length = (pairsOf (pinsOf rows lv)).length := by rw [srtG, List.length_mergeSort]
  unfold gOf gatesOf
  rw [List.length_mergeSort]
  omega
/-- what asking a board for gates, triangles may change -/
def Sub2 (kg kt : Addr) (μ μ' : M) : Prop := ∀ a m, a ≠ kg → a ≠ kt → μ a = some m → μ' a = some m
theorem s2_refl {kg kt : Addr} {μ : M} : Sub2 kg kt μ μ := fun _ _ _ _ h => h
theorem s2_trans {kg kt : Addr} {μ μ1 μ2 : M} (h : Sub2 kg kt μ μ1) (k : Sub2 kg kt μ1 μ2) : Sub2 kg kt μ μ2 := fun a m n1 n2 e => k a m n1 n2 (h a m n1 n2 e)
def P_board_gates (C T : Addr) : PT4 := fun ds μ Φ Ξ => ∃ b d w h rows l s sp kg kt, ds = [.ref b, d] ∧ Brd C μ b w h rows l s sp kg kt ∧ BOk w h rows l ∧ Kd μ d ∧ μ T = some (.tab Q_g) ∧
  (∀ lv μ', d = .int lv → 0 ≤ lv → lv < l → Sub2 kg kt μ μ' → μ' kt = μ kt → Brd C μ' b w h rows l s sp kg kt → Φ (gatesD w h rows lv) μ') ∧ (wi d 0 (l - 1) = false → ∀ dx, μ dx = none → Ξ "NoLayer" (some dx) (μ.set dx (.xd [("layer", d)])))
theorem len_board_gates (C T : Addr) (ds : List D) (μ : M) (Φ : D → M → Prop) (Ξ : XW) (h : P_board_gates C T ds μ Φ Ξ) : ds.length = 2 := by
  obtain ⟨_, _, _, _, _, _, _, _, _, _, rfl, _⟩ := h
  rfl
theorem val_kept {F : Int → D} {lv : Int} : ∀ {gl : List Int}, lv ∈ gl → valD (gl.map fun v => ((Sum.inl v : Key), F v)) (Sum.inl lv) = some (F lv)
  | [], h => by cases h
  | v :: gl, h => by
    rw [List.map_cons, valD_cons]
    by_cases e : v = lv
    · subst e
      rw [if_pos rfl]
    · rw [if_neg (fun z => e (Sum.inl.inj z))]
      exact val_kept (by
        rcases List.mem_cons.mp h with z | z
        · exact absurd z.symm e
        · exact z)
theorem val_off {F : Int → D} {lv : Int} : ∀ {gl : List Int}, lv ∉ gl → valD (gl.map fun v => ((Sum.inl v : Key), F v)) (Sum.inl lv) = none
  | [], _ => rfl
  | v :: gl, h => by
    rw [List.map_cons, valD_cons, if_neg (fun z => h (by rw [Sum.inl.inj z]; exact List.mem_cons_self))]
    exact val_off fun z => h (List.mem_cons_of_mem _ z)
theorem ok_board_gates {f : Addr} {fd : FuncData} (F : Fun K "gates" "Board.gates" s_board_gates f fd) (B : Bs mg) {T_g : Addr} {C_Board : Addr} (K_Board : Cl_Board K C_Board) (G_board_found_gates : Mth P w K mg base C_Board "found_gates" ["self", "pins"] 6 (spI K (P_board_found_gates C_Board T_g))) (G_board_look_layer : Mth P w K mg base C_Board "look_layer" ["self", "number"] 4 (spX K (xn mg) (P_board_look_layer C_Board))) (G_board_pins_on : Mth P w K mg base C_Board "pins_on" ["self", "layer"] 5 (spX K (xn mg) (P_board_pins_on C_Board))) : FnOk P w K mg base (L2.CX P w) 7 f fd ["self", "layer"] (spX K (xn mg) (P_board_gates C_Board T_g)) := by
  refine F.okX sc_board_gates (fun vs H Q E h => spX_len h (len_board_gates C_Board T_g)) (fun cdv A outer s H vs Q E hr h => ?_)
  have hu65 := hu65_of hr
  refine ⟨_, (pss_cons (ps_expr (pe_mthX (takes_of rfl rfl rfl rfl) G_board_look_layer (hr.mono (by decide)) (pv 0) (pa_cons (pv 1) pa_nil)))
      (pss_cons (ps_if (pt_cmp (pc_dnotin (hu_of hr) (pv 1) (pe_fldK (K := K) rfl (pv 0) rfl))) (pss_one (ps_dput (hu_of hr) (pe_fldK (K := K) rfl (pv 0) rfl) (pv 1) (pe_mthN G_board_found_gates (hr.mono (by decide)) (pv 0) (pa_cons (pe_mthN G_board_pins_on (hr.mono (by decide)) (pv 0) (pa_cons (pv 1) pa_nil)) pa_nil)) (by rfl))) pss_nil)
      (pss_one (ps_ret (pe_dget (hu_of hr) (pe_fldK (K := K) rfl (pv 0) rfl) (pv 1) (fun _ _ => rfl)))))), body_okX h (fun ds μ Φ Ξ p => ?_)⟩
  (try dsimp only [cxOf, Cx.nox, Cx.wish, List.map_cons, List.map_nil])
  obtain ⟨b, d, w, h, rows, l, s, sp, kg, kt, rfl, BR, OK, kd, hT, qy, qn⟩ := p
  obtain ⟨dx, gl, tl, lvs, hb, hsp, hkg, hkt⟩ := id BR
  show AS K _ [some _, some _] _ _
  walk_at "go"
  refine ⟨b, dx, _, rfl, hb, rfl, ?_⟩
  walk_at "go"
  refine ⟨b, d, w, h, rows, l, s, sp, kg, kt, rfl, BR, kd, fun h1 => ?_, fun h1 dx2 hdx2 => qn h1 dx2 hdx2⟩
  obtain ⟨lv, rfl, l0, l1⟩ := wi_int h1
  walk_at "go"
  have fin : ∀ (μ' : M) (gl' : List Int), Lvs l gl' → lv ∈ gl' → Sub2 kg kt μ μ' → μ' b = μ b → μ' sp = μ sp → μ' kt = μ kt → μ' kg = some (.dK (gl'.map fun lv => (Sum.inl lv, gatesD w h rows lv))) → AE K (tDGet (tFld K (tVar 0) "kept_gates") (tVar 1)) [some (.ref b), some (.int lv)] μ' Φ := fun μ' gl' lv' hm s2 e1 e2 e3 e4 => by
    have BR' : Brd C_Board μ' b w h rows l s sp kg kt := ⟨dx, gl', tl, ⟨lv', lvs.2⟩, by rw [e1]; exact hb, by rw [e2]; exact hsp, e4, by rw [e3]; exact hkt⟩
    refine a_dget (a_fld ?_)
    walk_at "go"
    refine ⟨b, C_Board, dx, _, rfl, by rw [e1]; exact hb, K_Board.cls, K_Board.n_kept_gates, _, rfl, ?_⟩
    walk_at "go"
    exact ⟨kg, _, rfl, .inl ⟨_, .inl lv, e4, rfl, (val_kept hm).symm⟩, qy lv μ' rfl l0 (by omega) s2 e3 BR'⟩
  refine a_dnotin ?_
  walk_at "go"
  refine a_fld ?_
  walk_at "go"
  refine ⟨b, C_Board, dx, _, rfl, hb, K_Board.cls, K_Board.n_kept_gates, _, rfl, ?_⟩
  refine ⟨kg, _, rfl, .inl ⟨_, .inl lv, hkg, rfl, rfl⟩, ?_⟩
  refine ⟨_, rfl, ?_⟩
  by_cases hm : lv ∈ gl
  · rw [val_kept hm]
    simp only [Option.isSome_some, Bool.not_true, Bool.false_eq_true, if_false]
    walk_at "go"
    exact fin μ gl lvs.1 hm s2_refl rfl rfl rfl hkg
  · rw [val_off hm]
    simp only [Option.isSome_none, Bool.not_false, if_true]
    refine s_dput ?_
    walk_at "go"
    refine ⟨b, dx, _, rfl, hb, rfl, ?_⟩
    walk_at "go"
    refine ⟨b, dx, _, rfl, hb, rfl, ?_⟩
    walk_at "go"
    refine ⟨b, _, w, h, rows, l, s, sp, kg, kt, rfl, BR, OK, kd_int, fun lv2 e2 _ _ => ?_, fun z => by rw [h1] at z; cases z⟩
    cases e2
    walk_at "go"
    refine ⟨b, w, h, rows, l, s, sp, kg, kt, _, rfl, BR, OK, pins_ok OK lv, pins_nodup rows lv, hT, ?_⟩
    refine a_fld ?_
    walk_at "go"
    refine ⟨b, C_Board, dx, _, rfl, hb, K_Board.cls, K_Board.n_kept_gates, _, rfl, ?_⟩
    walk_at "go"
    have hgl := lvs_len lvs.1 OK.l1
    refine .inr ⟨_, .inl lv, hkg, rfl, ?_, ?_⟩
    · rw [List.length_map]
      have := sizeLine_eq
      omega
    rw [putKD_new (val_off hm)]
    have d1 : b ≠ kg := fun z => by rw [z, hkg] at hb; cases hb
    have d2 : sp ≠ kg := fun z => by rw [z, hkg] at hsp; cases hsp
    have d3 : kt ≠ kg := Ne.symm lvs.2.2
    refine s_ret (fin _ (gl ++ [lv]) (lvs_snoc lvs.1 hm l0 (by omega)) (List.mem_append_right _ (List.mem_singleton.mpr rfl)) (fun a m na _ e => by rw [set_ne na]; exact e) (set_ne d1) (set_ne d2) (set_ne d3) ?_)
    rw [set_same, List.map_append]
    rfl
def P_board_is_empty (C : Addr) : PT3 := fun ds μ Φ => ∃ b w h rows l s sp kg kt t pins, ds = [.ref b, encT t, .tup (pins.map D.int)] ∧ Brd C μ b w h rows l s sp kg kt ∧ BOk w h rows l ∧ (0 ≤ t.1 ∧ t.1 < rows.length + 4) ∧ (0 ≤ t.2.1 ∧ t.2.1 < rows.length + 4) ∧ (0 ≤ t.2.2 ∧ t.2.2 < rows.length + 4) ∧ Pins rows pins ∧ Φ (.bl (emptyT (spots w h rows) pins t)) μ
theorem len_board_is_empty (C : Addr) (ds : List D) (μ : M) (Φ : D → M → Prop) (h : P_board_is_empty C ds μ Φ) : ds.length = 3 := by
  obtain ⟨_, _, _, _, _, _, _, _, _, _, _, rfl, _⟩ := h
  rfl
/-- whether a pin lies within three -/
def inT (sp : List Pt) (t : Int × Int × Int) (r : Int) : Bool :=
  decide (sgn (ar (spAt sp t.1) (spAt sp t.2.1) (spAt sp r)) = sgn (ar (spAt sp t.1) (spAt sp t.2.1) (spAt sp t.2.2))) && (decide (sgn (ar (spAt sp t.2.1) (spAt sp t.2.2) (spAt sp r)) = sgn (ar (spAt sp t.1) (spAt sp t.2.1) (spAt sp t.2.2))) && decide (sgn (ar (spAt sp t.2.2) (spAt sp t.1) (spAt sp r)) = sgn (ar (spAt sp t.1) (spAt sp t.2.1) (spAt sp t.2.2))))
theorem empty_eq (sp : List Pt) (pins : List Int) (t : Int × Int × Int) : emptyT sp pins t = (!decide (sgn (ar (spAt sp t.1) (spAt sp t.2.1) (spAt sp t.2.2)) = 0) && pins.all fun r => !inT sp t r) := rfl
theorem ok_board_is_empty {f : Addr} {fd : FuncData} (F : Fun K "is_empty" "Board.is_empty" s_board_is_empty f fd) (B : Bs mg) {C_Board : Addr} (K_Board : Cl_Board K C_Board) (G_side : Def P w K mg base "side" ["one", "other", "third"] 2 (spI K P_side)) : FnOk P w K mg base CX0 4 f fd ["self", "corners", "pins"] (spI K (P_board_is_empty C_Board)) := by
  refine F.ok sc_board_is_empty (fun vs H Q E h => spI_len h (len_board_is_empty C_Board)) (fun cdv A outer s H vs Q E hr h => ?_)
  have hu65 := hu65_of hr
  refine ⟨_, (pss_cons (ps_asg (pe_lc (own := [("pin", 7)]) (g := gName 7) (tt := tYes) rfl sc_board_is_empty.nd (pi_tupK (K := K) rfl (pv 1)) (blkOk_by (own := [("pin", 7)]) (N := N_board_is_empty) (sc := defScope s_board_is_empty) (by decide +kernel)) (fun _ _ _ _ _ => (pg_name (i := 7) sc_board_is_empty.nd rfl (by first | exact Or.inl rfl | exact Or.inr rfl))) (fun _ _ _ _ _ => pts_nil) (fun _ _ _ _ _ => (pe_ix (ix_seqK (K := K) rfl) (pe_fldK (K := K) rfl (pv 0) rfl) (pv 7) (fun _ _ => rfl)))) (pg_lst (by rfl) (pgs_cons (pg_name (i := 3) sc_board_is_empty.nd rfl (by first | exact Or.inl rfl | exact Or.inr rfl)) (pgs_cons (pg_name (i := 4) sc_board_is_empty.nd rfl (by first | exact Or.inl rfl | exact Or.inr rfl)) (pgs_cons (pg_name (i := 5) sc_board_is_empty.nd rfl (by first | exact Or.inl rfl | exact Or.inr rfl)) pgs_nil)))))
      (pss_cons (ps_set (i := 6) sc_board_is_empty.nd rfl (by first | exact Or.inl rfl | exact Or.inr rfl) (pe_def G_side (hr.mono (by decide)) (by rfl) (pa_cons (pv 3) (pa_cons (pv 4) (pa_cons (pv 5) pa_nil)))))
      (pss_cons (ps_if (pt_cmpR op_eq (pv 6) pe_int (by first | exact nomark _ | rfl)) (pss_one (ps_ret pe_bl)) pss_nil)
      (pss_cons (ps_for PassesOwn.never rfl (pi_tupK (K := K) rfl (pv 2)) (pg_name (i := 7) sc_board_is_empty.nd rfl (by first | exact Or.inl rfl | exact Or.inr rfl))
      (pss_cons (ps_set (i := 8) sc_board_is_empty.nd rfl (by first | exact Or.inl rfl | exact Or.inr rfl) (pe_ix (ix_seqK (K := K) rfl) (pe_fldK (K := K) rfl (pv 0) rfl) (pv 7) (fun _ _ => rfl)))
      (pss_one (ps_if (PW.pt (pw_and (pt_cmpR op_eq (pe_def G_side (hr.mono (by decide)) (by rfl) (pa_cons (pv 3) (pa_cons (pv 4) (pa_cons (pv 8) pa_nil)))) (pv 6) (by first | exact nomark _ | rfl)) (pw_and (pt_cmpR op_eq (pe_def G_side (hr.mono (by decide)) (by rfl) (pa_cons (pv 4) (pa_cons (pv 5) (pa_cons (pv 8) pa_nil)))) (pv 6) (by first | exact nomark _ | rfl)) (pw_and1 (pt_cmpR op_eq (pe_def G_side (hr.mono (by decide)) (by rfl) (pa_cons (pv 5) (pa_cons (pv 3) (pa_cons (pv 8) pa_nil)))) (pv 6) (by first | exact nomark _ | rfl)))))) (pss_one (ps_ret pe_bl)) pss_nil))))
      (pss_one (ps_ret pe_bl)))))), body_okU h (fun ds μ Φ p => ?_)⟩
  (try dsimp only [cxOf, Cx.nox, Cx.wish, List.map_cons, List.map_nil])
  obtain ⟨b, w, h, rows, l, s, sp, kg, kt, t, pins, rfl, BR, OK, h1, h2, h3, hpins, qy⟩ := p
  show AS K _ [some _, some _, some _, none, none, none, none, none, none] _ _
  walk_at "go"
  refine a_lc1 (fun d => encG (spAt (spots w h rows) (ofI d))) (fun _ => true) (ai_T ?_)
  walk_at "go"
  refine ⟨fun x hx => at_yes ⟨rfl, rfl⟩, fun x hx _ => ?_, fun l2 hl2 => ?_⟩
  · have hr : ∃ r, x = .int r ∧ 0 ≤ r ∧ r < rows.length + 4 := by
      simp only [List.mem_cons, List.not_mem_nil, or_false] at hx
      rcases hx with rfl | rfl | rfl
      · exact ⟨_, rfl, h1⟩
      · exact ⟨_, rfl, h2⟩
      · exact ⟨_, rfl, h3⟩
    obtain ⟨r, rfl, hr⟩ := hr
    walk_at "nf"
    walk_at "go"
    refine rd_spot K_Board BR ?_ ?_
    · walk_at "go"
      exact ⟨rfl, rfl⟩
    walk_at "go"
    exact ⟨rfl, r, rfl, hr, rfl, rfl⟩
  have hl2' : μ l2 = none := hl2
  have fin : ∀ v, emptyT (spots w h rows) pins t = v → Up Φ (.bl v) (μ.set l2 (.lst [encG (spAt (spots w h rows) t.1), encG (spAt (spots w h rows) t.2.1), encG (spAt (spots w h rows) t.2.2)])) := fun v e => up_of (sub_new Sub.refl hl2') (e ▸ qy)
  have BR2 : Brd C_Board (μ.set l2 (.lst [encG (spAt (spots w h rows) t.1), encG (spAt (spots w h rows) t.2.1), encG (spAt (spots w h rows) t.2.2)])) b w h rows l s sp kg kt := BR.sub (sub_new Sub.refl hl2')
  refine g_lst (ds := [encG (spAt (spots w h rows) t.1), encG (spAt (spots w h rows) t.2.1), encG (spAt (spots w h rows) t.2.2)]) (seq_ref set_same) (fun es z => by cases z) rfl ?_
  show AGs K _ _ _ (μ.set l2 (.lst [encG (spAt (spots w h rows) t.1), encG (spAt (spots w h rows) t.2.1), encG (spAt (spots w h rows) t.2.2)])) _
  generalize (μ.set l2 (.lst [encG (spAt (spots w h rows) t.1), encG (spAt (spots w h rows) t.2.1), encG (spAt (spots w h rows) t.2.2)])) = μ2 at fin BR2 ⊢
  walk_at "go"
  refine use_side (OK.at _) (OK.at _) (OK.at _) ?_
  walk_at "go"
  refine ite_d (fun k1 => ?_) (fun k1 => ?_)
  · walk_at "go"
    exact fin _ (by unfold emptyT; simp [k1])
  walk_at "go"
  refine s_forT ?_
  walk_at "go"
  refine ⟨fun i τ' μ' => ∃ o7 o8 : Option D, μ' = μ2 ∧ (∀ r ∈ pins.take i, inT (spots w h rows) t r = false) ∧ τ' = [some (.ref b), some (encT t), some (.tup (pins.map D.int)), some (encG (spAt (spots w h rows) t.1)), some (encG (spAt (spots w h rows) t.2.1)), some (encG (spAt (spots w h rows) t.2.2)), some (.int (sgn (ar (spAt (spots w h rows) t.1) (spAt (spots w h rows) t.2.1) (spAt (spots w h rows) t.2.2)))), o7, o8], _, rfl, ?_, ?_, ?_⟩
  · exact ⟨none, none, rfl, fun r z => (by cases z), rfl⟩
  · rintro i x τ' μ' hx ⟨o7, o8, rfl, hno, rfl⟩
    rw [List.getElem?_map] at hx
    obtain ⟨r, hr, rfl⟩ := Option.map_eq_some_iff.mp hx
    have hrm := List.mem_of_getElem? hr
    have step : ∀ v, inT (spots w h rows) t r = v → v = false → ∀ r' ∈ pins.take (i + 1), inT (spots w h rows) t r' = false := fun v e1 e2 r' hr' => by
      rw [List.take_add_one, hr] at hr'
      rcases List.mem_append.mp hr' with z | z
      · exact hno r' z
      · rw [Option.toList_some, List.mem_singleton] at z
        rw [z, e1, e2]
    walk_at "go"
    refine rd_spot K_Board BR2 ?_ ?_
    · walk_at "go"
      exact ⟨rfl, rfl⟩
    walk_at "go"
    refine ⟨rfl, r, rfl, hpins.2 r hrm, ?_⟩
    walk_at "go"
    refine use_side (OK.at _) (OK.at _) (OK.at _) ?_
    walk_at "go"
    refine ite_d (fun k2 => ?_) (fun k2 => ?_)
    rotate_left
    · walk_at "go"
      exact ⟨_, _, rfl, step _ (by unfold inT; rw [decide_eq_false k2, Bool.false_and]) rfl, rfl⟩
    walk_at "go"
    refine use_side (OK.at _) (OK.at _) (OK.at _) ?_
    walk_at "go"
    refine ite_d (fun k3 => ?_) (fun k3 => ?_)
    rotate_left
    · walk_at "go"
      exact ⟨_, _, rfl, step _ (by unfold inT; rw [decide_eq_false k3, Bool.false_and, Bool.and_false]) rfl, rfl⟩
    walk_at "go"
    refine use_side (OK.at _) (OK.at _) (OK.at _) ?_
    walk_at "go"
    refine ite_d (fun k4 => ?_) (fun k4 => ?_)
    rotate_left
    · walk_at "go"
      exact ⟨_, _, rfl, step _ (by unfold inT; rw [decide_eq_false k4, Bool.and_false, Bool.and_false]) rfl, rfl⟩
    walk_at "go"
    refine fin _ ?_
    rw [empty_eq]
    have e1 : inT (spots w h rows) t r = true := by unfold inT; rw [decide_eq_true k2, decide_eq_true k3, decide_eq_true k4]; rfl
    have e2 : (pins.all fun r => !inT (spots w h rows) t r) = false := List.all_eq_false.mpr ⟨r, hrm, by rw [e1]; exact Bool.false_ne_true⟩
    rw [e2, Bool.and_false]
  · rintro τ' μ' ⟨o7, o8, rfl, hno, rfl⟩
    rw [List.length_map, List.take_length] at hno
    walk_at "go"
    refine fin _ ?_
    rw [empty_eq, decide_eq_false k1]
    have e2 : (pins.all fun r => !inT (spots w h rows) t r) = true := List.all_eq_true.mpr fun r hr => by rw [hno r hr]; rfl
    rw [e2]
    rfl
def P_board_found_triangles (C T : Addr) : PT3 := fun ds μ Φ => ∃ b lv w h rows l s sp kg kt, ds = [.ref b, .int lv] ∧ Brd C μ b w h rows l s sp kg kt ∧ BOk w h rows l ∧ 0 ≤ lv ∧ lv < l ∧ μ T = some (.tab Q_g) ∧
  ∀ μ', Sub2 kg kt μ μ' → μ' kt = μ kt → Brd C μ' b w h rows l s sp kg kt → Φ (trisD w h rows lv) μ'
theorem len_board_found_triangles (C T : Addr) (ds : List D) (μ : M) (Φ : D → M → Prop) (h : P_board_found_triangles C T ds μ Φ) : ds.length = 2 := by
  obtain ⟨_, _, _, _, _, _, _, _, _, _, rfl, _⟩ := h
  rfl
/-- the triangles that a gate begins -/
def triF (sp : List Pt) (pins : List Int) (gates : List Pt) (g : Pt) : List (Int × Int × Int) :=
  ((pins.filter fun r => decide (g.2 < r) && (decide ((g.1, r) ∈ gates) && decide ((g.2, r) ∈ gates))).map fun r => (g.1, g.2, r)).filter (emptyT sp pins)
theorem pins_gates {w h lv : Int} {rows : List R4} {g : Pt} (hg : g ∈ gOf w h rows lv) : g ∈ pairsOf (pinsOf rows lv) := by
  have h1 : g ∈ foundG (spots w h rows) (pinsOf rows lv) (srtG (spots w h rows) (pairsOf (pinsOf rows lv))) := List.mem_mergeSort.mp hg
  exact srt_mem.mp (foundG_sub _ _ h1).1
theorem ok_board_found_triangles {f : Addr} {fd : FuncData} (F : Fun K "found_triangles" "Board.found_triangles" s_board_found_triangles f fd) (B : Bs mg) {T_g : Addr} {C_Board : Addr} (K_Board : Cl_Board K C_Board) (G_board_gates : Mth P w K mg base C_Board "gates" ["self", "layer"] 7 (spX K (xn mg) (P_board_gates C_Board T_g))) (G_board_is_empty : Mth P w K mg base C_Board "is_empty" ["self", "corners", "pins"] 4 (spI K (P_board_is_empty C_Board))) (G_board_pins_on : Mth P w K mg base C_Board "pins_on" ["self", "layer"] 5 (spX K (xn mg) (P_board_pins_on C_Board))) : FnOk P w K mg base CX0 8 f fd ["self", "layer"] (spI K (P_board_found_triangles C_Board T_g)) := by
  refine F.ok sc_board_found_triangles (fun vs H Q E h => spI_len h (len_board_found_triangles C_Board T_g)) (fun cdv A outer s H vs Q E hr h => ?_)
  have hu65 := hu65_of hr
  refine ⟨_, (pss_cons (ps_par (i := 2) (j := 3) rfl sc_board_found_triangles.nd rfl rfl (by decide) rfl rfl (pa_cons (pe_mthN G_board_gates (hr.mono (by decide)) (pv 0) (pa_cons (pv 1) pa_nil)) (pa_cons (pe_mthN G_board_pins_on (hr.mono (by decide)) (pv 0) (pa_cons (pv 1) pa_nil)) pa_nil)) (by rfl))
      (pss_cons (ps_set (i := 4) sc_board_found_triangles.nd rfl (by first | exact Or.inl rfl | exact Or.inr rfl) (L2.DCT.pe_dcT (own := [("gate", 9)]) (g := gName 9) (tt := tYes) (hu_of hr) rfl sc_board_found_triangles.nd (pi_tupK (K := K) rfl (pv 2)) (blkOk_by (own := [("gate", 9)]) (N := N_board_found_triangles) (sc := defScope s_board_found_triangles) (by decide +kernel)) (fun _ _ _ _ _ => (pg_name (i := 9) sc_board_found_triangles.nd rfl (by first | exact Or.inl rfl | exact Or.inr rfl))) (fun _ _ _ _ _ => pts_nil) (fun _ _ _ _ _ => (pv 9)) (fun _ _ _ _ _ => pe_bl)))
      (pss_cons (ps_set (i := 5) sc_board_found_triangles.nd rfl (by first | exact Or.inl rfl | exact Or.inr rfl) (pe_lst pa_nil))
      (pss_cons (ps_for PassesOwn.never rfl (pi_tupK (K := K) rfl (pv 2)) (pg_tup (by rfl) (pgs_cons (pg_name (i := 6) sc_board_found_triangles.nd rfl (by first | exact Or.inl rfl | exact Or.inr rfl)) (pgs_cons (pg_name (i := 7) sc_board_found_triangles.nd rfl (by first | exact Or.inl rfl | exact Or.inr rfl)) pgs_nil)))
      (pss_one (ps_for PassesOwn.never rfl (pi_listK (K := K) rfl (pe_lc (own := [("pin", 10)]) (g := gName 10)  rfl sc_board_found_triangles.nd (pi_tupK (K := K) rfl (pv 3)) (blkOk_by (own := [("pin", 10)]) (N := N_board_found_triangles) (sc := defScope s_board_found_triangles) (by decide +kernel)) (fun _ _ _ _ _ => (pg_name (i := 10) sc_board_found_triangles.nd rfl (by first | exact Or.inl rfl | exact Or.inr rfl))) (fun _ _ _ _ _ => (pts_one (PW.pt (pw_and (pt_cmpR op_lt (pv 7) (pv 10) (by first | exact nomark _ | rfl)) (pw_and (pt_cmp (pc_din (hu_of hr) (pe_tup (pa_cons (pv 6) (pa_cons (pv 10) pa_nil))) (pv 4))) (pw_and1 (pt_cmp (pc_din (hu_of hr) (pe_tup (pa_cons (pv 7) (pa_cons (pv 10) pa_nil))) (pv 4))))))))) (fun _ _ _ _ _ => (pv 10)))) (pg_name (i := 8) sc_board_found_triangles.nd rfl (by first | exact Or.inl rfl | exact Or.inr rfl))
      (pss_one (ps_if (pt_val (pe_mthN G_board_is_empty (hr.mono (by decide)) (pv 0) (pa_cons (pe_tup (pa_cons (pv 6) (pa_cons (pv 7) (pa_cons (pv 8) pa_nil)))) (pa_cons (pv 3) pa_nil)))) (pss_one (ps_expr (pe_bm PySem.F.plainAttrs_list PySem.F.slot_list_append PySem.F.type_list_append mt_append (pv 5) (pa_cons (pe_tup (pa_cons (pv 6) (pa_cons (pv 7) (pa_cons (pv 8) pa_nil)))) pa_nil)))) pss_nil)))))
      (pss_one (ps_ret (pe_callTy (call_tupleK (K := K) rfl) (by rfl) B.b_tuple (by decide +kernel) (pa_cons (pv 5) pa_nil)))))))), body_ok h (fun ds μ Φ p => ?_)⟩
  (try dsimp only [cxOf, Cx.nox, Cx.wish, List.map_cons, List.map_nil])
  obtain ⟨b, lv, w, h, rows, l, s, sp, kg, kt, rfl, BR, OK, l0, l1, hT, qy⟩ := p
  obtain ⟨dx, gl, tl, lvs, hb, hsp, hkg, hkt⟩ := id BR
  show AS K _ [some _, some _, none, none, none, none, none, none, none, none, none] _ _
  walk_at "go"
  refine ⟨b, dx, _, rfl, hb, rfl, ?_⟩
  walk_at "go"
  refine ⟨b, _, w, h, rows, l, s, sp, kg, kt, rfl, BR, OK, kd_int, hT, fun lv2 μ1 e _ _ s2 ek BR1 => ?_, fun z => ?_⟩
  rotate_left
  · rw [wi_lv l0 l1] at z
    cases z
  cases e
  obtain ⟨dx1, gl1, tl1, lvs1, hb1, hsp1, hkg1, hkt1⟩ := id BR1
  walk_at "go"
  refine ⟨b, dx1, _, rfl, hb1, rfl, ?_⟩
  walk_at "go"
  refine ⟨b, _, w, h, rows, l, s, sp, kg, kt, rfl, BR1, OK, kd_int, fun lv2 e _ _ => ?_, fun z => by rw [wi_lv l0 l1] at z; cases z⟩
  cases e
  walk_at "go"
  have gle := gOf_len OK lv
  refine a_dcT (ai_T ?_)
  walk_at "go"
  refine ⟨fun i acc μ' => μ' = μ1 ∧ acc.length ≤ i ∧ ∀ x y : Int, (valD acc [.inl x, .inl y]).isSome = decide ((x, y) ∈ (gOf w h rows lv).take i), ⟨rfl, Nat.zero_le _, fun x y => rfl⟩, ?_, ?_⟩
  · rintro i x acc μ' hx ⟨rfl, hl, hm⟩
    rw [List.getElem?_map] at hx
    obtain ⟨g, hg, rfl⟩ := Option.map_eq_some_iff.mp hx
    have hi := (List.getElem?_eq_some_iff.mp hg).1
    refine at_yes ?_
    rw [if_pos rfl]
    walk_at "nf"
    walk_at "go"
    refine ⟨[.inl g.1, .inl g.2], rfl, ?_, rfl, ?_, fun x y => ?_⟩
    · have := sizeLine_eq
      omega
    · exact Nat.le_trans (put_len _ _ _) (by omega)
    · rw [put_has, hm, List.take_add_one, hg, Bool.eq_iff_iff]
      simp [Prod.ext_iff]
  rintro acc μ' ⟨rfl, hl, hm⟩ kd hkd
  rw [List.length_map, List.take_length] at hm
  rw [List.length_map] at hl
  walk_at "go"
  intro lf hlf
  have nfk : lf ≠ kd := none_ne hlf
  have sub0 : Sub μ' (((id μ').set kd (.dT acc)).set lf (.lst [])) := sub_new (sub_new Sub.refl hkd) hlf
  have hlf3 : (((id μ').set kd (.dT acc)).set lf (.lst [])) lf = some (.lst []) := set_same
  have hkd3 : (((id μ').set kd (.dT acc)).set lf (.lst [])) kd = some (.dT acc) := by rw [set_ne (Ne.symm nfk)]; exact set_same
  have hlf' : μ' lf = none := none_back hlf
  generalize (((id μ').set kd (.dT acc)).set lf (.lst [])) = μ3 at sub0 hlf3 hkd3 ⊢
  have hpins := pins_ok OK lv
  walk_at "go"
  refine s_forT ?_
  walk_at "go"
  refine ⟨fun i τ' μ4 => ∃ o6 o7 o8 o9 o10 : Option D, SubB lf μ3 μ4 ∧ μ4 lf = some (.lst ((((gOf w h rows lv).take i).flatMap (triF (spots w h rows) (pinsOf rows lv) (gOf w h rows lv))).map encT)) ∧
    τ' = [some (.ref b), some (.int lv), some (gatesD w h rows lv), some (.tup ((pinsOf rows lv).map D.int)), some (.ref kd), some (.ref lf), o6, o7, o8, o9, o10], _, rfl, ?_, ?_, ?_⟩
  · exact ⟨_, _, _, _, _, sb_refl, hlf3, rfl⟩
  · rintro i x τ' μ4 hx ⟨o6, o7, o8, o9, o10, sb, hf, rfl⟩
    rw [List.getElem?_map] at hx
    obtain ⟨g, hg, rfl⟩ := Option.map_eq_some_iff.mp hx
    have hgm := List.mem_of_getElem? hg
    obtain ⟨g1, g2, _⟩ := mem_pairs.mp (show (g.1, g.2) ∈ pairsOf (pinsOf rows lv) from pins_gates hgm)
    have hkd4 := sb kd _ (Ne.symm nfk) hkd3
    walk_at "go"
    refine s_forK ?_
    refine a_lc1 id (fun d => decide (g.2 < ofI d) && (decide ((g.1, ofI d) ∈ gOf w h rows lv) && decide ((g.2, ofI d) ∈ gOf w h rows lv))) (ai_T ?_)
    walk_at "go"
    refine ⟨?_, fun x hx => ?_, fun x hx _ => ?_, fun l2 hl2 => ?_⟩
    · have := hpins.1
      have := sizeLine_eq
      rw [List.length_map]
      omega
    · obtain ⟨r, hr, rfl⟩ := List.mem_map.mp hx
      walk_at "nf"
      walk_at "go"
      refine ite_d (fun k1 => ?_) (fun k1 => ?_)
      rotate_left
      · walk_at "go"
        exact ⟨by simp [ofI, k1], rfl⟩
      walk_at "go"
      refine a_din ?_
      walk_at "go"
      refine ⟨kd, _, rfl, .inr (.inl ⟨acc, [.inl g.1, .inl r], hkd4, rfl, rfl⟩), ?_⟩
      rw [hm]
      refine ⟨_, rfl, ?_⟩
      refine ite_d (fun k2 => ?_) (fun k2 => ?_)
      rotate_left
      · exact ⟨by simp [ofI, k2], rfl⟩
      walk_at "go"
      refine a_din ?_
      walk_at "go"
      refine ⟨kd, _, rfl, .inr (.inl ⟨acc, [.inl g.2, .inl r], hkd4, rfl, rfl⟩), ?_⟩
      rw [hm]
      exact ⟨_, rfl, (by simp [ofI, k1, k2]; exact decide_eq_decide.mpr Iff.rfl), rfl⟩
    · walk_at "nf"
      walk_at "go"
      exact ⟨rfl, rfl⟩
    rw [List.map_id]
    have e1 : ((pinsOf rows lv).map D.int).filter (fun d => decide (g.2 < ofI d) && (decide ((g.1, ofI d) ∈ gOf w h rows lv) && decide ((g.2, ofI d) ∈ gOf w h rows lv))) = ((pinsOf rows lv).filter fun r => decide (g.2 < r) && (decide ((g.1, r) ∈ gOf w h rows lv) && decide ((g.2, r) ∈ gOf w h rows lv))).map D.int :=
      filter_int (fun r => decide (g.2 < r) && (decide ((g.1, r) ∈ gOf w h rows lv) && decide ((g.2, r) ∈ gOf w h rows lv))) _
    rw [e1]
    have hrl := List.length_filter_le (fun r => decide (g.2 < r) && (decide ((g.1, r) ∈ gOf w h rows lv) && decide ((g.2, r) ∈ gOf w h rows lv))) (pinsOf rows lv)
    have hrm : ∀ r ∈ (pinsOf rows lv).filter fun r => decide (g.2 < r) && (decide ((g.1, r) ∈ gOf w h rows lv) && decide ((g.2, r) ∈ gOf w h rows lv)), r ∈ pinsOf rows lv := fun r hr => (List.mem_filter.mp hr).1
    have eF : triF (spots w h rows) (pinsOf rows lv) (gOf w h rows lv) g = (((pinsOf rows lv).filter fun r => decide (g.2 < r) && (decide ((g.1, r) ∈ gOf w h rows lv) && decide ((g.2, r) ∈ gOf w h rows lv))).map fun r => (g.1, g.2, r)).filter (emptyT (spots w h rows) (pinsOf rows lv)) := rfl
    generalize ((pinsOf rows lv).filter fun r => decide (g.2 < r) && (decide ((g.1, r) ∈ gOf w h rows lv) && decide ((g.2, r) ∈ gOf w h rows lv))) = rs at hrl hrm eF ⊢
    have hl2' : μ4 l2 = none := hl2
    have n2f : l2 ≠ lf := ne_of_some hl2' hf
    have bnd : (((gOf w h rows lv).take i).flatMap (triF (spots w h rows) (pinsOf rows lv) (gOf w h rows lv))).length ≤ 20 * 400 := by
      have h1 := flat_le (F := triF (spots w h rows) (pinsOf rows lv) (gOf w h rows lv)) (n := 20) (fun g => by
        have h1 := List.length_filter_le (emptyT (spots w h rows) (pinsOf rows lv)) (((pinsOf rows lv).filter fun r => decide (g.2 < r) && (decide ((g.1, r) ∈ gOf w h rows lv) && decide ((g.2, r) ∈ gOf w h rows lv))).map fun r => (g.1, g.2, r))
        have h2 := List.length_filter_le (fun r => decide (g.2 < r) && (decide ((g.1, r) ∈ gOf w h rows lv) && decide ((g.2, r) ∈ gOf w h rows lv))) (pinsOf rows lv)
        have h3 := hpins.1
        rw [List.length_map] at h1
        unfold triF
        omega) ((gOf w h rows lv).take i)
      rw [List.length_take] at h1
      omega
    refine ⟨l2, rs.map D.int, fun j τ2 μ2 => ∃ o8 : Option D, SubB lf (μ4.set l2 (.lst (rs.map D.int))) μ2 ∧ μ2 lf = some (.lst ((((gOf w h rows lv).take i).flatMap (triF (spots w h rows) (pinsOf rows lv) (gOf w h rows lv)) ++ ((rs.take j).map fun r => (g.1, g.2, r)).filter (emptyT (spots w h rows) (pinsOf rows lv))).map encT)) ∧
      τ2 = [some (.ref b), some (.int lv), some (gatesD w h rows lv), some (.tup ((pinsOf rows lv).map D.int)), some (.ref kd), some (.ref lf), some (.int g.1), some (.int g.2), o8, o9, o10], rfl, ?_, ?_, ?_, ?_⟩
    · exact ⟨_, sb_refl, by rw [set_ne (Ne.symm n2f)]; simpa using hf, rfl⟩
    · rintro j τ2 μ2 ⟨_, sb2, _, _⟩
      exact sb2 l2 _ n2f set_same
    · rintro j y τ2 μ2 hy ⟨o8', sb2, hf2, rfl⟩
      rw [List.getElem?_map] at hy
      obtain ⟨r, hr, rfl⟩ := Option.map_eq_some_iff.mp hy
      have hrp := hrm r (List.mem_of_getElem? hr)
      have hj := (List.getElem?_eq_some_iff.mp hr).1
      have sb3 : SubB lf μ3 μ2 := sb_trans (sb_new sb hl2') sb2
      have BR2 : Brd C_Board μ2 b w h rows l s sp kg kt := BR1.sub fun a m ea => sb3 a m (fun z => by rw [z, hlf'] at ea; cases ea) (sub0 a m ea)
      have ej : (rs.take (j + 1)) = rs.take j ++ [r] := by rw [List.take_add_one, hr]; rfl
      obtain ⟨dx2, gl2, tl2, _, hb2, _⟩ := id BR2
      walk_at "go"
      refine ⟨b, dx2, _, rfl, hb2, rfl, ?_⟩
      walk_at "go"
      refine ⟨b, w, h, rows, l, s, sp, kg, kt, (g.1, g.2, r), pinsOf rows lv, rfl, BR2, OK, hpins.2 _ g1, hpins.2 _ g2, hpins.2 _ hrp, hpins, ?_⟩
      refine ⟨_, rfl, ?_⟩
      cases et : emptyT (spots w h rows) (pinsOf rows lv) (g.1, g.2, r)
      · simp only [Bool.false_eq_true, if_false]
        walk_at "go"
        refine ⟨_, sb2, ?_, rfl⟩
        have e9 : ((rs.take j ++ [r]).map fun r => (g.1, g.2, r)).filter (emptyT (spots w h rows) (pinsOf rows lv)) = ((rs.take j).map fun r => (g.1, g.2, r)).filter (emptyT (spots w h rows) (pinsOf rows lv)) := by
          rw [List.map_append, List.filter_append]
          simp [et]
        rw [hf2, ej, e9]
      · simp only [if_true]
        walk_at "go"
        refine m_append (a := lf) (ds := (((gOf w h rows lv).take i).flatMap (triF (spots w h rows) (pinsOf rows lv) (gOf w h rows lv)) ++ ((rs.take j).map fun r => (g.1, g.2, r)).filter (emptyT (spots w h rows) (pinsOf rows lv))).map encT) ?_
        walk_at "go"
        refine ⟨rfl, ⟨_, hf2⟩, ?_⟩
        walk_at "go"
        refine ⟨hf2, ?_, _, sb_self sb2, ?_, rfl⟩
        · have h1 := List.length_filter_le (emptyT (spots w h rows) (pinsOf rows lv)) ((rs.take j).map fun r => (g.1, g.2, r))
          have h3 := hpins.1
          have := sizeLine_eq
          rw [List.length_map, List.length_take] at h1
          rw [List.length_map, List.length_append]
          omega
        · have e9 : ((rs.take j ++ [r]).map fun r => (g.1, g.2, r)).filter (emptyT (spots w h rows) (pinsOf rows lv)) = ((rs.take j).map fun r => (g.1, g.2, r)).filter (emptyT (spots w h rows) (pinsOf rows lv)) ++ [(g.1, g.2, r)] := by
            rw [List.map_append, List.filter_append]
            simp [et]
          rw [set_same, ej, e9]
          simp only [List.map_append, List.append_assoc, List.map_cons, List.map_nil]
    · rintro τ2 μ2 ⟨o8', sb2, hf2, rfl⟩
      rw [List.length_map, List.take_length] at hf2
      refine ⟨_, _, _, _, _, sb_trans (sb_new sb hl2') sb2, ?_, rfl⟩
      rw [hf2, List.take_add_one, hg, List.flatMap_append, ← eF]
      simp
  rintro τ' μ4 ⟨o6, o7, o8, o9, o10, sb, hf, rfl⟩
  rw [List.length_map, List.take_length] at hf
  walk_at "go"
  refine rc_tuple (seq_ref hf) ?_
  have sub4 : Sub μ' μ4 := fun a m ea => sb a m (fun z => by rw [z, hlf'] at ea; cases ea) (sub0 a m ea)
  refine qy μ4 (fun a m n1 n2 e => sub4 a m (s2 a m n1 n2 e)) ?_ (BR1.sub sub4)
  rw [sub4 _ _ hkt1, ← ek, hkt1]
def P_board_triangles (C T : Addr) : PT4 := fun ds μ Φ Ξ => ∃ b d w h rows l s sp kg kt, ds = [.ref b, d] ∧ Brd C μ b w h rows l s sp kg kt ∧ BOk w h rows l ∧ Kd μ d ∧ μ T = some (.tab Q_g) ∧
  (∀ lv μ', d = .int lv → 0 ≤ lv → lv < l → Sub2 kg kt μ μ' → Brd C μ' b w h rows l s sp kg kt → Φ (trisD w h rows lv) μ') ∧ (wi d 0 (l - 1) = false → ∀ dx, μ dx = none → Ξ "NoLayer" (some dx) (μ.set dx (.xd [("layer", d)])))
theorem len_board_triangles (C T : Addr) (ds : List D) (μ : M) (Φ : D → M → Prop) (Ξ : XW) (h : P_board_triangles C T ds μ Φ Ξ) : ds.length = 2 := by
  obtain ⟨_, _, _, _, _, _, _, _, _, _, rfl, _⟩ := h
  rfl
theorem ok_board_triangles {f : Addr} {fd : FuncData} (F : Fun K "triangles" "Board.triangles" s_board_triangles f fd) (B : Bs mg) {T_g : Addr} {C_Board : Addr} (K_Board : Cl_Board K C_Board) (G_board_found_triangles : Mth P w K mg base C_Board "found_triangles" ["self", "layer"] 8 (spI K (P_board_found_triangles C_Board T_g))) (G_board_look_layer : Mth P w K mg base C_Board "look_layer" ["self", "number"] 4 (spX K (xn mg) (P_board_look_layer C_Board))) : FnOk P w K mg base (L2.CX P w) 9 f fd ["self", "layer"] (spX K (xn mg) (P_board_triangles C_Board T_g)) := by
  refine F.okX sc_board_triangles (fun vs H Q E h => spX_len h (len_board_triangles C_Board T_g)) (fun cdv A outer s H vs Q E hr h => ?_)
  have hu65 := hu65_of hr
  refine ⟨_, (pss_cons (ps_expr (pe_mthX (takes_of rfl rfl rfl rfl) G_board_look_layer (hr.mono (by decide)) (pv 0) (pa_cons (pv 1) pa_nil)))
      (pss_cons (ps_if (pt_cmp (pc_dnotin (hu_of hr) (pv 1) (pe_fldK (K := K) rfl (pv 0) rfl))) (pss_one (ps_dput (hu_of hr) (pe_fldK (K := K) rfl (pv 0) rfl) (pv 1) (pe_mthN G_board_found_triangles (hr.mono (by decide)) (pv 0) (pa_cons (pv 1) pa_nil)) (by rfl))) pss_nil)
      (pss_one (ps_ret (pe_dget (hu_of hr) (pe_fldK (K := K) rfl (pv 0) rfl) (pv 1) (fun _ _ => rfl)))))), body_okX h (fun ds μ Φ Ξ p => ?_)⟩
  (try dsimp only [cxOf, Cx.nox, Cx.wish, List.map_cons, List.map_nil])
  obtain ⟨b, d, w, h, rows, l, s, sp, kg, kt, rfl, BR, OK, kd, hT, qy, qn⟩ := p
  obtain ⟨dx, gl, tl, lvs, hb, hsp, hkg, hkt⟩ := id BR
  show AS K _ [some _, some _] _ _
  walk_at "go"
  refine ⟨b, dx, _, rfl, hb, rfl, ?_⟩
  walk_at "go"
  refine ⟨b, d, w, h, rows, l, s, sp, kg, kt, rfl, BR, kd, fun h1 => ?_, fun h1 dx2 hdx2 => qn h1 dx2 hdx2⟩
  obtain ⟨lv, rfl, l0, l1⟩ := wi_int h1
  walk_at "go"
  have fin : ∀ (μ' : M) (tl' : List Int), Lvs l tl' → lv ∈ tl' → Sub2 kg kt μ μ' → (∃ dx gl, Lvs l gl ∧ μ' b = some (.ins C_Board dx [("wide", .int w), ("high", .int h), ("pin_rows", .tup (rows.map encR)), ("layer_count", .int l), ("apart_by", .int s), ("spots", .ref sp), ("kept_gates", .ref kg), ("kept_triangles", .ref kt)]) ∧ μ' sp = some (.lst ((spots w h rows).map encS)) ∧ μ' kg = some (.dK (gl.map fun lv => (Sum.inl lv, gatesD w h rows lv)))) → μ' kt = some (.dK (tl'.map fun lv => (Sum.inl lv, trisD w h rows lv))) → AE K (tDGet (tFld K (tVar 0) "kept_triangles") (tVar 1)) [some (.ref b), some (.int lv)] μ' Φ := fun μ' tl' lv' hm s2 ⟨dx', gl', lg, e1, e2, e3⟩ e4 => by
    have BR' : Brd C_Board μ' b w h rows l s sp kg kt := ⟨dx', gl', tl', ⟨lg, lv', lvs.2.2⟩, e1, e2, e3, e4⟩
    refine a_dget (a_fld ?_)
    walk_at "go"
    refine ⟨b, C_Board, dx', _, rfl, e1, K_Board.cls, K_Board.n_kept_triangles, _, rfl, ?_⟩
    walk_at "go"
    exact ⟨kt, _, rfl, .inl ⟨_, .inl lv, e4, rfl, (val_kept hm).symm⟩, qy lv μ' rfl l0 (by omega) s2 BR'⟩
  refine a_dnotin ?_
  walk_at "go"
  refine a_fld ?_
  walk_at "go"
  refine ⟨b, C_Board, dx, _, rfl, hb, K_Board.cls, K_Board.n_kept_triangles, _, rfl, ?_⟩
  refine ⟨kt, _, rfl, .inl ⟨_, .inl lv, hkt, rfl, rfl⟩, ?_⟩
  refine ⟨_, rfl, ?_⟩
  by_cases hm : lv ∈ tl
  · rw [val_kept hm]
    simp only [Option.isSome_some, Bool.not_true, Bool.false_eq_true, if_false]
    walk_at "go"
    exact fin μ tl lvs.2.1 hm s2_refl ⟨dx, gl, lvs.1, hb, hsp, hkg⟩ hkt
  · rw [val_off hm]
    simp only [Option.isSome_none, Bool.not_false, if_true]
    refine s_dput ?_
    walk_at "go"
    refine ⟨b, dx, _, rfl, hb, rfl, ?_⟩
    walk_at "go"
    refine ⟨b, lv, w, h, rows, l, s, sp, kg, kt, rfl, BR, OK, l0, by omega, hT, fun μ1 s2 ek BR1 => ?_⟩
    obtain ⟨dx1, gl1, tl1, lvs1, hb1, hsp1, hkg1, hkt1⟩ := id BR1
    rw [hkt] at ek
    refine a_fld ?_
    walk_at "go"
    refine ⟨b, C_Board, dx1, _, rfl, hb1, K_Board.cls, K_Board.n_kept_triangles, _, rfl, ?_⟩
    walk_at "go"
    have hgl := lvs_len lvs.2.1 OK.l1
    refine .inr ⟨_, .inl lv, ek, rfl, ?_, ?_⟩
    · rw [List.length_map]
      have := sizeLine_eq
      omega
    rw [putKD_new (val_off hm)]
    have d1 : b ≠ kt := fun z => by rw [z, hkt1] at hb1; cases hb1
    have d2 : sp ≠ kt := fun z => by rw [z, hkt1] at hsp1; cases hsp1
    have d3 : kg ≠ kt := lvs.2.2
    refine s_ret (fin _ (tl ++ [lv]) (lvs_snoc lvs.2.1 hm l0 (by omega)) (List.mem_append_right _ (List.mem_singleton.mpr rfl)) (fun a m na nt e => by rw [set_ne nt]; exact s2 a m na nt e) ⟨dx1, gl1, lvs1.1, by rw [set_ne d1]; exact hb1, by rw [set_ne d2]; exact hsp1, by rw [set_ne d3]; exact hkg1⟩ ?_)
    rw [set_same, List.map_append]
    rfl
theorem use_take {μ : M} {Φ : D → M → Prop} {b : Addr} {n c m : Int} (h : μ b = some (.lst [.int c, .int m])) (hm : BgOk m) (hn : 0 < n) (hz : Sz 4000 n) (q : ∀ d c' m', 0 ≤ d → d < n → Sz 4000 d → BgOk m' → Φ (.int d) (μ.set b (.lst [.int c', .int m']))) : P_l_take [.ref b, .int n] μ Φ := ⟨b, n, c, m, rfl, h, hm, hn, hz, q⟩
theorem use_bag {μ : M} {Φ : D → M → Prop} {ns : List Int} {k : Int} (h0 : 0 ≤ k) (h1 : k ≤ 1000) (q : ∀ p c m, μ p = none → BgOk m → Φ (.ref p) (μ.set p (.lst [.int c, .int m]))) : P_l_bag [.rol (ns.map D.int), .int k] μ Φ := ⟨ns, k, rfl, h0, h1, q⟩
theorem prime8 {k : Int} (h0 : 0 ≤ k) (h1 : k < 8) : ∃ p : Int, atI [D.int 2147483629, D.int 2147483587, D.int 2147483579, D.int 2147483563, D.int 2147483549, D.int 2147483543, D.int 2147483497, D.int 2147483489] k = some (.int p) ∧ 0 < p ∧ p < 2147483648 := by
  have h : k = 0 ∨ k = 1 ∨ k = 2 ∨ k = 3 ∨ k = 4 ∨ k = 5 ∨ k = 6 ∨ k = 7 := by omega
  rcases h with h | h | h | h | h | h | h | h <;> subst h <;> exact ⟨_, rfl, by decide, by decide⟩
theorem ok_l_bag {f : Addr} {fd : FuncData} (F : Fun K "_law_bag" "_law_bag" s_l_bag f fd) (B : Bs mg) : FnOk P w K mg base CX0 2 f fd ["_law_script", "_law_at"] (spI K P_l_bag) := by
  refine F.ok sc_l_bag (fun vs H Q E h => spI_len h len_l_bag) (fun cdv A outer s H vs Q E hr h => ?_)
  have hu65 := hu65_of hr
  refine ⟨_, (pss_cons (ps_set (i := 2) sc_l_bag.nd rfl (by first | exact Or.inl rfl | exact Or.inr rfl) pe_int)
      (pss_cons (ps_if (pt_cmpR op_lt (pv 1) (pe_callB (call_lenK (K := K) rfl) (by rfl) B.b_len (by decide +kernel) (pa_cons (pv 0) pa_nil)) (by first | exact nomark _ | rfl)) (pss_one (ps_set (i := 2) sc_l_bag.nd rfl (by first | exact Or.inl rfl | exact Or.inr rfl) (pe_ix (ix_seqK (K := K) rfl) (pv 0) (pv 1) (fun _ _ => rfl)))) pss_nil)
      (pss_cons (ps_set (i := 3) sc_l_bag.nd rfl (by first | exact Or.inl rfl | exact Or.inr rfl) pe_int)
      (pss_cons (ps_if (pt_cmpR op_ge (pe_callB call_abs (by rfl) B.b_abs (by decide +kernel) (pa_cons (pv 2) pa_nil)) (pe_op op_pow pe_int pe_int) (by first | exact nomark _ | rfl)) (pss_one (ps_set (i := 3) sc_l_bag.nd rfl (by first | exact Or.inl rfl | exact Or.inr rfl) (pe_callB call_abs (by rfl) B.b_abs (by decide +kernel) (pa_cons (pv 2) pa_nil)))) pss_nil)
      (pss_cons (ps_set (i := 4) sc_l_bag.nd rfl (by first | exact Or.inl rfl | exact Or.inr rfl) (pe_lst (pa_cons pe_int (pa_cons pe_int (pa_cons pe_int (pa_cons pe_int (pa_cons pe_int (pa_cons pe_int (pa_cons pe_int (pa_cons pe_int pa_nil))))))))))
      (pss_one (ps_ret (pe_lst (pa_cons (pv 3) (pa_cons (pe_op op_mod (pe_op op_pow (pe_op op_add (pe_op op_add (pe_op op_mod (pv 2) pe_int) (pe_op op_mulW pe_int (pv 1))) pe_int) pe_int) (pe_ix (ix_seqK (K := K) rfl) (pv 4) (pe_op op_mod (pv 1) pe_int) (fun _ _ => rfl))) pa_nil)))))))))), body_okU h (fun ds μ Φ p => ?_)⟩
  (try dsimp only [cxOf, Cx.nox, Cx.wish, List.map_cons, List.map_nil])
  obtain ⟨ns, k, rfl, h0, h1, q⟩ := p
  show AS K _ [some _, some _, none, none, none] _ _
  have sk : Sz 31 k := by unfold Sz; omega
  walk_at "go"
  refine if_cut (fun τ' μ' => μ' = μ ∧ ∃ c : Int, τ' = [some (.rol (ns.map D.int)), some (.int k), some (.int c), none, none]) (fun h => ?_) (fun h => ?_) ?_
  · obtain ⟨z, hz⟩ := map_get (ns := ns) h0 (by simpa using h)
    walk_at "go"
    refine ro_ix rfl hz ?_
    walk_at "go"
    exact ⟨by trivial, _, rfl⟩
  · walk_at "go"
    exact ⟨by trivial, _, rfl⟩
  rintro τ' μ' ⟨rfl, c, rfl⟩
  walk_at "go"
  refine if_cut (fun τ' μ2 => μ2 = μ' ∧ ∃ g : Int, τ' = [some (.rol (ns.map D.int)), some (.int k), some (.int c), some (.int g), none]) (fun h => ?_) (fun h => ?_) ?_
  · walk_at "go"
    exact ⟨by trivial, _, rfl⟩
  · walk_at "go"
    exact ⟨by trivial, _, rfl⟩
  rintro τ' μ2 ⟨rfl, g, rfl⟩
  walk_at "go"
  intro l hl
  obtain ⟨pr, hp, p0, p1⟩ := prime8 (k := k % 8) (Int.emod_nonneg _ (by decide)) (Int.emod_lt_of_pos _ (by decide))
  have hb : (c % 2147483647 + 104729 * k + 7).natAbs < 2 ^ 64 := by
    have := Int.emod_nonneg c (by decide : (2147483647 : Int) ≠ 0)
    have := Int.emod_lt_of_pos c (by decide : (0 : Int) < 2147483647)
    omega
  have cp : CPow (c % 2147483647 + 104729 * k + 7) 5 := ⟨by decide, by decide, hb⟩
  walk_at "go"
  refine ro_ix (seq_ref (by walk_at "mu")) hp ?_
  walk_at "go"
  intro r hr
  have hr' := none_back hr
  refine up_of (sb_sub (sb_new sb_refl hl)) (q r _ _ hr' ⟨Int.emod_nonneg _ (by omega), ?_⟩)
  have := Int.emod_lt_of_pos ((c % 2147483647 + 104729 * k + 7) ^ 5) p0
  omega
theorem ok_l_take {f : Addr} {fd : FuncData} (F : Fun K "_law_take" "_law_take" s_l_take f fd) (B : Bs mg) : FnOk P w K mg base CX0 1 f fd ["_law_bag_here", "_law_many"] (spI K P_l_take) := by
  refine F.ok sc_l_take (fun vs H Q E h => spI_len h len_l_take) (fun cdv A outer s H vs Q E hr h => ?_)
  have hu65 := hu65_of hr
  refine ⟨_, (pss_cons (ps_if (pt_cmpR op_gt (pe_ix (ix_seqK (K := K) rfl) (pv 0) pe_int (fun _ _ => rfl)) pe_int (by first | exact nomark _ | rfl)) (pss_cons (ps_set (i := 2) sc_l_take.nd rfl (by first | exact Or.inl rfl | exact Or.inr rfl) (pe_op op_mod (pe_ix (ix_seqK (K := K) rfl) (pv 0) pe_int (fun _ _ => rfl)) (pv 1)))
      (pss_cons (ps_asg (pe_op op_fdivW (pe_ix (ix_seqK (K := K) rfl) (pv 0) pe_int (fun _ _ => rfl)) (pv 1)) (pg_sub (pv 0) pe_int set_list))
      (pss_one (ps_ret (pv 2))))) pss_nil)
      (pss_cons (ps_asg (pe_op op_mod (pe_op op_add (pe_op op_mulW (pe_ix (ix_seqK (K := K) rfl) (pv 0) pe_int (fun _ _ => rfl)) pe_int) pe_int) pe_int) (pg_sub (pv 0) pe_int set_list))
      (pss_one (ps_ret (pe_op op_mod (pe_op op_mod (pe_op op_pow (pe_op op_fdivW (pe_ix (ix_seqK (K := K) rfl) (pv 0) pe_int (fun _ _ => rfl)) pe_int) pe_int) pe_int) (pv 1)))))), body_ok h (fun ds μ Φ p => ?_)⟩
  (try dsimp only [cxOf, Cx.nox, Cx.wish, List.map_cons, List.map_nil])
  obtain ⟨b, n, c, m, rfl, hb, hm, hn, hz, q⟩ := p
  show AS K _ [some _, some _, none] _ _
  have sm : Sz 31 m := by unfold Sz; have := hm.1; have := hm.2; omega
  walk_at "go"
  refine ite_d (fun h => ?_) (fun h => ?_)
  · walk_at "go"
    exact q _ _ _ (Int.emod_nonneg _ (by omega)) (Int.emod_lt_of_pos _ hn) (sz_mod hn hz) hm
  · walk_at "go"
    exact q _ _ _ (Int.emod_nonneg _ (by omega)) (Int.emod_lt_of_pos _ hn) (sz_mod hn hz) ⟨Int.emod_nonneg _ (by decide), by have := Int.emod_lt_of_pos (m * 48271 + 11) (show (0 : Int) < 2147483647 by decide); omega⟩
/-- what a law has drawn for a board -/
structure Made (w h : Int) (rows : List R4) (fl gap : Int) : Prop where
  ok : ab (.int w) (.int h) (.tup (rows.map encR)) (.int fl) (.int gap) = true
  w1 : w ≤ 900000
  h1 : h ≤ 900000
/-- the rows so far -/
structure Rws (w h fl : Int) (rows : List R4) : Prop where
  ok : ∀ r ∈ rows, (0 < r.1 ∧ r.1 < w) ∧ (0 < r.2.1 ∧ r.2.1 < h) ∧ 0 ≤ r.2.2.1 ∧ r.2.2.1 ≤ r.2.2.2 ∧ r.2.2.2 < fl
  nd : (rows.map fun r => [r.1, r.2.1]).Nodup
theorem Rws.more {w h fl : Int} {rows : List R4} {x y f g : Int} (a : Rws w h fl rows) (n : [x, y] ∉ rows.map (fun r => [r.1, r.2.1])) (hx : 0 < x ∧ x < w) (hy : 0 < y ∧ y < h) (h0 : 0 ≤ f) (h1 : f ≤ g) (h2 : g < fl) : Rws w h fl (rows ++ [(x, y, f, g)]) := by
  refine ⟨fun r hr => ?_, ?_⟩
  · rcases List.mem_append.mp hr with z | z
    · exact a.ok r z
    · rw [List.mem_singleton.mp z]; exact ⟨hx, hy, h0, h1, h2⟩
  · rw [List.map_append, List.nodup_append]
    refine ⟨a.nd, by simp, fun k hk j hj e => ?_⟩
    simp at hj
    subst hj e
    exact n hk
theorem Rws.made {w h fl gap : Int} {rows : List R4} (a : Rws w h fl rows) (hl : rows.length ≤ 16) (w0 : 2 ≤ w) (w1 : w ≤ 900000) (h0 : 2 ≤ h) (h1 : h ≤ 900000) (f0 : 1 ≤ fl) (f1 : fl ≤ 3) (g0 : 1 ≤ gap) (g1 : gap ≤ 1000000) : Made w h rows fl gap := by
  refine ⟨?_, w1, h1⟩
  have e1 : ((rows.map encR).all fun r => pr r w h fl) = true := by
    rw [List.all_eq_true]
    intro d hd
    obtain ⟨r, hr, rfl⟩ := List.mem_map.mp hd
    obtain ⟨k1, k2, k3, k4, k5⟩ := a.ok r hr
    simp [pr, k1, k2, k3, k4, k5]
  have e2 : ((rows.map encR).map spot).Nodup := by
    rw [List.map_map]
    exact a.nd
  have z1 : w ≤ 1000000 := by omega
  have z2 : h ≤ 1000000 := by omega
  simp only [ab, wi, e1, e2, w0, z1, h0, z2, f0, f1, g0, g1, List.length_map, hl, decide_true, Bool.and_true]
abbrev mdD (w h : Int) (rows : List R4) (fl gap : Int) : D := .tup [.int w, .int h, .tup (rows.map encR), .int fl, .int gap]
def P_l_made_of : PT3 := fun ds μ Φ => ∃ (b : Addr) (most c m : Int), ds = [.ref b, .int most] ∧ μ b = some (.lst [.int c, .int m]) ∧ BgOk m ∧ 0 ≤ most ∧ most ≤ 16 ∧ ∀ w h rows fl gap c' m', Made w h rows fl gap → BgOk m' →
  Φ (mdD w h rows fl gap) (μ.set b (.lst [.int c', .int m']))
theorem len_l_made_of (ds : List D) (μ : M) (Φ : D → M → Prop) (h : P_l_made_of ds μ Φ) : ds.length = 2 := by
  obtain ⟨_, _, _, _, rfl, _⟩ := h
  rfl
theorem use_made {μ : M} {Φ : D → M → Prop} {b : Addr} {most c m : Int} (h : μ b = some (.lst [.int c, .int m])) (hm : BgOk m) (h0 : 0 ≤ most) (h1 : most ≤ 16) (q : ∀ w h rows fl gap c' m', Made w h rows fl gap → BgOk m' → Φ (mdD w h rows fl gap) (μ.set b (.lst [.int c', .int m']))) :
    P_l_made_of [.ref b, .int most] μ Φ := ⟨b, most, c, m, rfl, h, hm, h0, h1, q⟩
theorem pick4 {d a1 a2 a3 a4 : Int} (h0 : 0 ≤ d) (h1 : d < 4) : ∃ z : Int, atI [D.int a1, D.int a2, D.int a3, D.int a4] d = some (.int z) ∧ (z = a1 ∨ z = a2 ∨ z = a3 ∨ z = a4) := by
  have h : d = 0 ∨ d = 1 ∨ d = 2 ∨ d = 3 := by omega
  rcases h with h | h | h | h <;> subst h
  · exact ⟨a1, rfl, .inl rfl⟩
  · exact ⟨a2, rfl, .inr (.inl rfl)⟩
  · exact ⟨a3, rfl, .inr (.inr (.inl rfl))⟩
  · exact ⟨a4, rfl, .inr (.inr (.inr rfl))⟩
theorem inD_pts {rows : List R4} {x y : Int} : inD (pt x y) (rows.map fun r => pt r.1 r.2.1) = decide ([x, y] ∈ rows.map fun r => [r.1, r.2.1]) := by
  rw [Bool.eq_iff_iff, decide_eq_true_eq, inD]
  rw [List.any_eq_true]
  constructor
  · rintro ⟨z, h1, h2⟩
    obtain ⟨r, hr, rfl⟩ := List.mem_map.mp h1
    have e := (eqv_dec (d := pt r.1 r.2.1) (e := pt x y) rfl rfl).mp h2
    simp [pt] at e
    exact List.mem_map.mpr ⟨r, hr, by simp [e]⟩
  · intro h
    obtain ⟨r, hr, e⟩ := List.mem_map.mp h
    simp at e
    refine ⟨pt r.1 r.2.1, List.mem_map.mpr ⟨r, hr, rfl⟩, ?_⟩
    rw [e.1, e.2]
    exact (eqv_dec rfl rfl).mpr rfl
/-- between the turns -/
def MoT (b pd md : Addr) (μ0 : M) (W H fl : Int) (pre : T) (k : Nat) : T → M → Prop := fun τ' μ' => ∃ (rows : List R4) (c m : Int) (o8 o9 o10 o11 : Option D), μ' b = some (.lst [.int c, .int m]) ∧ BgOk m ∧ μ' pd = some (.lst (rows.map encR)) ∧ μ' md = some (.lst (rows.map fun r => pt r.1 r.2.1)) ∧ SubB b μ0 μ' ∧ rows.length ≤ k ∧ Rws W H fl rows ∧ τ' = pre ++ [some (.ref pd), some (.ref md), o8, o9, o10, o11]
theorem ok_l_made_of {f : Addr} {fd : FuncData} (F : Fun K "_law_made_of" "_law_made_of" s_l_made_of f fd) (B : Bs mg) (G_l_take : Def P w K mg base "_law_take" ["_law_bag_here", "_law_many"] 1 (spI K P_l_take)) : FnOk P w K mg base CX0 3 f fd ["_law_bag_here", "_law_most"] (spI K P_l_made_of) := by
  refine F.ok sc_l_made_of (fun vs H Q E h => spI_len h len_l_made_of) (fun cdv A outer s H vs Q E hr h => ?_)
  have hu65 := hu65_of hr
  refine ⟨_, (pss_cons (ps_set (i := 2) sc_l_made_of.nd rfl (by first | exact Or.inl rfl | exact Or.inr rfl) (pe_ix (ix_seqK (K := K) rfl) (pe_lst (pa_cons pe_int (pa_cons pe_int (pa_cons pe_int (pa_cons pe_int pa_nil))))) (pe_def G_l_take (hr.mono (by decide)) (by rfl) (pa_cons (pv 0) (pa_cons pe_int pa_nil))) (fun _ _ => rfl)))
      (pss_cons (ps_par (i := 3) (j := 4) rfl sc_l_made_of.nd rfl rfl (by decide) rfl rfl (pa_cons (pe_op op_add pe_int (pe_def G_l_take (hr.mono (by decide)) (by rfl) (pa_cons (pv 0) (pa_cons (pv 2) pa_nil)))) (pa_cons (pe_op op_add pe_int (pe_def G_l_take (hr.mono (by decide)) (by rfl) (pa_cons (pv 0) (pa_cons (pv 2) pa_nil)))) pa_nil)) (by rfl))
      (pss_cons (ps_set (i := 5) sc_l_made_of.nd rfl (by first | exact Or.inl rfl | exact Or.inr rfl) (pe_op op_add pe_int (pe_def G_l_take (hr.mono (by decide)) (by rfl) (pa_cons (pv 0) (pa_cons pe_int pa_nil)))))
      (pss_cons (ps_par (i := 6) (j := 7) rfl sc_l_made_of.nd rfl rfl (by decide) rfl rfl (pa_cons (pe_lst pa_nil) (pa_cons (pe_lst pa_nil) pa_nil)) (by rfl))
      (pss_cons (ps_for PassesOwn.never rfl (pi_range1 (by rfl) B.b_range (pa_cons (pe_def G_l_take (hr.mono (by decide)) (by rfl) (pa_cons (pv 0) (pa_cons (pe_op op_add (pv 1) pe_int) pa_nil))) pa_nil)) (pg_name (i := 8) sc_l_made_of.nd rfl (by first | exact Or.inl rfl | exact Or.inr rfl))
      (pss_cons (ps_set (i := 9) sc_l_made_of.nd rfl (by first | exact Or.inl rfl | exact Or.inr rfl) (pe_tup (pa_cons (pe_op op_add pe_int (pe_def G_l_take (hr.mono (by decide)) (by rfl) (pa_cons (pv 0) (pa_cons (pe_op op_sub (pv 3) pe_int) pa_nil)))) (pa_cons (pe_op op_add pe_int (pe_def G_l_take (hr.mono (by decide)) (by rfl) (pa_cons (pv 0) (pa_cons (pe_op op_sub (pv 4) pe_int) pa_nil)))) pa_nil))))
      (pss_cons (ps_set (i := 10) sc_l_made_of.nd rfl (by first | exact Or.inl rfl | exact Or.inr rfl) (pe_def G_l_take (hr.mono (by decide)) (by rfl) (pa_cons (pv 0) (pa_cons (pv 5) pa_nil))))
      (pss_cons (ps_set (i := 11) sc_l_made_of.nd rfl (by first | exact Or.inl rfl | exact Or.inr rfl) (pe_op op_add (pv 10) (pe_def G_l_take (hr.mono (by decide)) (by rfl) (pa_cons (pv 0) (pa_cons (pe_op op_sub (pv 5) (pv 10)) pa_nil)))))
      (pss_one (ps_if (pt_cmpR (op_notInSK (K := K) rfl hu65) (pv 9) (pv 7) (by first | exact nomark _ | rfl)) (pss_cons (ps_expr (pe_bm PySem.F.plainAttrs_list PySem.F.slot_list_append PySem.F.type_list_append mt_append (pv 7) (pa_cons (pv 9) pa_nil)))
      (pss_one (ps_expr (pe_bm PySem.F.plainAttrs_list PySem.F.slot_list_append PySem.F.type_list_append mt_append (pv 6) (pa_cons (pe_tup (pa_cons (pe_ix (ix_seqK (K := K) rfl) (pv 9) pe_int (fun _ _ => rfl)) (pa_cons (pe_ix (ix_seqK (K := K) rfl) (pv 9) pe_int (fun _ _ => rfl)) (pa_cons (pv 10) (pa_cons (pv 11) pa_nil))))) pa_nil))))) pss_nil))))))
      (pss_one (ps_ret (pe_tup (pa_cons (pv 3) (pa_cons (pv 4) (pa_cons (pe_callTy (call_tupleK (K := K) rfl) (by rfl) B.b_tuple (by decide +kernel) (pa_cons (pv 6) pa_nil)) (pa_cons (pv 5) (pa_cons (pe_op op_add pe_int (pe_def G_l_take (hr.mono (by decide)) (by rfl) (pa_cons (pv 0) (pa_cons (pe_ix (ix_seqK (K := K) rfl) (pe_lst (pa_cons pe_int (pa_cons pe_int (pa_cons pe_int (pa_cons (pv 2) pa_nil))))) (pe_def G_l_take (hr.mono (by decide)) (by rfl) (pa_cons (pv 0) (pa_cons pe_int pa_nil))) (fun _ _ => rfl)) pa_nil)))) pa_nil))))))))))))), body_okU h (fun ds μ Φ p => ?_)⟩
  (try dsimp only [cxOf, Cx.nox, Cx.wish, List.map_cons, List.map_nil])
  obtain ⟨b, most, c, m, rfl, hb, hm, mo0, mo1, q⟩ := p
  show AS K _ [some _, some _, none, none, none, none, none, none, none, none, none, none] _ _
  walk_at "go"
  intro l1 hl1
  have n1 : l1 ≠ b := ne_of_some hl1 hb
  walk_at "go"
  refine use_take (by walk_at "mu") hm (by decide) (by walk_at "szN") fun d1 c1 m1 a1 a2 s1 hm1 => ?_
  obtain ⟨far, k1, kf⟩ := pick4 (a1 := 3) (a2 := 7) (a3 := 40) (a4 := 1000) a1 a2
  have f0 : 3 ≤ far ∧ far ≤ 1000 := by omega
  have zf : Sz 20 far := by unfold Sz; omega
  walk_at "go"
  refine ro_ix (seq_ref (by walk_at "mu")) k1 ?_
  walk_at "go"
  refine use_take (by walk_at "mu") hm1 (by omega) (by walk_at "szN") fun d2 c2 m2 b1 b2 s2 hm2 => ?_
  walk_at "go"
  refine use_take (by walk_at "mu") hm2 (by omega) (by walk_at "szN") fun d3 c3 m3 e1 e2 s3 hm3 => ?_
  walk_at "go"
  rw [set_set, set_set]
  generalize hwd : 2 + d2 = wide
  generalize hhi : 2 + d3 = high
  have w0 : 2 ≤ wide ∧ wide ≤ 1002 := by omega
  have h0 : 2 ≤ high ∧ high ≤ 1002 := by omega
  have zw : Sz 20 wide := by unfold Sz; omega
  have zh : Sz 20 high := by unfold Sz; omega
  refine use_take (by walk_at "mu") hm3 (by decide) (by walk_at "szN") fun d4 c4 m4 g1 g2 s4 hm4 => ?_
  walk_at "go"
  generalize hfl : 1 + d4 = fl
  have fl0 : 1 ≤ fl ∧ fl ≤ 3 := by omega
  have zfl : Sz 20 fl := by unfold Sz; omega
  intro pd hpd
  have hpdb : pd ≠ b := fun z => by rw [z, set_same] at hpd; cases hpd
  walk_at "go"
  intro md hmd
  have hmp : md ≠ pd := none_ne hmd
  have hmb : md ≠ b := fun z => by rw [z, set_ne (Ne.symm hpdb), set_same] at hmd; cases hmd
  have hpn : μ pd = none := none_back (none_back (none_back hpd))
  have hmn : μ md = none := none_back (none_back (none_back (none_back hmd)))
  walk_at "go"
  refine s_for (ai_1 ?_)
  walk_at "go"
  refine use_take (by walk_at "mu") hm4 (by omega) (sz_mono (show Sz 8 (most + 1) by unfold Sz; omega) (by decide)) fun d7 c7 m7 j1 j2 s7 hm7 => ?_
  walk_at "go"
  have d7m : d7 ≤ most := by omega
  refine ⟨by omega, by omega, MoT b pd md μ wide high fl [some (.ref b), some (.int most), some (.int far), some (.int wide), some (.int high), some (.int fl)], ?_, ?_, ?_⟩
  · exact ⟨[], _, _, none, none, none, none, set_same, hm7, by walk_at "mu", by walk_at "mu", sb_self (sb_new (sb_new (sb_self (sb_self (sb_new sb_refl hl1))) hpd) hmd), Nat.zero_le _, ⟨fun r hr => (by cases hr), List.nodup_nil⟩, rfl⟩
  · rintro i it τ' μ' hx ⟨rows, c8, m8, o9, o10, o11, o12, hb8, hm8, hp8, hq8, sb8, hl8, R8, rfl⟩
    have hi : i < d7.toNat := by
      have := (List.getElem?_eq_some_iff.mp hx).1
      simpa using this
    clear hx
    dsimp only [List.cons_append, List.nil_append]
    walk_at "go"
    refine use_take hb8 hm8 (by omega) (by walk_at "szN") fun d8 c9 m9 t1 t2 t3 hm9 => ?_
    walk_at "go"
    refine use_take set_same hm9 (by omega) (by walk_at "szN") fun d9 c10 m10 u1 u2 u3 hm10 => ?_
    walk_at "go"
    refine use_take set_same hm10 (by omega) (by walk_at "szN") fun d10 c11 m11 v1 v2 v3 hm11 => ?_
    have zd10 : Sz 20 d10 := by unfold Sz; omega
    walk_at "go"
    refine use_take set_same hm11 (by omega) (by walk_at "szN") fun d11 c12 m12 x1 x2 x3 hm12 => ?_
    walk_at "go"
    rw [set_set, set_set, set_set]
    have hq9 : (μ'.set b (.lst [.int c12, .int m12])) md = some (.lst (rows.map fun r => pt r.1 r.2.1)) := by walk_at "mu"
    have hp9 : (μ'.set b (.lst [.int c12, .int m12])) pd = some (.lst (rows.map encR)) := by walk_at "mu"
    have hb9 : (μ'.set b (.lst [.int c12, .int m12])) b = some (.lst [.int c12, .int m12]) := set_same
    have sb9 : SubB b μ (μ'.set b (.lst [.int c12, .int m12])) := sb_self sb8
    generalize μ'.set b (.lst [.int c12, .int m12]) = μ9 at hq9 hp9 hb9 sb9 ⊢
    clear hb8 hp8 hq8 sb8
    refine ro_inS (seq_ref hq9) (okn_pt.ok (by decide)) ((okn_tup (n := 1) fun x hx => by
      obtain ⟨r, _, rfl⟩ := List.mem_map.mp hx
      exact okn_pt).ok (by decide)) ?_
    rw [inD_pts]
    refine ⟨_, rfl, ?_⟩
    by_cases hin : [1 + d8, 1 + d9] ∈ rows.map fun r => [r.1, r.2.1]
    · simp only [hin, decide_true, Bool.not_true, Bool.false_eq_true, if_false, if_true]
      walk_at "go"
      exact ⟨rows, _, _, _, _, _, _, hb9, hm12, hp9, hq9, sb9, by omega, R8, rfl⟩
    · simp only [hin, decide_false, Bool.not_false, if_true]
      walk_at "go"
      refine m_append (a := md) (ds := rows.map fun r => pt r.1 r.2.1) ?_
      walk_at "go"
      refine ⟨rfl, ⟨_, hq9⟩, ?_⟩
      walk_at "go"
      refine ⟨hq9, by rw [List.length_map]; have := sizeLine_eq; omega, ?_⟩
      walk_at "go"
      refine m_append (a := pd) (ds := rows.map encR) ?_
      walk_at "go"
      refine ⟨rfl, ⟨_, (set_ne (Ne.symm hmp)).trans hp9⟩, ?_⟩
      walk_at "go"
      refine ⟨(set_ne (Ne.symm hmp)).trans hp9, by rw [List.length_map]; have := sizeLine_eq; omega, ?_⟩
      refine ⟨rows ++ [(1 + d8, 1 + d9, d10, d10 + d11)], c12, m12, _, _, _, _, ?_, hm12, ?_, ?_, sb_own (sb_own sb9 hmn) hpn, ?_, R8.more hin (by omega) (by omega) (by omega) (by omega) (by omega), rfl⟩
      · rw [set_ne (Ne.symm hpdb), set_ne (Ne.symm hmb)]
        exact hb9
      · rw [set_same, List.map_append]
        rfl
      · rw [set_ne hmp, set_same, List.map_append]
        rfl
      · rw [List.length_append]
        simp
        omega
  rintro τ' μ' ⟨rows, c8, m8, o9, o10, o11, o12, hb8, hm8, hp8, hq8, sb8, hl8, R8, rfl⟩
  dsimp only [List.cons_append, List.nil_append]
  walk_at "go"
  refine rc_tuple (seq_ref hp8) ?_
  walk_at "go"
  intro l5 hl5
  have n5b : l5 ≠ b := ne_of_some hl5 hb8
  walk_at "go"
  refine use_take (by walk_at "mu") hm8 (by decide) (by walk_at "szN") fun d9 c9 m9 t1 t2 t3 hm9 => ?_
  obtain ⟨gp, k9, kg⟩ := pick4 (a1 := 1) (a2 := 2) (a3 := 4) (a4 := far) t1 t2
  have gp0 : 1 ≤ gp ∧ gp ≤ 1000 := by omega
  walk_at "go"
  refine ro_ix (seq_ref (by walk_at "mu")) k9 ?_
  walk_at "go"
  refine use_take set_same hm9 (by omega) (sz_mono (show Sz 20 gp by unfold Sz; omega) (by decide)) fun d10 c10 m10 u1 u2 u3 hm10 => ?_
  walk_at "go"
  rw [set_set]
  rw [List.length_map, List.length_range] at hl8
  refine up_of (μ2 := μ.set b (.lst [.int c10, .int m10])) ?_ (q wide high rows fl (1 + d10) c10 m10 (R8.made (by omega) w0.1 (by omega) h0.1 (by omega) fl0.1 fl0.2 (by omega) (by omega)) hm10)
  exact sb_sub (sb_new sb8 hl5)
theorem ab_len {w h fl gap : Int} {rows : List R4} (k : ab (.int w) (.int h) (.tup (rows.map encR)) (.int fl) (.int gap) = true) : rows.length ≤ 16 := by
  simp only [ab, Bool.and_eq_true, decide_eq_true_eq, List.length_map] at k
  exact k.2.1.1
theorem ab_fl {w h p g : D} {fl : Int} (k : ab w h p (.int fl) g = true) : 1 ≤ fl ∧ fl ≤ 3 := by
  simp only [ab, Bool.and_eq_true] at k
  have k2 := k.1.1.2
  simp only [wi, Bool.and_eq_true, decide_eq_true_eq] at k2
  exact k2
theorem ab_in {w h fl gap : Int} {rows : List R4} (k : ab (.int w) (.int h) (.tup (rows.map encR)) (.int fl) (.int gap) = true) (hw : w ≤ 900000) (hh : h ≤ 900000) : ∀ p ∈ spots w h rows, Inn p := by
  simp only [ab, Bool.and_eq_true, decide_eq_true_eq, List.length_map] at k
  obtain ⟨⟨⟨⟨k1, k2⟩, _⟩, _⟩, ⟨_, k5⟩, _⟩ := k
  simp only [wi, Bool.and_eq_true, decide_eq_true_eq] at k1 k2
  intro p hp
  unfold spots at hp
  rcases List.mem_append.mp hp with z | z
  · simp only [List.mem_cons, List.not_mem_nil, or_false] at z
    rcases z with rfl | rfl | rfl | rfl <;> (unfold Inn; dsimp only; omega)
  · obtain ⟨r, hr, rfl⟩ := List.mem_map.mp z
    have h5 := List.all_eq_true.mp k5 _ (List.mem_map.mpr ⟨r, hr, rfl⟩)
    obtain ⟨x, y, f, g, e, a1, a2, _⟩ := pr_int h5
    simp [encR] at e
    unfold Inn
    dsimp only
    omega
theorem bok_of {w h fl gap : Int} {rows : List R4} (k : ab (.int w) (.int h) (.tup (rows.map encR)) (.int fl) (.int gap) = true) (hw : w ≤ 900000) (hh : h ≤ 900000) : BOk w h rows fl :=
  ⟨ab_len k, ab_in k hw hh, (ab_fl k).1, (ab_fl k).2⟩
theorem s2_lst {C : Addr} {μ μ' : M} {bd w h l s : _} {rows : List R4} {sp kg kt a : Addr} {xs : List D} (BR : Brd C μ bd w h rows l s sp kg kt) (s2 : Sub2 kg kt μ μ') (e : μ a = some (.lst xs)) : μ' a = some (.lst xs) := by
  obtain ⟨dx, gl, tl, lvs, hb, hsp, hkg, hkt⟩ := BR
  exact s2 a _ (fun z => by rw [z, hkg] at e; cases e) (fun z => by rw [z, hkt] at e; cases e) e
theorem s2_tab {C : Addr} {μ μ' : M} {bd w h l s : _} {rows : List R4} {sp kg kt a : Addr} {q : Str} (BR : Brd C μ bd w h rows l s sp kg kt) (s2 : Sub2 kg kt μ μ') (e : μ a = some (.tab q)) : μ' a = some (.tab q) := by
  obtain ⟨dx, gl, tl, lvs, hb, hsp, hkg, hkt⟩ := BR
  exact s2 a _ (fun z => by rw [z, hkg] at e; cases e) (fun z => by rw [z, hkt] at e; cases e) e
/-- a list of its own beside a board is changed -/
theorem Brd.beside {C : Addr} {μ μ' : M} {bd b w h l s : _} {rows : List R4} {sp kg kt : Addr} {xs : List D} (BR : Brd C μ bd w h rows l s sp kg kt) (hb : μ b = some (.lst xs)) (nb : b ≠ sp) (sb : SubB b μ μ') : Brd C μ' bd w h rows l s sp kg kt := by
  obtain ⟨dx, gl, tl, lvs, h1, h2, h3, h4⟩ := BR
  refine ⟨dx, gl, tl, lvs, sb bd _ (fun z => ?_) h1, sb sp _ (Ne.symm nb) h2, sb kg _ (fun z => ?_) h3, sb kt _ (fun z => ?_) h4⟩
  · rw [z, hb] at h1; cases h1
  · rw [z, hb] at h3; cases h3
  · rw [z, hb] at h4; cases h4
theorem okn_gates {w h lv : Int} {rows : List R4} : OkN 2 (gatesD w h rows lv) := okn_tup fun x hx => by
  obtain ⟨g, _, rfl⟩ := List.mem_map.mp hx
  exact okn_pt
def P_l_board (C : Addr) : PT3 := fun ds μ Φ => ∃ w h rows fl gap, ds = [.tup [.int w, .int h, .tup (rows.map encR), .int fl, .int gap]] ∧ ab (.int w) (.int h) (.tup (rows.map encR)) (.int fl) (.int gap) = true ∧
  ∀ μ' b sp kg kt, Sub μ μ' → μ b = none → μ sp = none → μ kg = none → μ kt = none → Brd C μ' b w h rows fl gap sp kg kt → Φ (.ref b) μ'
theorem len_l_board (C : Addr) (ds : List D) (μ : M) (Φ : D → M → Prop) (h : P_l_board C ds μ Φ) : ds.length = 1 := by
  obtain ⟨_, _, _, _, _, rfl, _⟩ := h
  rfl
theorem encR_kx {μ : M} (r : R4) : Kx μ (encR r) := ⟨kd_tup, fun xs e => by
  cases e
  refine ⟨by simp, fun x hx => ?_⟩
  simp only [List.mem_cons, List.not_mem_nil, or_false] at hx
  rcases hx with rfl | rfl | rfl | rfl <;> exact kd_int⟩
theorem map_inj {α β : Type} {f : α → β} (hf : ∀ a b, f a = f b → a = b) : ∀ {l m : List α}, l.map f = m.map f → l = m
  | [], [], _ => rfl
  | [], _ :: _, h => by simp at h
  | _ :: _, [], h => by simp at h
  | a :: l, b :: m, h => by
    rw [List.map_cons, List.map_cons, List.cons.injEq] at h
    rw [hf a b h.1, map_inj hf h.2]
theorem encR_inj (a b : R4) (h : encR a = encR b) : a = b := by
  obtain ⟨a1, a2, a3, a4⟩ := a
  obtain ⟨b1, b2, b3, b4⟩ := b
  simp [encR] at h
  simp [h]
theorem ok_l_board {f : Addr} {fd : FuncData} (F : Fun K "_law_board" "_law_board" s_l_board f fd) (B : Bs mg) {C_Board : Addr} (K_Board : Cl_Board K C_Board) (M_Board : MkK P w K mg base "Board" C_Board ["self", "width", "height", "pins", "layers", "spacing"] 3 ["layers", "spacing"] [(true, 0), (true, 1)] [] 6 (spX K (xn mg) (P_board_init C_Board))) : FnOk P w K mg base CX0 8 f fd ["_law_made"] (spI K (P_l_board C_Board)) := by
  refine F.ok sc_l_board (fun vs H Q E h => spI_len h (len_l_board C_Board)) (fun cdv A outer s H vs Q E hr h => ?_)
  have hu65 := hu65_of hr
  refine ⟨_, (pss_one (ps_ret (pe_mkK M_Board (hr.mono (by decide)) (by rfl) (pa_cons (pe_ix (ix_seqK (K := K) rfl) (pv 0) pe_int (fun _ _ => rfl)) (pa_cons (pe_ix (ix_seqK (K := K) rfl) (pv 0) pe_int (fun _ _ => rfl)) (pa_cons (pe_ix (ix_seqK (K := K) rfl) (pv 0) pe_int (fun _ _ => rfl)) pa_nil))) (pk_cons (pe_ix (ix_seqK (K := K) rfl) (pv 0) pe_int (fun _ _ => rfl)) (pk_cons (pe_ix (ix_seqK (K := K) rfl) (pv 0) pe_int (fun _ _ => rfl)) pk_nil))))), body_ok h (fun ds μ Φ p => ?_)⟩
  (try dsimp only [cxOf, Cx.nox, Cx.wish, List.map_cons, List.map_nil])
  obtain ⟨w, h, rows, fl, gap, rfl, hab, q⟩ := p
  show AS K _ [some _] _ _
  walk_at "go"
  refine a_mkK [] (fun _ => .nil) ?_
  walk_at "go"
  refine ⟨rfl, rfl, fun b dx hb => ?_⟩
  refine ⟨b, dx, .int w, .int h, .tup (rows.map encR), .int fl, .int gap, rfl, set_same, kd_int, kd_int, kd_tup, kd_int, kd_int, fun rs e => ?_, fun wn hn rows2 ln sn _ e1 e2 e3 e4 e5 μ' sp kg kt sb h1 h2 h3 B => ?_, fun e => ?_⟩
  · cases e
    obtain ⟨_, _, _, _, rows3, _, _, e3, _, _, hl⟩ := ab_of hab
    refine ⟨?_, fun r hr => ?_⟩
    · simp only [D.tup.injEq] at e3
      rw [e3, List.length_map]
      omega
    · obtain ⟨r, _, rfl⟩ := List.mem_map.mp hr
      exact encR_kx r
  · cases e1; cases e2; cases e4; cases e5
    simp only [D.tup.injEq] at e3
    have e6 := map_inj encR_inj e3
    subst e6
    refine ⟨rfl, q μ' b sp kg kt (fun a m ea => ?_) hb ?_ ?_ ?_ B⟩
    · have na : a ≠ b := fun z => by rw [z, hb] at ea; cases ea
      exact sb a m na (by rw [set_ne na]; exact ea)
    · exact none_back h1
    · exact none_back h2
    · exact none_back h3
  · rw [hab] at e
    cases e
theorem use_gates {C T : Addr} {μ : M} {Φ : D → M → Prop} {Ξ : XW} {b : Addr} {lv w h l s : Int} {rows : List R4} {sp kg kt : Addr} (B : Brd C μ b w h rows l s sp kg kt) (OK : BOk w h rows l) (h0 : 0 ≤ lv) (h1 : lv < l) (hT : μ T = some (.tab Q_g)) (q : ∀ μ', Sub2 kg kt μ μ' → Brd C μ' b w h rows l s sp kg kt → Φ (gatesD w h rows lv) μ') : P_board_gates C T [.ref b, .int lv] μ Φ Ξ :=
  ⟨b, _, w, h, rows, l, s, sp, kg, kt, rfl, B, OK, kd_int, hT, fun lv2 μ' e _ _ s2 _ B' => by cases e; exact q μ' s2 B', fun z => by rw [wi_lv h0 h1] at z; cases z⟩
theorem use_tris {C T : Addr} {μ : M} {Φ : D → M → Prop} {Ξ : XW} {b : Addr} {lv w h l s : Int} {rows : List R4} {sp kg kt : Addr} (B : Brd C μ b w h rows l s sp kg kt) (OK : BOk w h rows l) (h0 : 0 ≤ lv) (h1 : lv < l) (hT : μ T = some (.tab Q_g)) (q : ∀ μ', Sub2 kg kt μ μ' → Brd C μ' b w h rows l s sp kg kt → Φ (trisD w h rows lv) μ') : P_board_triangles C T [.ref b, .int lv] μ Φ Ξ :=
  ⟨b, _, w, h, rows, l, s, sp, kg, kt, rfl, B, OK, kd_int, hT, fun lv2 μ' e _ _ s2 B' => by cases e; exact q μ' s2 B', fun z => by rw [wi_lv h0 h1] at z; cases z⟩
abbrev trisL (w h : Int) (rows : List R4) (lv : Int) : List (Int × Int × Int) := trisOf (spots w h rows) (pinsOf rows lv) (gOf w h rows lv)
theorem tris_len {w h l lv : Int} {rows : List R4} (OK : BOk w h rows l) : (trisL w h rows lv).length ≤ 8000 := by
  have h1 := flat_le (F := triF (spots w h rows) (pinsOf rows lv) (gOf w h rows lv)) (n := 20) (fun g => by
    have h1 := List.length_filter_le (emptyT (spots w h rows) (pinsOf rows lv)) (((pinsOf rows lv).filter fun r => decide (g.2 < r) && (decide ((g.1, r) ∈ gOf w h rows lv) && decide ((g.2, r) ∈ gOf w h rows lv))).map fun r => (g.1, g.2, r))
    have h2 := List.length_filter_le (fun r => decide (g.2 < r) && (decide ((g.1, r) ∈ gOf w h rows lv) && decide ((g.2, r) ∈ gOf w h rows lv))) (pinsOf rows lv)
    have h3 := (pins_ok OK lv).1
    rw [List.length_map] at h1
    unfold triF
    omega) (gOf w h rows lv)
  have h2 := gOf_len OK lv
  have e : trisOf (spots w h rows) (pinsOf rows lv) (gOf w h rows lv) = (gOf w h rows lv).flatMap (triF (spots w h rows) (pinsOf rows lv) (gOf w h rows lv)) := rfl
  rw [trisL, e]
  omega
theorem okn_tris {w h lv : Int} {rows : List R4} : OkN 2 (trisD w h rows lv) := okn_tup fun x hx => by
  obtain ⟨g, _, rfl⟩ := List.mem_map.mp hx
  exact okn_t3
theorem inD_iff {d : D} {ds : List D} (hd : D.it d = true) (hs : ∀ z ∈ ds, D.it z = true) : inD d ds = true ↔ d ∈ ds := by
  unfold inD
  rw [List.any_eq_true]
  constructor
  · rintro ⟨z, h1, h2⟩
    rw [← (eqv_dec (hs z h1) hd).mp h2]
    exact h1
  · intro h
    exact ⟨d, h, (eqv_dec hd hd).mpr rfl⟩
theorem encG_inj {a b : Pt} (h : encG a = encG b) : a = b := by
  obtain ⟨a1, a2⟩ := a
  obtain ⟨b1, b2⟩ := b
  have h2 : D.tup [.int a1, .int a2] = D.tup [.int b1, .int b2] := h
  simp at h2
  simp [h2]
theorem encT_inj {a b : Int × Int × Int} (h : encT a = encT b) : a = b := by
  obtain ⟨a1, a2, a3⟩ := a
  obtain ⟨b1, b2, b3⟩ := b
  have h2 : D.tup [.int a1, .int a2, .int a3] = D.tup [.int b1, .int b2, .int b3] := h
  simp at h2
  simp [h2]
theorem inD_map {α : Type} {f : α → D} (hi : ∀ a, D.it (f a) = true) (hf : ∀ a b, f a = f b → a = b) {gs : List α} {g : α} : inD (f g) (gs.map f) = true ↔ g ∈ gs := by
  rw [inD_iff (hi g) (fun z hz => by obtain ⟨a, _, rfl⟩ := List.mem_map.mp hz; exact hi a)]
  constructor
  · intro h
    obtain ⟨a, ha, e⟩ := List.mem_map.mp h
    rw [← hf _ _ e]
    exact ha
  · intro h
    exact List.mem_map.mpr ⟨g, h, rfl⟩
theorem inD_gates {gs : List Pt} {g : Pt} : inD (encG g) (gs.map encG) = decide (g ∈ gs) := by
  rw [Bool.eq_iff_iff, decide_eq_true_eq]
  exact inD_map (f := fun g => encG g) (fun _ => rfl) (fun _ _ => encG_inj)
theorem inD_tris {gs : List (Int × Int × Int)} {g : Int × Int × Int} : inD (encT g) (gs.map encT) = decide (g ∈ gs) := by
  rw [Bool.eq_iff_iff, decide_eq_true_eq]
  exact inD_map (f := fun g => encT g) (fun _ => rfl) (fun _ _ => encT_inj)
theorem inD_pins {pins : List Int} {p : Int} : inD (.int p) (pins.map D.int) = decide (p ∈ pins) := by
  rw [Bool.eq_iff_iff, decide_eq_true_eq]
  exact inD_map (f := D.int) (fun _ => rfl) (fun _ _ h => by simpa using h)
theorem inD_t3 {p : Int} {t : Int × Int × Int} : inD (.int p) [.int t.1, .int t.2.1, .int t.2.2] = inT3 p t := inD_pins (pins := [t.1, t.2.1, t.2.2])
theorem okn_pins {pins : List Int} : OkN 1 (D.tup (pins.map D.int)) := okn_tup fun z hz => by
  obtain ⟨j, _, rfl⟩ := List.mem_map.mp hz
  exact okn_int
theorem tab_new {μ : M} {T a : Addr} {m : MO} (hT : μ T = some (.tab Q_g)) (h : μ a = none) : (μ.set a m) T = some (.tab Q_g) := by rw [set_ne (fun z => by rw [z, h] at hT; cases hT)]; exact hT
theorem ab_iff {w h fl gap : Int} {rows : List R4} : ab (.int w) (.int h) (.tup (rows.map encR)) (.int fl) (.int gap) = true ↔ (2 ≤ w ∧ w ≤ 1000000) ∧ (2 ≤ h ∧ h ≤ 1000000) ∧ (1 ≤ fl ∧ fl ≤ 3) ∧ (1 ≤ gap ∧ gap ≤ 1000000) ∧ rows.length ≤ 16 ∧
    (∀ r ∈ rows, (0 < r.1 ∧ r.1 < w) ∧ (0 < r.2.1 ∧ r.2.1 < h) ∧ (0 ≤ r.2.2.1 ∧ r.2.2.1 ≤ r.2.2.2) ∧ r.2.2.2 < fl) ∧ (rows.map fun r => [r.1, r.2.1]).Nodup := by
  simp only [ab, wi, Bool.and_eq_true, decide_eq_true_eq, List.length_map, List.all_map, List.map_map, List.all_eq_true]
  have e : (rows.map (spot ∘ encR)) = rows.map fun r => [r.1, r.2.1] := List.map_congr_left fun r _ => rfl
  rw [e]
  have e2 : (∀ x ∈ rows, ((fun r => pr r w h fl) ∘ encR) x = true) ↔ ∀ r ∈ rows, (0 < r.1 ∧ r.1 < w) ∧ (0 < r.2.1 ∧ r.2.1 < h) ∧ (0 ≤ r.2.2.1 ∧ r.2.2.1 ≤ r.2.2.2) ∧ r.2.2.2 < fl := by
    refine forall_congr' fun r => forall_congr' fun _ => ?_
    simp only [Function.comp_apply, encR, pr, Bool.and_eq_true, decide_eq_true_eq]
    constructor
    · rintro ⟨⟨a, b⟩, c, d⟩
      exact ⟨a, b, c, d⟩
    · rintro ⟨a, b, c, d⟩
      exact ⟨⟨a, b⟩, c, d⟩
  rw [e2]
  constructor
  · rintro ⟨⟨⟨⟨a, b⟩, c⟩, d⟩, ⟨e, f⟩, g⟩
    exact ⟨a, b, c, d, e, f, g⟩
  · rintro ⟨a, b, c, d, e, f, g⟩
    exact ⟨⟨⟨⟨a, b⟩, c⟩, d⟩, ⟨e, f⟩, g⟩
theorem bd_of {w h fl gap : Int} {rows : List R4} (k : ab (.int w) (.int h) (.tup (rows.map encR)) (.int fl) (.int gap) = true) : Bd w h rows := by
  obtain ⟨a, b, _, _, _, c, d⟩ := ab_iff.mp k
  refine ⟨by omega, by omega, fun r hr => ⟨(c r hr).1, (c r hr).2.1⟩, ?_⟩
  have e : (rows.map fun r => [r.1, r.2.1]) = (rows.map fun r => (r.1, r.2.1)).map fun p => [p.1, p.2] := by
    rw [List.map_map]; rfl
  rw [e] at d
  unfold List.Nodup at d ⊢
  rw [List.pairwise_map] at d
  exact d.imp fun k e => k (by rw [e])
/-- whether a thing is a gate -/
def isG (w h : Int) (rows : List R4) (lv : Int) : D → Bool
  | .tup [.int p, .int q] => decide ((p, q) ∈ gOf w h rows lv)
  | _ => false
theorem isG_true {w h lv : Int} {rows : List R4} {g : D} (e : isG w h rows lv g = true) : ∃ g' : Pt, g = encG g' ∧ g' ∈ gOf w h rows lv := by
  unfold isG at e
  split at e
  · exact ⟨(_, _), rfl, of_decide_eq_true e⟩
  · cases e
theorem aw_two {d : D} (h : aw d 2 = true) : ∃ x y : Int, d = .tup [.int x, .int y] := by
  unfold aw at h
  split at h
  · rename_i xs
    simp only [Bool.and_eq_true, decide_eq_true_eq, List.all_eq_true] at h
    obtain ⟨hl, ha⟩ := h
    match xs, (by omega : xs.length = 2) with
    | [a, b], _ =>
      have h1 := ha a (by simp)
      have h2 := ha b (by simp)
      cases a <;> first | (simp [wh] at h1; done) | skip
      cases b <;> first | (simp [wh] at h2; done) | skip
      exact ⟨_, _, rfl⟩
  · cases h
def P_board_look_gate (C T : Addr) : PT4 := fun ds μ Φ Ξ => ∃ b g d w h rows l s sp kg kt, ds = [.ref b, g, d] ∧ Brd C μ b w h rows l s sp kg kt ∧ BOk w h rows l ∧ Kd μ d ∧ Kx μ g ∧ μ T = some (.tab Q_g) ∧
  (∀ lv μ', d = .int lv → 0 ≤ lv → lv < l → Sub2 kg kt μ μ' → Brd C μ' b w h rows l s sp kg kt → (isG w h rows lv g = true → Φ .non μ') ∧ (isG w h rows lv g = false → ∀ dx, μ' dx = none → Ξ "NoGate" (some dx) (μ'.set dx (.xd [("gate", g)])))) ∧
  (wi d 0 (l - 1) = false → ∀ dx, μ dx = none → Ξ "NoLayer" (some dx) (μ.set dx (.xd [("layer", d)])))
theorem len_board_look_gate (C T : Addr) (ds : List D) (μ : M) (Φ : D → M → Prop) (Ξ : XW) (h : P_board_look_gate C T ds μ Φ Ξ) : ds.length = 3 := by
  obtain ⟨_, _, _, _, _, _, _, _, _, _, _, rfl, _⟩ := h
  rfl
/-- the triangles that have both pins of a gate -/
def besL (w h : Int) (rows : List R4) (lv : Int) (g : Pt) : List (Int × Int × Int) := (trisL w h rows lv).filter fun t => inT3 g.1 t && inT3 g.2 t
def P_board_beside (C T : Addr) : PT4 := fun ds μ Φ Ξ => ∃ b g d w h rows l s sp kg kt, ds = [.ref b, g, d] ∧ Brd C μ b w h rows l s sp kg kt ∧ BOk w h rows l ∧ Kd μ d ∧ Kx μ g ∧ μ T = some (.tab Q_g) ∧
  (∀ lv μ', d = .int lv → 0 ≤ lv → lv < l → Sub2 kg kt μ μ' → Brd C μ' b w h rows l s sp kg kt → (∀ g', g = encG g' → g' ∈ gOf w h rows lv → Φ (.tup ((besL w h rows lv g').map encT)) μ') ∧ (isG w h rows lv g = false → ∀ dx, μ' dx = none → Ξ "NoGate" (some dx) (μ'.set dx (.xd [("gate", g)])))) ∧
  (wi d 0 (l - 1) = false → ∀ dx, μ dx = none → Ξ "NoLayer" (some dx) (μ.set dx (.xd [("layer", d)])))
theorem len_board_beside (C T : Addr) (ds : List D) (μ : M) (Φ : D → M → Prop) (Ξ : XW) (h : P_board_beside C T ds μ Φ Ξ) : ds.length = 3 := by
  obtain ⟨_, _, _, _, _, _, _, _, _, _, _, rfl, _⟩ := h
  rfl
theorem bes_eq {w h lv : Int} {rows : List R4} {g : Pt} : ((List.map (fun t => encT t) (trisL w h rows lv)).filter (fun x => match x with | D.tup xs => inD (D.int g.1) xs && inD (D.int g.2) xs | _ => false)).map id = (besL w h rows lv g).map encT := by
  rw [List.map_id, List.filter_map]
  unfold besL
  congr 1
  refine List.filter_congr fun t ht => ?_
  show (inD (D.int g.1) [D.int t.1, D.int t.2.1, D.int t.2.2] && inD (D.int g.2) [D.int t.1, D.int t.2.1, D.int t.2.2]) = _
  rw [inD_t3, inD_t3]
theorem ok_board_look_gate {f : Addr} {fd : FuncData} (F : Fun K "look_gate" "Board.look_gate" s_board_look_gate f fd) (B : Bs mg) {T_g : Addr} {C_Board : Addr} (K_Board : Cl_Board K C_Board) {C_NoGate : Addr} (E_NoGate : Exc1 P w K mg base "NoGate" "gate" C_NoGate) (G_board_gates : Mth P w K mg base C_Board "gates" ["self", "layer"] 7 (spX K (xn mg) (P_board_gates C_Board T_g))) (G_board_look_layer : Mth P w K mg base C_Board "look_layer" ["self", "number"] 4 (spX K (xn mg) (P_board_look_layer C_Board))) (G_are_whole : Def P w K mg base "are_whole" ["thing", "many"] 2 (spI K P_are_whole)) : FnOk P w K mg base (L2.CX P w) 8 f fd ["self", "gate", "layer"] (spX K (xn mg) (P_board_look_gate C_Board T_g)) := by
  refine F.okX sc_board_look_gate (fun vs H Q E h => spX_len h (len_board_look_gate C_Board T_g)) (fun cdv A outer s H vs Q E hr h => ?_)
  have hu65 := hu65_of hr
  refine ⟨_, (pss_cons (ps_expr (pe_mthX (takes_of rfl rfl rfl rfl) G_board_look_layer (hr.mono (by decide)) (pv 0) (pa_cons (pv 2) pa_nil)))
      (pss_one (ps_if (PW.pt (pw_or (pt_not (pt_val (pe_def G_are_whole (hr.mono (by decide)) (by rfl) (pa_cons (pv 1) (pa_cons pe_int pa_nil))))) (pw_or1 (pt_cmpR (op_notInSK (K := K) rfl hu65) (pv 1) (pe_mthN G_board_gates (hr.mono (by decide)) (pv 0) (pa_cons (pv 2) pa_nil)) (by first | exact nomark _ | rfl))))) (pss_one (ps_raise rfl (takes_of rfl rfl rfl rfl) (pmk_e1 E_NoGate (hr.mono (by decide)) (by rfl) (pa_cons (pv 1) pa_nil)))) pss_nil))), body_okX h (fun ds μ Φ Ξ p => ?_)⟩
  (try dsimp only [cxOf, Cx.nox, Cx.wish, List.map_cons, List.map_nil])
  obtain ⟨b, g, d, w, h, rows, l, s, sp, kg, kt, rfl, BR, OK, kd, kg', hT, qy, qn⟩ := p
  obtain ⟨dx, gl, tl, lvs, hb, hsp, hkg, hkt⟩ := id BR
  show AS K _ [some _, some _, some _] _ _
  walk_at "go"
  refine ⟨b, dx, _, rfl, hb, rfl, ?_⟩
  walk_at "go"
  refine ⟨b, d, w, h, rows, l, s, sp, kg, kt, rfl, BR, kd, fun h1 => ?_, fun h1 dx2 hdx2 => qn h1 dx2 hdx2⟩
  obtain ⟨lv, rfl, l0, l1⟩ := wi_int h1
  walk_at "go"
  refine ⟨g, 2, rfl, kg'.1, kg'.2, ?_⟩
  by_cases hw : aw g 2 = true
  · obtain ⟨x, y, rfl⟩ := aw_two hw
    rw [hw]
    walk_at "go"
    refine ⟨b, dx, _, rfl, hb, rfl, ?_⟩
    walk_at "go"
    refine use_gates BR OK l0 (by omega) hT fun μ' s2 BR' => ?_
    obtain ⟨q1, q2⟩ := qy lv μ' rfl l0 (by omega) s2 BR'
    refine ro_inS rfl (okn_pt.ok (by decide)) (okn_gates.ok (by decide)) ?_
    rw [show inD (D.tup [.int x, .int y]) ((gOf w h rows lv).map encG) = decide ((x, y) ∈ gOf w h rows lv) from inD_gates (g := (x, y))]
    by_cases hm : (x, y) ∈ gOf w h rows lv
    · simp only [hm, decide_true, if_true, Bool.not_true]
      refine ⟨_, rfl, ?_⟩
      walk_at "go"
      exact q1 (by simp [isG, hm])
    · simp only [hm, decide_false, if_true, Bool.not_false]
      refine ⟨_, rfl, ?_⟩
      simp only [if_true]
      refine s_raise1 (xn_at E_NoGate.mg) ?_
      walk_at "go"
      exact fun dx hdx => q2 (by simp [isG, hm]) dx hdx
  · have hf : aw g 2 = false := by simpa using hw
    rw [hf]
    walk_at "go"
    obtain ⟨_, q2⟩ := qy lv μ rfl l0 (by omega) s2_refl BR
    refine s_raise1 (xn_at E_NoGate.mg) ?_
    walk_at "go"
    refine fun dx hdx => q2 ?_ dx hdx
    unfold isG
    split
    · simp [aw, wh] at hf
    · rfl
theorem ok_board_beside {f : Addr} {fd : FuncData} {kws : List (Str × V)} (F : FunD K "beside" "Board.beside" (defArgs s_board_beside) (defBody s_board_beside) (defScope s_board_beside) [] kws f fd) (B : Bs mg) {T_g : Addr} {C_Board : Addr} (K_Board : Cl_Board K C_Board) (G_board_look_gate : Mth P w K mg base C_Board "look_gate" ["self", "gate", "layer"] 8 (spX K (xn mg) (P_board_look_gate C_Board T_g))) (G_board_triangles : Mth P w K mg base C_Board "triangles" ["self", "layer"] 9 (spX K (xn mg) (P_board_triangles C_Board T_g))) : FnOk P w K mg base (L2.CX P w) 10 f fd ["self", "gate", "layer"] (spX K (xn mg) (P_board_beside C_Board T_g)) := by
  refine F.ok (CX := L2.CX P w) sc_board_beside (fun vs H Q E h => spX_len h (len_board_beside C_Board T_g)) (fun cdv A outer s H vs Q E hr h => ?_)
  have hu65 := hu65_of hr
  refine ⟨_, (pss_cons (ps_expr (pe_mthX (takes_of rfl rfl rfl rfl) G_board_look_gate (hr.mono (by decide)) (pv 0) (pa_cons (pv 1) (pa_cons (pv 2) pa_nil))))
      (pss_one (ps_ret (pe_callTy (call_tupleK (K := K) rfl) (by rfl) B.b_tuple (by decide +kernel) (pa_cons (pe_lc (own := [("row", 3)]) (g := gName 3)  rfl sc_board_beside.nd (pi_tupK (K := K) rfl (pe_mthN G_board_triangles (hr.mono (by decide)) (pv 0) (pa_cons (pv 2) pa_nil))) (blkOk_by (own := [("row", 3)]) (N := N_board_beside) (sc := defScope s_board_beside) (by decide +kernel)) (fun _ _ _ _ _ => (pg_name (i := 3) sc_board_beside.nd rfl (by first | exact Or.inl rfl | exact Or.inr rfl))) (fun _ _ _ _ _ => (pts_one (PW.pt (pw_and (pt_cmpR (op_inSK (K := K) rfl hu65) (pe_ix (ix_seqK (K := K) rfl) (pv 1) pe_int (fun _ _ => rfl)) (pv 3) (by first | exact nomark _ | rfl)) (pw_and1 (pt_cmpR (op_inSK (K := K) rfl hu65) (pe_ix (ix_seqK (K := K) rfl) (pv 1) pe_int (fun _ _ => rfl)) (pv 3) (by first | exact nomark _ | rfl))))))) (fun _ _ _ _ _ => (pv 3))) pa_nil))))), body_okXU h (fun ds μ Φ Ξ p => ?_)⟩
  (try dsimp only [cxOf, Cx.nox, Cx.wish, List.map_cons, List.map_nil])
  obtain ⟨b, g, d, w, h, rows, l, s, sp, kg, kt, rfl, BR, OK, kd, kg', hT, qy, qn⟩ := p
  obtain ⟨dx, gl, tl, lvs, hb, hsp, hkg, hkt⟩ := id BR
  show AS K _ [some _, some _, some _, none] _ _
  walk_at "go"
  refine ⟨b, dx, _, rfl, hb, rfl, ?_⟩
  walk_at "go"
  refine ⟨b, g, d, w, h, rows, l, s, sp, kg, kt, rfl, BR, OK, kd, kg', hT, fun lv μ' e l0 l1 s2 BR' => ⟨fun hg => ?_, fun hg dx hdx => ⟨_, Sub.refl, (qy lv μ' e l0 l1 s2 BR').2 hg dx hdx⟩⟩, fun z dx hdx => ⟨_, Sub.refl, qn z dx hdx⟩⟩
  subst e
  obtain ⟨g, rfl, hm⟩ := isG_true hg
  obtain ⟨dx1, gl1, tl1, lvs1, hb1, _⟩ := id BR'
  have hT1 := s2_tab BR s2 hT
  walk_at "go"
  refine a_lc1 id (fun x => match x with | .tup xs => inD (.int g.1) xs && inD (.int g.2) xs | _ => false) (ai_T ?_)
  walk_at "go"
  refine ⟨b, dx1, _, rfl, hb1, rfl, ?_⟩
  walk_at "go"
  refine use_tris BR' OK l0 (by omega) hT1 fun μ2 s3 BR2 => ?_
  have tl := tris_len OK (lv := lv)
  refine ⟨_, rfl, ?_, fun x hx => ?_, fun x hx _ => ?_, fun l2 hl2 => ?_⟩
  · rw [List.length_map]
    exact Nat.lt_of_le_of_lt tl (by have := sizeLine_eq; omega)
  · obtain ⟨t, ht, rfl⟩ := List.mem_map.mp hx
    walk_at "nf"
    walk_at "go"
    cases e1 : inD (D.int g.fst) [D.int t.fst, D.int t.snd.fst, D.int t.snd.snd]
    · simp
    · simp only [if_true, Bool.true_and]
      walk_at "go"
      simp
  · walk_at "nf"
    walk_at "go"
    exact ⟨rfl, rfl⟩
  walk_at "go"
  refine rc_tuple (seq_ref set_same) ?_
  have e9 : ((List.map (fun t => encT t) (trisL w h rows lv)).filter (fun x => match x with | D.tup xs => inD (D.int g.1) xs && inD (D.int g.2) xs | _ => false)).map id = (besL w h rows lv g).map encT := bes_eq
  rw [e9]
  exact up_of (sub_new Sub.refl hl2) ((qy lv μ2 rfl l0 l1 (s2_trans s2 s3) BR2).1 g rfl hm)
theorem use_beside {C T : Addr} {μ : M} {Φ : D → M → Prop} {Ξ : XW} {b : Addr} {lv w h l s : Int} {rows : List R4} {sp kg kt : Addr} {g : Pt} (B : Brd C μ b w h rows l s sp kg kt) (OK : BOk w h rows l) (h0 : 0 ≤ lv) (h1 : lv < l) (hT : μ T = some (.tab Q_g)) (hg : g ∈ gOf w h rows lv)
    (q : ∀ μ', Sub2 kg kt μ μ' → Brd C μ' b w h rows l s sp kg kt → Φ (.tup ((besL w h rows lv g).map encT)) μ') : P_board_beside C T [.ref b, encG g, .int lv] μ Φ Ξ := by
  refine ⟨b, encG g, .int lv, w, h, rows, l, s, sp, kg, kt, rfl, B, OK, kd_int, ⟨kd_tup, fun xs e => ?_⟩, hT, fun lv' μ6 e a0 a1 s56 BR6 => ⟨fun g' eg hg' => ?_, fun hno => ?_⟩, fun z => ?_⟩
  · have e : D.tup [.int g.1, .int g.2] = .tup xs := e
    cases e
    exact ⟨by simp, fun z hz => by
      simp only [List.mem_cons, List.not_mem_nil, or_false] at hz
      rcases hz with rfl | rfl <;> exact kd_int⟩
  · cases e
    cases encG_inj eg
    exact q μ6 s56 BR6
  · cases e
    simp [isG, hg] at hno
  · rw [wi_lv h0 h1] at z
    cases z
abbrev keyT (t : Int × Int × Int) : List Key := [.inl t.1, .inl t.2.1, .inl t.2.2]
def nearP (t t' : Int × Int × Int) : Bool := decide (t' ≠ t) && decide ((sharedL t t').length = 2)
def nearL (tris : List (Int × Int × Int)) (t : Int × Int × Int) : List (Int × Int × Int) := tris.filter (nearP t)
def NearAt (μ : M) (nr : Addr) (tris : List (Int × Int × Int)) : Prop := ∃ kvs, μ nr = some (.dT kvs) ∧ kvs.map (·.1) = tris.map keyT ∧ ∀ t ∈ tris, ∃ a, valD kvs (keyT t) = some (.ref a) ∧ a ≠ nr ∧ μ a = some (.lst ((nearL tris t).map encT))
theorem NearAt.sub {μ μ' : M} {nr : Addr} {tris : List (Int × Int × Int)} (h : NearAt μ nr tris) (s : ∀ a m, μ a = some m → (∃ kvs, m = .dT kvs) ∨ (∃ ds : List (Int × Int × Int), m = .lst (ds.map encT)) → μ' a = some m) : NearAt μ' nr tris := by
  obtain ⟨kvs, h1, h2, h3⟩ := h
  refine ⟨kvs, s _ _ h1 (.inl ⟨_, rfl⟩), h2, fun t ht => ?_⟩
  obtain ⟨a, b1, b2, b3⟩ := h3 t ht
  exact ⟨a, b1, b2, s _ _ b3 (.inr ⟨_, rfl⟩)⟩
theorem keyT_inj {t t' : Int × Int × Int} (h : keyT t = keyT t') : t = t' := by
  simp at h
  exact Prod.ext h.1 (Prod.ext h.2.1 h.2.2)
theorem eqv_tri {t t' : Int × Int × Int} : D.eqv (encT t') (encT t) = decide (t' = t) := by
  rw [Bool.eq_iff_iff, decide_eq_true_eq, eqv_dec (d := encT t') (e := encT t) rfl rfl]
  exact ⟨encT_inj, fun e => by rw [e]⟩
theorem mapgt {α : Type} {f : α → D} {ds : List α} {i : Nat} {x : D} (h : (ds.map f)[i]? = some x) : ∃ t, ds[i]? = some t ∧ f t = x := by
  rw [List.getElem?_map] at h
  exact Option.map_eq_some_iff.mp h
theorem ite_bp {b : Bool} {p q : Prop} (h1 : b = true → p) (h2 : b = false → q) : if b = true then p else q := by
  cases b with
  | true => exact h1 rfl
  | false => exact h2 rfl
theorem tksnoc {α : Type} {l : List α} {i : Nat} {x : α} (h : l[i]? = some x) : l.take (i + 1) = l.take i ++ [x] := by
  rw [List.take_add_one, h]; rfl
theorem nodup_take {α : Type} {l : List α} {i : Nat} {x : α} (hn : l.Nodup) (h : l[i]? = some x) : x ∉ l.take i := by
  obtain ⟨hi, rfl⟩ := List.getElem?_eq_some_iff.mp h
  rw [← List.take_append_drop i l, List.drop_eq_getElem_cons hi, List.nodup_append] at hn
  intro hm
  exact hn.2.2 _ hm _ List.mem_cons_self rfl
theorem val_no {κ : Type} [DecidableEq κ] : ∀ {kvs : List (κ × D)} {k : κ}, k ∉ kvs.map (·.1) → valD kvs k = none
  | [], _, _ => rfl
  | p :: r, k, h => by
    rw [List.map_cons, List.mem_cons, not_or] at h
    rw [valD_cons, if_neg (Ne.symm h.1), val_no h.2]
theorem tris_nodup {w h l lv : Int} {rows : List R4} (OK : BOk w h rows l) : (trisL w h rows lv).Nodup := by
  refine List.Pairwise.imp (fun {a b} e => ?_) (tris_rise _ (pins_rise rows lv) (gates_rise _ (pins_nodup rows lv)))
  rintro rfl
  simp [lt3] at e
def P_l_near : PT3 := fun ds μ Φ => ∃ w h rows l lv, ds = [trisD w h rows lv] ∧ BOk w h rows l ∧ ∀ μ' nr, Sub μ μ' → μ nr = none → NearAt μ' nr (trisL w h rows lv) → Φ (.ref nr) μ'
theorem len_l_near (ds : List D) (μ : M) (Φ : D → M → Prop) (h : P_l_near ds μ Φ) : ds.length = 1 := by
  obtain ⟨_, _, _, _, _, rfl, _⟩ := h
  rfl
theorem shared_filter {t t' : Int × Int × Int} : ([D.int t.1, D.int t.2.1, D.int t.2.2].filter fun d => inD d [D.int t'.1, D.int t'.2.1, D.int t'.2.2]) = (sharedL t t').map D.int := by
  unfold sharedL
  rw [show [D.int t.1, D.int t.2.1, D.int t.2.2] = [t.1, t.2.1, t.2.2].map D.int from rfl, List.filter_map]
  congr 1
  exact List.filter_congr fun x hx => inD_t3
theorem ok_l_near {f : Addr} {fd : FuncData} (F : Fun K "_law_near" "_law_near" s_l_near f fd) (B : Bs mg) : FnOk P w K mg base CX0 2 f fd ["_law_triangles"] (spI K P_l_near) := by
  refine F.ok sc_l_near (fun vs H Q E h => spI_len h len_l_near) (fun cdv A outer s H vs Q E hr h => ?_)
  have hu65 := hu65_of hr
  refine ⟨_, (pss_cons (ps_set (i := 1) sc_l_near.nd rfl (by first | exact Or.inl rfl | exact Or.inr rfl) pe_dnewT)
      (pss_cons (ps_for PassesOwn.never rfl (pi_tupK (K := K) rfl (pv 0)) (pg_name (i := 2) sc_l_near.nd rfl (by first | exact Or.inl rfl | exact Or.inr rfl))
      (pss_one (ps_dput (hu_of hr) (pv 1) (pv 2) (pe_lc (own := [("_law_other", 3)]) (g := gName 3)  rfl sc_l_near.nd (pi_tupK (K := K) rfl (pv 0)) (blkOk_by (own := [("_law_other", 3)]) (N := N_l_near) (sc := defScope s_l_near) (by decide +kernel)) (fun _ _ _ _ _ => (pg_name (i := 3) sc_l_near.nd rfl (by first | exact Or.inl rfl | exact Or.inr rfl))) (fun _ _ _ _ _ => (pts_one (PW.pt (pw_and (pt_cmpR (op_neDK (K := K) rfl hr.units) (pv 3) (pv 2) (by first | exact nomark _ | rfl)) (pw_and1 (pt_cmpR op_eq (pe_callB (call_lenK (K := K) rfl) (by rfl) B.b_len (by decide +kernel) (pa_cons (pe_lc (own := [("_law_pin", 4)]) (g := gName 4)  rfl sc_l_near.nd (pi_tupK (K := K) rfl (pv 2)) (blkOk_by (own := [("_law_pin", 4)]) (N := N_l_near) (by rfl)) (fun _ _ _ _ _ => (pg_name (i := 4) sc_l_near.nd rfl (by first | exact Or.inl rfl | exact Or.inr rfl))) (fun _ _ _ _ _ => (pts_one (pt_cmpR (op_inSK (K := K) rfl hu65) (pv 4) (pv 3) (by first | exact nomark _ | rfl)))) (fun _ _ _ _ _ => (pv 4))) pa_nil)) pe_int (by first | exact nomark _ | rfl))))))) (fun _ _ _ _ _ => (pv 3))) (by rfl))))
      (pss_one (ps_ret (pv 1))))), body_ok h (fun ds μ Φ p => ?_)⟩
  (try dsimp only [cxOf, Cx.nox, Cx.wish, List.map_cons, List.map_nil])
  obtain ⟨w, h, rows, l, lv, rfl, OK, qy⟩ := p
  show AS K _ [some _, none, none, none, none] _ _
  have tl := tris_len OK (lv := lv)
  have hn := tris_nodup OK (lv := lv)
  walk_at "go"
  refine a_dnewT fun nr hnr => ?_
  walk_at "go"
  have sub0 : Sub μ (μ.set nr (.dT [])) := sub_new Sub.refl hnr
  have h0 : (μ.set nr (.dT [])) nr = some (.dT []) := set_same
  generalize (μ.set nr (.dT [])) = μ1 at sub0 h0 ⊢
  refine s_forT ?_
  walk_at "go"
  refine ⟨fun i τ' μ' => ∃ kvs, ∃ o2 o3 o4 : Option D, SubB nr μ1 μ' ∧ μ' nr = some (.dT kvs) ∧ kvs.map (·.1) = ((trisL w h rows lv).take i).map keyT ∧ (∀ t ∈ (trisL w h rows lv).take i, ∃ a, valD kvs (keyT t) = some (.ref a) ∧ a ≠ nr ∧ μ' a = some (.lst ((nearL (trisL w h rows lv) t).map encT))) ∧ τ' = [some (trisD w h rows lv), some (.ref nr), o2, o3, o4], _, rfl, ?_, ?_, ?_⟩
  · exact ⟨[], _, _, _, sb_refl, h0, rfl, fun t ht => (by simp at ht), rfl⟩
  · rintro i x τ' μ2 hx ⟨kvs, o2, o3, o4, sb, hd, hk, hv, rfl⟩
    obtain ⟨t, hg, rfl⟩ := mapgt hx
    walk_at "go"
    refine s_dput ?_
    refine a_lc tg_name (ai_T ?_)
    walk_at "go"
    refine ⟨fun j acc μ' => acc = (((trisL w h rows lv).take j).filter (nearP t)).map encT ∧ Sub μ2 μ', ⟨rfl, Sub.refl⟩, ?_, ?_⟩
    · rintro j y acc μ3 hy ⟨rfl, sb3⟩
      obtain ⟨t', hg', rfl⟩ := mapgt hy
      refine ⟨_, rfl, rfl, ?_⟩
      walk_at "nf"
      walk_at "go"
      rw [eqv_tri]
      refine ite_bp (fun k1 => ?_) (fun k1 => ?_)
      rotate_left
      · refine ⟨?_, sb3⟩
        rw [tksnoc hg', List.filter_append, List.filter_cons_of_neg (by simp [nearP, k1])]
        simp
      walk_at "go"
      refine a_lc1 id (fun d => inD d [.int t'.1, .int t'.2.1, .int t'.2.2]) (ai_T ?_)
      walk_at "go"
      refine ⟨fun x hx => ?_, fun x hx _ => ?_, fun l2 hl2 => ?_⟩
      · walk_at "nf"
        walk_at "go"
        refine ro_inS rfl ?_ ?_ ?_
        · simp only [List.mem_cons, List.not_mem_nil, or_false] at hx
          rcases hx with rfl | rfl | rfl <;> rfl
        · rfl
        · exact ⟨_, rfl, by simp, rfl⟩
      · walk_at "nf"
        walk_at "go"
        exact ⟨rfl, rfl⟩
      rw [List.map_id, shared_filter]
      walk_at "go"
      rw [List.length_map]
      refine ite_d (fun k2 => ?_) (fun k2 => ?_)
      · walk_at "nf"
        walk_at "go"
        have hj := (List.getElem?_eq_some_iff.mp hg').1
        have hl := List.length_filter_le (nearP t) ((trisL w h rows lv).take j)
        refine ⟨?_, ?_, sub_new sb3 hl2⟩
        · rw [List.length_map]
          rw [List.length_take] at hl
          have := sizeLine_eq
          omega
        · rw [tksnoc hg', List.filter_append, List.filter_cons_of_pos (by
            have k2' : (sharedL t t').length = 2 := by omega
            simpa [nearP, k2'] using k1)]
          simp
      · refine ⟨?_, sub_new sb3 hl2⟩
        rw [tksnoc hg', List.filter_append, List.filter_cons_of_neg (by
          have k2' : (sharedL t t').length ≠ 2 := by omega
          simp [nearP, k2'])]
        simp
    rintro acc μ3 ⟨rfl, sb3⟩ q hq
    rw [List.length_map, List.take_length]
    dsimp only [id] at hq ⊢
    have hq : μ3 q = none := hq
    have sb4 : Sub μ2 (μ3.set q (.lst (((trisL w h rows lv).filter (nearP t)).map encT))) := sub_new sb3 hq
    have hq4 : (μ3.set q (.lst (((trisL w h rows lv).filter (nearP t)).map encT))) q = some (.lst (((trisL w h rows lv).filter (nearP t)).map encT)) := set_same
    have nq : q ≠ nr := ne_of_some hq (sb3 _ _ hd)
    generalize (μ3.set q (.lst (((trisL w h rows lv).filter (nearP t)).map encT))) = μ4 at sb4 hq4 ⊢
    walk_at "go"
    have hi : i < (trisL w h rows lv).length := (List.getElem?_eq_some_iff.mp hg).1
    have hkl : kvs.length = i := by
      have := congrArg List.length hk
      rw [List.length_map, List.length_map, List.length_take] at this
      omega
    refine .inl ⟨kvs, keyT t, sb4 _ _ hd, rfl, by have := sizeLine_eq; omega, ?_⟩
    have hno : valD kvs (keyT t) = none := by
      refine val_no ?_
      rw [hk]
      intro hm
      obtain ⟨t2, ht2, e2⟩ := List.mem_map.mp hm
      rw [keyT_inj e2] at ht2
      exact nodup_take hn hg ht2
    rw [putKD_new hno]
    refine ⟨_, _, _, _, ?_, set_same, ?_, ?_, rfl⟩
    · intro a m na ha
      rw [set_ne na]
      exact sb4 _ _ (sb _ _ na ha)
    · rw [List.map_append, hk, tksnoc hg, List.map_append]
      rfl
    · intro t2 ht2
      rw [tksnoc hg, List.mem_append] at ht2
      rcases ht2 with ht2 | ht2
      · obtain ⟨a, e1, e2, e3⟩ := hv t2 ht2
        refine ⟨a, ?_, e2, by rw [set_ne e2]; exact sb4 _ _ e3⟩
        rw [valD_snoc hno, if_neg, e1]
        intro e
        rw [keyT_inj e] at hg
        exact nodup_take hn hg ht2
      · rw [List.mem_singleton.mp ht2]
        refine ⟨q, ?_, nq, by rw [set_ne nq]; exact hq4⟩
        rw [valD_snoc hno, if_pos rfl]
  rintro τ' μ' ⟨kvs, o2, o3, o4, sb, hd, hk, hv, rfl⟩
  rw [List.length_map, List.take_length] at hk hv
  walk_at "go"
  refine qy _ nr (fun a m e => ?_) hnr ⟨kvs, hd, hk, hv⟩
  exact sb a m (by rintro rfl; rw [hnr] at e; cases e) (sub0 _ _ e)
def P_board_made_of (C : Addr) : PT3 := fun ds μ Φ => ∃ b w h rows l s sp kg kt, ds = [.ref b] ∧ Brd C μ b w h rows l s sp kg kt ∧ Φ (.tup [.int w, .int h, .tup (rows.map encR), .int l, .int s]) μ
theorem len_board_made_of (C : Addr) (ds : List D) (μ : M) (Φ : D → M → Prop) (h : P_board_made_of C ds μ Φ) : ds.length = 1 := by
  obtain ⟨_, _, _, _, _, _, _, _, _, rfl, _⟩ := h
  rfl
theorem ok_board_made_of {f : Addr} {fd : FuncData} (F : Fun K "made_of" "Board.made_of" s_board_made_of f fd) (B : Bs mg) {C_Board : Addr} (K_Board : Cl_Board K C_Board) : FnOk P w K mg base CX0 1 f fd ["self"] (spI K (P_board_made_of C_Board)) := by
  refine F.ok sc_board_made_of (fun vs H Q E h => spI_len h (len_board_made_of C_Board)) (fun cdv A outer s H vs Q E hr h => ?_)
  have hu65 := hu65_of hr
  refine ⟨_, (pss_one (ps_ret (pe_tup (pa_cons (pe_fldK (K := K) rfl (pv 0) rfl) (pa_cons (pe_fldK (K := K) rfl (pv 0) rfl) (pa_cons (pe_fldK (K := K) rfl (pv 0) rfl) (pa_cons (pe_fldK (K := K) rfl (pv 0) rfl) (pa_cons (pe_fldK (K := K) rfl (pv 0) rfl) pa_nil)))))))), body_ok h (fun ds μ Φ p => ?_)⟩
  (try dsimp only [cxOf, Cx.nox, Cx.wish, List.map_cons, List.map_nil])
  obtain ⟨b, w, h, rows, l, s, sp, kg, kt, rfl, BR, q⟩ := p
  obtain ⟨dx, gl, tl, lvs, hb, hsp, hkg, hkt⟩ := id BR
  show AS K _ [some _] _ _
  walk_at "go"
  refine a_fld ?_
  walk_at "go"
  refine ⟨b, C_Board, dx, _, rfl, hb, K_Board.cls, K_Board.n_wide, _, rfl, ?_⟩
  walk_at "go"
  refine a_fld ?_
  walk_at "go"
  refine ⟨b, C_Board, dx, _, rfl, hb, K_Board.cls, K_Board.n_high, _, rfl, ?_⟩
  walk_at "go"
  refine a_fld ?_
  walk_at "go"
  refine ⟨b, C_Board, dx, _, rfl, hb, K_Board.cls, K_Board.n_pin_rows, _, rfl, ?_⟩
  walk_at "go"
  refine a_fld ?_
  walk_at "go"
  refine ⟨b, C_Board, dx, _, rfl, hb, K_Board.cls, K_Board.n_layer_count, _, rfl, ?_⟩
  walk_at "go"
  refine a_fld ?_
  walk_at "go"
  refine ⟨b, C_Board, dx, _, rfl, hb, K_Board.cls, K_Board.n_apart_by, _, rfl, ?_⟩
  walk_at "go"
  exact q
abbrev pinsT (t : Int × Int × Int) : List Int := [t.1, t.2.1, t.2.2]
/-- a walk over near triangles, its ends two pins -/
structure WayOk (tris : List (Int × Int × Int)) (p q : Int) (walk : List (Int × Int × Int)) : Prop where
  mem : ∀ t ∈ walk, t ∈ tris
  near : ∀ (i : Nat) t t', walk[i]? = some t → walk[i + 1]? = some t' → nearP t t' = true
  hp : ∃ t, walk[0]? = some t ∧ p ∈ pinsT t
  hq : ∃ t, walk[walk.length - 1]? = some t ∧ q ∈ pinsT t
  ne : q ≠ p
abbrev walkD (walk : List (Int × Int × Int)) : D := .tup (walk.map encT)
abbrev wayD (p q : Int) (walk : List (Int × Int × Int)) : D := .tup [.int p, walkD walk, .int q]
def P_l_way : PT3 := fun ds μ Φ => ∃ (b nr : Addr) (most c m w h fl gap lv : Int) (rows : List R4), ds = [.ref b, .ref nr, .int most] ∧ μ b = some (.lst [.int c, .int m]) ∧ BgOk m ∧ NearAt μ nr (trisL w h rows lv) ∧ BOk w h rows fl ∧ Bd w h rows ∧ 0 < most ∧ most ≤ 1000 ∧
  ∀ p q walk μ' c' m', WayOk (trisL w h rows lv) p q walk → (walk.length : Int) ≤ most → SubB b μ μ' → μ' b = some (.lst [.int c', .int m']) → BgOk m' → Φ (wayD p q walk) μ'
theorem len_l_way (ds : List D) (μ : M) (Φ : D → M → Prop) (h : P_l_way ds μ Φ) : ds.length = 3 := by
  obtain ⟨_, _, _, _, _, _, _, _, _, _, _, rfl, _⟩ := h
  rfl
theorem at_neg {α : Type} {f : α → D} {l : List α} {k : Nat} {a : α} (hk : k < l.length) (h : l[l.length - 1 - k]? = some a) : atI (l.map f) (-((k : Int) + 1)) = some (f a) := by
  have e : ixN (l.map f).length (-((k : Int) + 1)) = some (l.length - 1 - k) := by
    unfold ixN
    rw [List.length_map]
    split
    · omega
    · split
      · congr 1; omega
      · omega
  unfold atI
  rw [e, Option.bind_some, List.getElem?_map, h]
  rfl
theorem sz_len {n : Nat} (h : n ≤ 100000) : Sz 4000 (n : Int) := sz_mono (a := 31) (by unfold Sz; rw [Int.natAbs_natCast]; exact Nat.lt_of_le_of_lt h (by decide)) (by decide)
theorem sort_pinsT {w h l lv : Int} {rows : List R4} (OK : BOk w h rows l) : ((((trisL w h rows lv).map pinsT).mergeSort (PySem.W.dataLe false SDT.pyOf)).map fun k => D.tup (k.map D.int)) = (trisL w h rows lv).map encT := by
  rw [List.mergeSort_of_pairwise, List.map_map]
  · rfl
  · rw [List.pairwise_map]
    refine List.Pairwise.imp (fun {a b} e => ?_) (tris_rise _ (pins_rise rows lv) (gates_rise _ (pins_nodup rows lv)))
    have e1 : le3 a b = true := by
      unfold le3 lt3 at *
      simp only [Bool.or_eq_true, Bool.and_eq_true, decide_eq_true_eq, Bool.not_eq_true', Bool.or_eq_false_iff, Bool.and_eq_false_iff, decide_eq_false_iff_not] at *
      omega
    rw [← e1]
    unfold le3
    rw [← lt_t3]
    rfl
/-- a walk over near triangles -/
structure WalkL (tris walk : List (Int × Int × Int)) : Prop where
  mem : ∀ t ∈ walk, t ∈ tris
  near : ∀ (i : Nat) t t', walk[i]? = some t → walk[i + 1]? = some t' → nearP t t' = true
theorem walk_one {tris : List (Int × Int × Int)} {t : Int × Int × Int} (h : t ∈ tris) : WalkL tris [t] :=
  ⟨fun t' e => by rw [List.mem_singleton.mp e]; exact h, fun i t t' e1 e2 => by
    cases i <;> simp at e2⟩
theorem walk_more {tris walk : List (Int × Int × Int)} {t t' : Int × Int × Int} (W : WalkL tris walk) (h0 : 0 < walk.length) (hl : walk[walk.length - 1]? = some t) (h : t' ∈ nearL tris t) : WalkL tris (walk ++ [t']) := by
  obtain ⟨h1, h2⟩ := List.mem_filter.mp h
  refine ⟨fun x hx => ?_, fun i a a' e1 e2 => ?_⟩
  · rcases List.mem_append.mp hx with z | z
    · exact W.mem x z
    · rw [List.mem_singleton.mp z]; exact h1
  · have hi := (List.getElem?_eq_some_iff.mp e2).1
    rw [List.length_append, List.length_singleton] at hi
    rw [List.getElem?_append_left (by omega)] at e1
    by_cases k : i + 1 < walk.length
    · rw [List.getElem?_append_left k] at e2
      exact W.near i a a' e1 e2
    · have k2 : i = walk.length - 1 := by omega
      rw [k2, hl] at e1
      cases e1
      rw [List.getElem?_append_right (by omega), show i + 1 - walk.length = 0 by omega] at e2
      cases e2
      exact h2
def SubB2 (b l : Addr) (μ μ' : M) : Prop := ∀ a m, a ≠ b → a ≠ l → μ a = some m → μ' a = some m
theorem no_bag {c m : Int} {ds : List (Int × Int × Int)} (h : MO.lst [D.int c, D.int m] = .lst (ds.map encT)) : False := by
  cases ds with
  | nil => simp at h
  | cons t r => simp at h
theorem eqv_int_ne {z p : Int} : (!D.eqv (.int z) (.int p)) = decide (z ≠ p) := by
  by_cases k : z = p
  · subst k
    rw [show D.eqv (.int z) (.int z) = true from (eqv_dec (d := .int z) (e := .int z) rfl rfl).mpr rfl]
    simp
  · rw [show D.eqv (.int z) (.int p) = false from by
      rw [← Bool.not_eq_true]
      intro e
      exact k (D.int.inj ((eqv_dec (d := .int z) (e := .int p) rfl rfl).mp e))]
    simp [k]
theorem ok_l_way {f : Addr} {fd : FuncData} (F : Fun K "_law_way" "_law_way" s_l_way f fd) (B : Bs mg) (G_l_take : Def P w K mg base "_law_take" ["_law_bag_here", "_law_many"] 1 (spI K P_l_take)) : FnOk P w K mg base CX0 2 f fd ["_law_bag_here", "_law_near_here", "_law_most"] (spI K P_l_way) := by
  refine F.ok sc_l_way (fun vs H Q E h => spI_len h len_l_way) (fun cdv A outer s H vs Q E hr h => ?_)
  have hu65 := hu65_of hr
  refine ⟨_, (pss_cons (ps_set (i := 3) sc_l_way.nd rfl (by first | exact Or.inl rfl | exact Or.inr rfl) (pe_callB (SDT.cr_sortDT rfl hr.units) (by rfl) B.b_sorted (by decide +kernel) (pa_cons (pv 1) pa_nil)))
      (pss_cons (ps_set (i := 4) sc_l_way.nd rfl (by first | exact Or.inl rfl | exact Or.inr rfl) (pe_lst (pa_cons (pe_ix (ix_seqK (K := K) rfl) (pv 3) (pe_def G_l_take (hr.mono (by decide)) (by rfl) (pa_cons (pv 0) (pa_cons (pe_callB (call_lenK (K := K) rfl) (by rfl) B.b_len (by decide +kernel) (pa_cons (pv 3) pa_nil)) pa_nil))) (fun _ _ => rfl)) pa_nil)))
      (pss_cons (ps_for PassesOwn.never rfl (pi_range1 (by rfl) B.b_range (pa_cons (pe_def G_l_take (hr.mono (by decide)) (by rfl) (pa_cons (pv 0) (pa_cons (pv 2) pa_nil))) pa_nil)) (pg_name (i := 5) sc_l_way.nd rfl (by first | exact Or.inl rfl | exact Or.inr rfl))
      (pss_cons (ps_set (i := 6) sc_l_way.nd rfl (by first | exact Or.inl rfl | exact Or.inr rfl) (pe_dget (hu_of hr) (pv 1) (pe_ix (ix_seqK (K := K) rfl) (pv 4) (pe_un un_neg pe_int) (fun _ _ => rfl)) (fun _ _ => rfl)))
      (pss_cons (ps_setLc (i := 7) (own := [("_law_one", 10)]) (g := gName 10)  rfl sc_l_way.nd rfl rfl (sw_true rfl rfl rfl (by decide +kernel)) (pi_listK (K := K) rfl (pv 6)) (blkOk_by (own := [("_law_one", 10)]) (N := N_l_way) (sc := defScope s_l_way) (by decide +kernel)) (fun _ _ _ _ _ => (pg_name (i := 10) sc_l_way.nd rfl (by first | exact Or.inl rfl | exact Or.inr rfl))) (fun _ _ _ _ _ => (pts_one (PW.pt (pw_or (pt_cmpR op_lt (pe_callB (call_lenK (K := K) rfl) (by rfl) B.b_len (by decide +kernel) (pa_cons (pv 4) pa_nil)) pe_int (by first | exact nomark _ | rfl)) (pw_or1 (pt_cmpR (op_neDK (K := K) rfl hr.units) (pv 10) (pe_ix (ix_seqK (K := K) rfl) (pv 4) (pe_un un_neg pe_int) (fun _ _ => rfl)) (by first | exact nomark _ | rfl))))))) (fun _ _ _ _ _ => (pv 10)))
      (pss_cons (ps_if (PW.pt (pw_or (pt_cmpR (op_eqDK (K := K) rfl hr.units) (pv 7) (pe_lst pa_nil) (by first | exact nomark _ | rfl)) (pw_or1 (pt_cmpR op_eq (pe_def G_l_take (hr.mono (by decide)) (by rfl) (pa_cons (pv 0) (pa_cons pe_int pa_nil))) pe_int (by first | exact nomark _ | rfl))))) (pss_one (ps_set (i := 7) sc_l_way.nd rfl (by first | exact Or.inl rfl | exact Or.inr rfl) (pv 6))) pss_nil)
      (pss_one (ps_expr (pe_bm PySem.F.plainAttrs_list PySem.F.slot_list_append PySem.F.type_list_append mt_append (pv 4) (pa_cons (pe_ix (ix_seqK (K := K) rfl) (pv 7) (pe_def G_l_take (hr.mono (by decide)) (by rfl) (pa_cons (pv 0) (pa_cons (pe_callB (call_lenK (K := K) rfl) (by rfl) B.b_len (by decide +kernel) (pa_cons (pv 7) pa_nil)) pa_nil))) (fun _ _ => rfl)) pa_nil))))))))
      (pss_cons (ps_set (i := 8) sc_l_way.nd rfl (by first | exact Or.inl rfl | exact Or.inr rfl) (pe_ix (ix_seqK (K := K) rfl) (pe_ix (ix_seqK (K := K) rfl) (pv 4) pe_int (fun _ _ => rfl)) (pe_def G_l_take (hr.mono (by decide)) (by rfl) (pa_cons (pv 0) (pa_cons pe_int pa_nil))) (fun _ _ => rfl)))
      (pss_cons (ps_setLc (i := 9) (own := [("_law_pin", 11)]) (g := gName 11)  rfl sc_l_way.nd rfl rfl (sw_true rfl rfl rfl (by decide +kernel)) (pi_tupK (K := K) rfl (pe_ix (ix_seqK (K := K) rfl) (pv 4) (pe_un un_neg pe_int) (fun _ _ => rfl))) (blkOk_by (own := [("_law_pin", 11)]) (N := N_l_way) (sc := defScope s_l_way) (by decide +kernel)) (fun _ _ _ _ _ => (pg_name (i := 11) sc_l_way.nd rfl (by first | exact Or.inl rfl | exact Or.inr rfl))) (fun _ _ _ _ _ => (pts_one (pt_cmpR (op_neDK (K := K) rfl hr.units) (pv 11) (pv 8) (by first | exact nomark _ | rfl)))) (fun _ _ _ _ _ => (pv 11)))
      (pss_one (ps_ret (pe_tup (pa_cons (pv 8) (pa_cons (pe_callTy (call_tupleK (K := K) rfl) (by rfl) B.b_tuple (by decide +kernel) (pa_cons (pv 4) pa_nil)) (pa_cons (pe_ix (ix_seqK (K := K) rfl) (pv 9) (pe_def G_l_take (hr.mono (by decide)) (by rfl) (pa_cons (pv 0) (pa_cons (pe_callB (call_lenK (K := K) rfl) (by rfl) B.b_len (by decide +kernel) (pa_cons (pv 9) pa_nil)) pa_nil))) (fun _ _ => rfl)) pa_nil))))))))))), body_ok h (fun ds μ Φ p => ?_)⟩
  (try dsimp only [cxOf, Cx.nox, Cx.wish, List.map_cons, List.map_nil])
  obtain ⟨b, nr, most, c, m, w, h, fl, gap, lv, rows, rfl, hb, hm, NR, OK, B, m0, m1, qy⟩ := p
  show AS K _ [some _, some _, some _, none, none, none, none, none, none, none, none, none] _ _
  obtain ⟨kvs, hnr, hk, hv⟩ := id NR
  have bn : b ≠ nr := by rintro rfl; rw [hb] at hnr; cases hnr
  have tl := tris_len OK (lv := lv)
  obtain ⟨t0, ht0⟩ := tris_some B (lv := lv)
  have tpos : 0 < (trisL w h rows lv).length := List.length_pos_of_mem ht0
  walk_at "go"
  refine rc_sortDT (ks := (trisL w h rows lv).map pinsT) hnr ?_ ?_ ?_ fun ts hts => ?_
  · rw [hk, List.map_map]
    rfl
  · have e := t3_alike id (trisL w h rows lv)
    rw [List.map_map] at e ⊢
    exact e
  · have e := t3_sortable id (trisL w h rows lv)
    rw [List.map_map] at e ⊢
    exact e
  rw [sort_pinsT OK]
  walk_at "go"
  have nbt : b ≠ ts := by rintro rfl; rw [hb] at hts; cases hts
  have hb1 : (μ.set ts (.lst ((trisL w h rows lv).map encT))) b = some (.lst [.int c, .int m]) := by rw [set_ne nbt]; exact hb
  have sub1 : Sub μ (μ.set ts (.lst ((trisL w h rows lv).map encT))) := sub_new Sub.refl hts
  have hts1 : (μ.set ts (.lst ((trisL w h rows lv).map encT))) ts = some (.lst ((trisL w h rows lv).map encT)) := set_same
  generalize (μ.set ts (.lst ((trisL w h rows lv).map encT))) = μ1 at hb1 sub1 hts1 ⊢
  refine use_take hb1 hm (by rw [List.length_map]; exact Int.ofNat_lt.mpr tpos) (sz_len (by rw [List.length_map]; exact Nat.le_trans tl (by decide))) fun d c1 m1 d0 d1 _ hm1 => ?_
  rw [List.length_map] at d1
  obtain ⟨t1, ht1⟩ : ∃ t, (trisL w h rows lv)[d.toNat]? = some t := ⟨_, List.getElem?_eq_getElem (by have e : d < ((trisL w h rows lv).length : Int) := d1; show d.toNat < (trisL w h rows lv).length; omega)⟩
  refine ro_ix (seq_ref (by rw [set_ne (Ne.symm nbt)]; exact hts1)) (atI_map d0 ht1) ?_
  walk_at "go"
  intro wl hwl
  have nbw : b ≠ wl := by rintro rfl; rw [set_same] at hwl; cases hwl
  have hwl' : μ1 wl = none := none_back hwl
  have sb1 : SubB b μ ((μ1.set b (.lst [.int c1, .int m1])).set wl (.lst [encT t1])) := sb_new (sb_self fun a m _ e => sub1 a m e) hwl
  have hb2 : ((μ1.set b (.lst [.int c1, .int m1])).set wl (.lst [encT t1])) b = some (.lst [.int c1, .int m1]) := by rw [set_ne nbw]; exact set_same
  have hw2 : ((μ1.set b (.lst [.int c1, .int m1])).set wl (.lst [encT t1])) wl = some (.lst [encT t1]) := set_same
  have nnw : nr ≠ wl := by rintro rfl; rw [sub1 _ _ hnr] at hwl'; cases hwl'
  have hwn : μ wl = none := by
    cases e : μ wl with
    | none => rfl
    | some m => rw [sub1 _ _ e] at hwl'; cases hwl'
  generalize ((μ1.set b (.lst [.int c1, .int m1])).set wl (.lst [encT t1])) = μ2 at sb1 hb2 hw2 ⊢
  walk_at "go"
  refine s_for (ai_1 ?_)
  walk_at "go"
  refine use_take hb2 hm1 m0 (sz_mono (a := 31) (by unfold Sz; omega) (by decide)) fun n c2 m2 n0 n1 _ hm2 => ?_
  walk_at "go"
  refine ⟨by omega, by omega, fun i τ' μ' => ∃ walk c m, ∃ o5 o6 o7 o10 : Option D, μ' wl = some (.lst (walk.map encT)) ∧ 0 < walk.length ∧ walk.length ≤ i + 1 ∧ WalkL (trisL w h rows lv) walk ∧ SubB2 b wl μ μ' ∧ μ' b = some (.lst [.int c, .int m]) ∧ BgOk m ∧
    τ' = [some (.ref b), some (.ref nr), some (.int most), some (.ref ts), some (.ref wl), o5, o6, o7, none, none, o10, none], ?_, ?_, ?_⟩
  · refine ⟨[t1], c2, m2, _, _, _, _, by rw [set_ne (Ne.symm nbw)]; exact hw2, Nat.zero_lt_one, Nat.le_refl _, walk_one (List.mem_of_getElem? ht1), fun a m na nw e => ?_, set_same, hm2, rfl⟩
    rw [set_ne na]
    exact sb1 _ _ na e
  · rintro i it τ' μ' hx ⟨walk, c3, m3, o5, o6, o7, o10, hw, w0, wi, WL, sb, hb3, hm3, rfl⟩
    have hi : i < n.toNat := by
      have := (List.getElem?_eq_some_iff.mp hx).1
      simpa using this
    clear hx
    have h3 : μ' nr = some (.dT kvs) := sb _ _ (Ne.symm bn) nnw hnr
    obtain ⟨lt, hlt⟩ : ∃ t, walk[walk.length - 1]? = some t := ⟨_, List.getElem?_eq_getElem (by omega)⟩
    have hltm := WL.mem lt (List.mem_of_getElem? hlt)
    obtain ⟨sm, hsm1, hsm2, hsm0⟩ := hv lt hltm
    have nsb : sm ≠ b := by rintro rfl; rw [hb] at hsm0; exact no_bag (Option.some.inj hsm0)
    have nsw : sm ≠ wl := by rintro rfl; rw [hwn] at hsm0; cases hsm0
    have hsm : μ' sm = some (.lst ((nearL (trisL w h rows lv) lt).map encT)) := sb _ _ nsb nsw hsm0
    obtain ⟨nx, hnx⟩ : ∃ t, t ∈ nearL (trisL w h rows lv) lt := by
      obtain ⟨t', h1, h2, h3⟩ := tri_next B hltm
      exact ⟨t', List.mem_filter.mpr ⟨h1, by simp [nearP, h2, h3]⟩⟩
    have hnl : (nearL (trisL w h rows lv) lt).length ≤ 8000 := Nat.le_trans (List.length_filter_le _ _) tl
    walk_at "go"
    refine a_dget ?_
    walk_at "go"
    refine ro_ix (seq_ref hw) (at_neg (k := 0) w0 hlt) ?_
    refine ⟨nr, _, rfl, .inr (.inl ⟨kvs, keyT lt, h3, rfl, hsm1.symm⟩), ?_⟩
    walk_at "go"
    refine a_lc1 id (fun x => decide (walk.length < 2) || !D.eqv x (encT (walk.getD (walk.length - 2) t0))) (ai_L ?_)
    walk_at "go"
    refine ⟨sm, _, rfl, hsm, ?_, fun x hx => ?_, fun x hx _ => ?_, fun l2 hl2 => ?_⟩
    · rw [List.length_map]
      have := sizeLine_eq
      omega
    · obtain ⟨t', ht', rfl⟩ := List.mem_map.mp hx
      walk_at "nf"
      have hw' : (μ'.del sm) wl = some (.lst (walk.map encT)) := by rw [Z.del_ne (Ne.symm nsw)]; exact hw
      walk_at "go"
      rw [List.length_map]
      refine ite_d (fun k => ?_) (fun k => ?_)
      · have k2 : walk.length < 2 := by omega
        exact ⟨by simp [k2], rfl⟩
      · have k2 : ¬ walk.length < 2 := by omega
        have e2 : walk[walk.length - 1 - 1]? = some (walk.getD (walk.length - 2) t0) := by
          rw [show walk.length - 1 - 1 = walk.length - 2 by omega, List.getD_eq_getElem?_getD, List.getElem?_eq_getElem (by omega)]
          rfl
        walk_at "go"
        refine ro_ix (seq_ref hw') (at_neg (k := 1) (by omega) e2) ?_
        refine ro_neD (d := encT _) (e := encT _) rfl rfl ?_
        refine ⟨_, rfl, ?_, rfl⟩
        simp [k2]
    · walk_at "nf"
      walk_at "go"
      exact ⟨rfl, rfl⟩
    have hl2' : μ' l2 = none := by
      have hl2 : ((μ'.del sm).set sm _) l2 = none := hl2
      rw [del_set hsm] at hl2
      exact hl2
    dsimp only
    rw [del_set hsm, List.map_id, List.filter_map]
    have hsub : ∀ t ∈ (nearL (trisL w h rows lv) lt).filter ((fun x => decide (walk.length < 2) || !D.eqv x (encT (walk.getD (walk.length - 2) t0))) ∘ encT), t ∈ nearL (trisL w h rows lv) lt := fun t ht => (List.mem_filter.mp ht).1
    have hlen := List.length_filter_le ((fun x => decide (walk.length < 2) || !D.eqv x (encT (walk.getD (walk.length - 2) t0))) ∘ encT) (nearL (trisL w h rows lv) lt)
    generalize (nearL (trisL w h rows lv) lt).filter ((fun x => decide (walk.length < 2) || !D.eqv x (encT (walk.getD (walk.length - 2) t0))) ∘ encT) = on at hsub hlen ⊢
    have n2b : l2 ≠ b := ne_of_some hl2' hb3
    have n2w : l2 ≠ wl := ne_of_some hl2' hw
    have sb5 : SubB2 b wl μ (μ'.set l2 (.lst (on.map encT))) := fun a m na nw e => by
      have e' := sb a m na nw e
      rw [set_ne (by rintro rfl; rw [hl2'] at e'; cases e')]
      exact e'
    have hb5 : (μ'.set l2 (.lst (on.map encT))) b = some (.lst [.int c3, .int m3]) := by rw [set_ne (Ne.symm n2b)]; exact hb3
    have hw5 : (μ'.set l2 (.lst (on.map encT))) wl = some (.lst (walk.map encT)) := by rw [set_ne (Ne.symm n2w)]; exact hw
    have h5 : (μ'.set l2 (.lst (on.map encT))) l2 = some (.lst (on.map encT)) := set_same
    generalize (μ'.set l2 (.lst (on.map encT))) = μ5 at sb5 hb5 hw5 h5 ⊢
    refine g_name ?_
    walk_at "nf"
    refine s_cut (M0 := fun τ' μ2 => ∃ (oa : Addr) (on : List (Int × Int × Int)) (c m : Int), τ' = [some (.ref b), some (.ref nr), some (.int most), some (.ref ts), some (.ref wl), some it, some (.ref sm), some (.ref oa), none, none, o10, none] ∧ (∀ t ∈ on, t ∈ nearL (trisL w h rows lv) lt) ∧ 0 < on.length ∧ on.length ≤ 8000 ∧ oa ≠ b ∧ oa ≠ wl ∧ μ2 oa = some (.lst (on.map encT)) ∧ μ2 wl = some (.lst (walk.map encT)) ∧ SubB2 b wl μ μ2 ∧ μ2 b = some (.lst [.int c, .int m]) ∧ BgOk m) ?_ ?_
    · walk_at "go"
      intro e0 he0
      have n0b : e0 ≠ b := ne_of_some he0 hb5
      have n0w : e0 ≠ wl := ne_of_some he0 hw5
      have n05 : e0 ≠ l2 := ne_of_some he0 h5
      have sb6 : SubB2 b wl μ (μ5.set e0 (.lst [])) := fun a m na nw e => by
        have e' := sb5 a m na nw e
        rw [set_ne (by rintro rfl; rw [he0] at e'; cases e')]
        exact e'
      have hb6 : (μ5.set e0 (.lst [])) b = some (.lst [.int c3, .int m3]) := by rw [set_ne (Ne.symm n0b)]; exact hb5
      have hw6 : (μ5.set e0 (.lst [])) wl = some (.lst (walk.map encT)) := by rw [set_ne (Ne.symm n0w)]; exact hw5
      have h6 : (μ5.set e0 (.lst [])) l2 = some (.lst (on.map encT)) := by rw [set_ne (Ne.symm n05)]; exact h5
      have hs6 : (μ5.set e0 (.lst [])) sm = some (.lst ((nearL (trisL w h rows lv) lt).map encT)) := sb6 _ _ nsb nsw hsm0
      have h06 : (μ5.set e0 (.lst [])) e0 = some (.lst []) := set_same
      generalize (μ5.set e0 (.lst [])) = μ6 at sb6 hb6 hw6 h6 hs6 h06 ⊢
      refine ro_eqL (n := 3) h6 h06 (fun x hx => by obtain ⟨t, _, rfl⟩ := List.mem_map.mp hx; exact okn_t3.mono (by decide)) (fun x hx => by cases hx) (by decide) ?_
      refine ⟨_, rfl, ?_⟩
      have fin : ∀ {μ7 c m}, SubB b μ6 μ7 → μ7 b = some (.lst [.int c, .int m]) → BgOk m → ∃ (oa : Addr) (on : List (Int × Int × Int)) (c m : Int), [some (D.ref b), some (.ref nr), some (.int most), some (.ref ts), some (.ref wl), some it, some (.ref sm), some (.ref sm), none, none, o10, none] = [some (D.ref b), some (.ref nr), some (.int most), some (.ref ts), some (.ref wl), some it, some (.ref sm), some (.ref oa), none, none, o10, none] ∧ (∀ t ∈ on, t ∈ nearL (trisL w h rows lv) lt) ∧ 0 < on.length ∧ on.length ≤ 8000 ∧ oa ≠ b ∧ oa ≠ wl ∧ μ7 oa = some (.lst (on.map encT)) ∧ μ7 wl = some (.lst (walk.map encT)) ∧ SubB2 b wl μ μ7 ∧ μ7 b = some (.lst [.int c, .int m]) ∧ BgOk m := fun s7 b7 m7 =>
        ⟨sm, _, _, _, rfl, fun t ht => ht, List.length_pos_of_mem hnx, hnl, nsb, nsw, s7 _ _ nsb hs6, s7 _ _ (Ne.symm nbw) hw6, fun a m na nw e => s7 _ _ na (sb6 _ _ na nw e), b7, m7⟩
      cases on with
      | nil =>
        rw [show D.eqv (.tup ([].map encT)) (.tup []) = true from rfl, if_pos rfl, if_pos rfl]
        walk_at "go"
        exact fin sb_refl hb6 hm3
      | cons t on =>
        rw [show D.eqv (.tup ((t :: on).map encT)) (.tup []) = false from by rw [List.map_cons]; rfl, if_neg Bool.false_ne_true]
        walk_at "go"
        refine use_take hb6 hm3 (by decide) (by walk_at "szN") fun d5 c5 m5 a1 a2 _ hm5 => ?_
        have s7 : SubB b μ6 (μ6.set b (.lst [.int c5, .int m5])) := sb_self sb_refl
        have b7 : (μ6.set b (.lst [.int c5, .int m5])) b = some (.lst [.int c5, .int m5]) := set_same
        generalize (μ6.set b (.lst [.int c5, .int m5])) = μ7 at s7 b7 ⊢
        walk_at "go"
        refine ite_d (fun k => ?_) (fun k => ?_)
        · walk_at "go"
          exact fin s7 b7 hm5
        · walk_at "go"
          exact ⟨l2, t :: on, _, _, rfl, hsub, Nat.succ_pos _, by omega, n2b, n2w, s7 _ _ n2b h6, s7 _ _ (Ne.symm nbw) hw6, fun a m na nw e => s7 _ _ na (sb6 _ _ na nw e), b7, hm5⟩
    · rintro τ' μ6 ⟨oa, on, c4, m4, rfl, hs6, l6, z6, n6b, n6w, h6, hw6, sb6, hb6, hm6⟩
      walk_at "go"
      refine m_append (a := wl) (ds := walk.map encT) ?_
      walk_at "go"
      refine ⟨rfl, ⟨_, hw6⟩, ?_⟩
      walk_at "go"
      rw [List.length_map]
      refine use_take hb6 hm6 (by omega) (sz_len (by omega)) fun d7 c7 m7 a1 a2 _ hm7 => ?_
      obtain ⟨t7, ht7⟩ : ∃ t, on[d7.toNat]? = some t := ⟨_, List.getElem?_eq_getElem (by omega)⟩
      refine ro_ix (seq_ref (by rw [set_ne n6b]; exact h6)) (atI_map a1 ht7) ?_
      have ht7m := hs6 _ (List.mem_of_getElem? ht7)
      refine ⟨by rw [set_ne (Ne.symm nbw)]; exact hw6, by rw [List.length_map]; have := sizeLine_eq; omega, ?_⟩
      walk_at "go"
      refine ⟨walk ++ [t7], c7, m7, _, _, _, _, by rw [set_same, List.map_append]; rfl, by simp, by simp; omega, walk_more WL w0 hlt ht7m, fun a m na nw e => ?_, by rw [set_ne nbw]; exact set_same, hm7, rfl⟩
      rw [set_ne nw, set_ne na]
      exact sb6 _ _ na nw e
  rintro τ' μ6 ⟨walk, c3, m3, o5, o6, o7, o10, hw, w0, wi, WL, sb, hb3, hm3, rfl⟩
  rw [List.length_map, List.length_range] at wi
  obtain ⟨lt, hlt⟩ : ∃ t, walk[walk.length - 1]? = some t := ⟨_, List.getElem?_eq_getElem (by omega)⟩
  obtain ⟨ft, hft⟩ : ∃ t, walk[0]? = some t := ⟨_, List.getElem?_eq_getElem (by omega)⟩
  walk_at "go"
  refine ro_ix (seq_ref hw) (atI_map (by decide) hft) ?_
  walk_at "go"
  rw [show (id μ6 : M) = μ6 from rfl]
  refine use_take hb3 hm3 (by decide) (by walk_at "szN") fun d7 c7 m7 a1 a2 _ hm7 => ?_
  obtain ⟨p, hp⟩ : ∃ p, (pinsT ft)[d7.toNat]? = some p := ⟨_, List.getElem?_eq_getElem (by show d7.toNat < 3; omega)⟩
  refine ro_ix (d := encT ft) (ds := (pinsT ft).map D.int) rfl (atI_map a1 hp) ?_
  walk_at "go"
  have sb7 : SubB2 b wl μ (μ6.set b (.lst [.int c7, .int m7])) := fun a m na nw e => by
    rw [set_ne na]
    exact sb _ _ na nw e
  have hb7 : (μ6.set b (.lst [.int c7, .int m7])) b = some (.lst [.int c7, .int m7]) := set_same
  have hw7 : (μ6.set b (.lst [.int c7, .int m7])) wl = some (.lst (walk.map encT)) := by rw [set_ne (Ne.symm nbw)]; exact hw
  generalize (μ6.set b (.lst [.int c7, .int m7])) = μ7 at sb7 hb7 hw7 ⊢
  refine a_lc1 id (fun d => !D.eqv d (.int p)) (ai_T ?_)
  walk_at "go"
  refine ro_ix (seq_ref hw7) (at_neg (k := 0) w0 hlt) ?_
  refine ⟨(pinsT lt).map D.int, rfl, by have := sizeLine_eq; show 3 < sizeLine; omega, fun x hx => ?_, fun x hx _ => ?_, fun l8 hl8 => ?_⟩
  · obtain ⟨z, hz, rfl⟩ := List.mem_map.mp hx
    walk_at "nf"
    walk_at "go"
    exact ⟨rfl, rfl⟩
  · walk_at "nf"
    walk_at "go"
    exact ⟨rfl, rfl⟩
  have eF : (((pinsT lt).map D.int).filter fun d => !D.eqv d (.int p)) = ((pinsT lt).filter fun z => decide (z ≠ p)).map D.int := by
    rw [List.filter_map]
    congr 1
    refine List.filter_congr fun z hz => ?_
    rw [Function.comp_apply]
    exact eqv_int_ne
  rw [List.map_id, eF]
  dsimp only [id] at hl8 ⊢
  have hl8 : μ7 l8 = none := hl8
  have n8b : l8 ≠ b := ne_of_some hl8 hb7
  have n8w : l8 ≠ wl := ne_of_some hl8 hw7
  have TR := tr_of (WL.mem lt (List.mem_of_getElem? hlt))
  have hpos : 0 < ((pinsT lt).filter fun z => decide (z ≠ p)).length := by
    by_cases k : lt.1 = p
    · exact List.length_pos_of_mem (a := lt.2.1) (List.mem_filter.mpr ⟨by simp, decide_eq_true (by have := TR.l1; omega)⟩)
    · exact List.length_pos_of_mem (a := lt.1) (List.mem_filter.mpr ⟨by simp, decide_eq_true k⟩)
  have hle := List.length_filter_le (fun z => decide (z ≠ p)) (pinsT lt)
  have hmem : ∀ z ∈ (pinsT lt).filter fun z => decide (z ≠ p), z ∈ pinsT lt ∧ z ≠ p := fun z hz => by
    obtain ⟨u, v⟩ := List.mem_filter.mp hz
    exact ⟨u, of_decide_eq_true v⟩
  generalize ((pinsT lt).filter fun z => decide (z ≠ p)) = es at hpos hle hmem ⊢
  walk_at "go"
  refine rc_tuple (seq_ref (by rw [set_ne (Ne.symm n8w)]; exact hw7)) ?_
  walk_at "go"
  rw [List.length_map]
  have hle3 : es.length ≤ 3 := hle
  refine use_take (by rw [set_ne (Ne.symm n8b)]; exact hb7) hm7 (by omega) (sz_len (by omega)) fun d8 c8 m8 a3 a4 _ hm8 => ?_
  obtain ⟨q, hq⟩ : ∃ q, es[d8.toNat]? = some q := ⟨_, List.getElem?_eq_getElem (by omega)⟩
  refine ro_ix (seq_ref (by rw [set_ne n8b]; exact set_same)) (atI_map a3 hq) ?_
  obtain ⟨q1, q2⟩ := hmem q (List.mem_of_getElem? hq)
  walk_at "go"
  refine qy p q walk _ c8 m8 ⟨WL.mem, WL.near, ⟨ft, hft, List.mem_of_getElem? hp⟩, ⟨lt, hlt, q1⟩, q2⟩ (by omega) (fun a m na e => ?_) set_same hm8
  have nw : a ≠ wl := by rintro rfl; rw [hwn] at e; cases e
  have e7 := sb7 a m na nw e
  rw [set_ne na, set_ne (by rintro rfl; rw [hl8] at e7; cases e7)]
  exact e7
abbrev gateD (xs : List Int) : D := .tup (xs.map D.int)
def P_shared : PT3 := fun ds μ Φ => ∃ t t' : Int × Int × Int, ds = [encT t, encT t'] ∧ Φ (gateD (sharedL t t')) μ
theorem len_shared (ds : List D) (μ : M) (Φ : D → M → Prop) (h : P_shared ds μ Φ) : ds.length = 2 := by
  obtain ⟨_, _, rfl, _⟩ := h
  rfl
def P_are_beside : PT3 := fun ds μ Φ => ∃ t t' : Int × Int × Int, ds = [encT t, encT t'] ∧ Φ (.bl (nearP t t')) μ
theorem len_are_beside (ds : List D) (μ : M) (Φ : D → M → Prop) (h : P_are_beside ds μ Φ) : ds.length = 2 := by
  obtain ⟨_, _, rfl, _⟩ := h
  rfl
def P_turned : PT3 := fun ds μ Φ => ∃ (p q : Int) (walk : List (Int × Int × Int)), ds = [wayD p q walk] ∧ walk.length ≤ 1000 ∧ Φ (wayD q p walk.reverse) μ
theorem len_turned (ds : List D) (μ : M) (Φ : D → M → Prop) (h : P_turned ds μ Φ) : ds.length = 1 := by
  obtain ⟨_, _, _, rfl, _⟩ := h
  rfl
abbrev pairD (p : (Int × Int × Int) × (Int × Int × Int)) : D := .tup [encT p.1, encT p.2]
theorem zip_pairs : ∀ (l m : List (Int × Int × Int)), zipD (l.map encT) (m.map encT) = (l.zip m).map pairD
  | [], _ => rfl
  | _ :: _, [] => rfl
  | a :: l, b :: m => by
    rw [List.map_cons, List.map_cons, zipD, zip_pairs l m]
    rfl
theorem walk_zip (walk : List (Int × Int × Int)) : zipD (walk.map encT) ((walk.map encT).drop 1) = (walk.zip (walk.drop 1)).map pairD := by
  rw [List.drop_one, ← List.map_tail, ← List.drop_one]
  exact zip_pairs _ _
theorem use_shared {μ : M} {Φ : D → M → Prop} {t t' : Int × Int × Int} (q : Φ (gateD (sharedL t t')) μ) : P_shared [encT t, encT t'] μ Φ := ⟨t, t', rfl, q⟩
theorem use_are_beside {μ : M} {Φ : D → M → Prop} {t t' : Int × Int × Int} (q : Φ (.bl (nearP t t')) μ) : P_are_beside [encT t, encT t'] μ Φ := ⟨t, t', rfl, q⟩
theorem use_turned {μ : M} {Φ : D → M → Prop} {p q : Int} {walk : List (Int × Int × Int)} (h : walk.length ≤ 1000) (k : Φ (wayD q p walk.reverse) μ) : P_turned [wayD p q walk] μ Φ := ⟨p, q, walk, rfl, h, k⟩
theorem ok_shared {f : Addr} {fd : FuncData} (F : Fun K "shared" "shared" s_shared f fd) (B : Bs mg) : FnOk P w K mg base CX0 1 f fd ["one", "other"] (spI K P_shared) := by
  refine F.ok sc_shared (fun vs H Q E h => spI_len h len_shared) (fun cdv A outer s H vs Q E hr h => ?_)
  have hu65 := hu65_of hr
  refine ⟨_, (pss_one (ps_ret (pe_callTy (call_tupleK (K := K) rfl) (by rfl) B.b_tuple (by decide +kernel) (pa_cons (pe_lc (own := [("pin", 2)]) (g := gName 2)  rfl sc_shared.nd (pi_tupK (K := K) rfl (pv 0)) (blkOk_by (own := [("pin", 2)]) (N := N_shared) (sc := defScope s_shared) (by decide +kernel)) (fun _ _ _ _ _ => (pg_name (i := 2) sc_shared.nd rfl (by first | exact Or.inl rfl | exact Or.inr rfl))) (fun _ _ _ _ _ => (pts_one (pt_cmpR (op_inSK (K := K) rfl hu65) (pv 2) (pv 1) (by first | exact nomark _ | rfl)))) (fun _ _ _ _ _ => (pv 2))) pa_nil)))), body_okU h (fun ds μ Φ p => ?_)⟩
  (try dsimp only [cxOf, Cx.nox, Cx.wish, List.map_cons, List.map_nil])
  obtain ⟨t, t', rfl, q⟩ := p
  show AS K _ [some _, some _, none] _ _
  walk_at "go"
  refine a_lc1 id (fun d => inD d [.int t'.1, .int t'.2.1, .int t'.2.2]) (ai_T ?_)
  walk_at "go"
  refine ⟨fun x hx => ?_, fun x hx _ => ?_, fun l2 hl2 => ?_⟩
  · walk_at "nf"
    walk_at "go"
    refine ro_inS rfl ?_ ?_ ?_
    · simp only [List.mem_cons, List.not_mem_nil, or_false] at hx
      rcases hx with rfl | rfl | rfl <;> rfl
    · rfl
    · exact ⟨_, rfl, by simp, rfl⟩
  · walk_at "nf"
    walk_at "go"
    exact ⟨rfl, rfl⟩
  rw [List.map_id, shared_filter]
  walk_at "go"
  refine rc_tuple (seq_ref set_same) ?_
  exact up_of (sub_new Sub.refl hl2) q
theorem ok_are_beside {f : Addr} {fd : FuncData} (F : Fun K "are_beside" "are_beside" s_are_beside f fd) (B : Bs mg) (G_shared : Def P w K mg base "shared" ["one", "other"] 1 (spI K P_shared)) : FnOk P w K mg base CX0 2 f fd ["one", "other"] (spI K P_are_beside) := by
  refine F.ok sc_are_beside (fun vs H Q E h => spI_len h len_are_beside) (fun cdv A outer s H vs Q E hr h => ?_)
  have hu65 := hu65_of hr
  refine ⟨_, (pss_one (ps_ret (pe_and (pe_cmpR (op_neDK (K := K) rfl hr.units) (pv 0) (pv 1) (by first | exact nomark _ | rfl)) (pe_one (pe_cmpR op_eq (pe_callB (call_lenK (K := K) rfl) (by rfl) B.b_len (by decide +kernel) (pa_cons (pe_def G_shared (hr.mono (by decide)) (by rfl) (pa_cons (pv 0) (pa_cons (pv 1) pa_nil))) pa_nil)) pe_int (by first | exact nomark _ | rfl)))))), body_okU h (fun ds μ Φ p => ?_)⟩
  (try dsimp only [cxOf, Cx.nox, Cx.wish, List.map_cons, List.map_nil])
  obtain ⟨t, t', rfl, q⟩ := p
  show AS K _ [some _, some _] _ _
  walk_at "go"
  rw [eqv_tri]
  refine ite_bp (fun k => ?_) (fun k => ?_)
  · walk_at "go"
    refine use_shared ?_
    walk_at "go"
    have k2 : t' ≠ t := fun e => by simp [e] at k
    have e : nearP t t' = decide ((((sharedL t t').map D.int).length : Int) = 2) := by
      rw [List.length_map, nearP, decide_eq_true k2, Bool.true_and]
      exact decide_eq_decide.mpr (by omega)
    rw [← e]
    exact up q
  · have e : nearP t t' = false := by
      have k2 : t = t' := by simpa using k
      simp [nearP, k2]
    rw [e] at q
    exact up q
theorem ok_turned {f : Addr} {fd : FuncData} (F : Fun K "turned" "turned" s_turned f fd) (B : Bs mg) : FnOk P w K mg base CX0 1 f fd ["way"] (spI K P_turned) := by
  refine F.ok sc_turned (fun vs H Q E h => spI_len h len_turned) (fun cdv A outer s H vs Q E hr h => ?_)
  have hu65 := hu65_of hr
  refine ⟨_, (pss_cons (ps_asg (pv 0) (pg_tup (by rfl) (pgs_cons (pg_name (i := 1) sc_turned.nd rfl (by first | exact Or.inl rfl | exact Or.inr rfl)) (pgs_cons (pg_name (i := 2) sc_turned.nd rfl (by first | exact Or.inl rfl | exact Or.inr rfl)) (pgs_cons (pg_name (i := 3) sc_turned.nd rfl (by first | exact Or.inl rfl | exact Or.inr rfl)) pgs_nil)))))
      (pss_one (ps_ret (pe_tup (pa_cons (pv 3) (pa_cons (RVT.pe_revT (K := K) rfl (pv 2)) (pa_cons (pv 1) pa_nil))))))), body_okU h (fun ds μ Φ p => ?_)⟩
  (try dsimp only [cxOf, Cx.nox, Cx.wish, List.map_cons, List.map_nil])
  obtain ⟨p, q, walk, rfl, hw, qy⟩ := p
  show AS K _ [some _, none, none, none] _ _
  walk_at "go"
  rw [← List.map_reverse]
  exact up qy
def P_is_triangle (C T : Addr) : PT4 := fun ds μ Φ Ξ => ∃ b t lv w h rows l s sp kg kt, ds = [.ref b, encT t, .int lv] ∧ Brd C μ b w h rows l s sp kg kt ∧ BOk w h rows l ∧ 0 ≤ lv ∧ lv < l ∧ μ T = some (.tab Q_g) ∧
  t ∈ trisL w h rows lv ∧ ∀ μ', Sub2 kg kt μ μ' → Brd C μ' b w h rows l s sp kg kt → Φ (.bl true) μ'
theorem len_is_triangle (C T : Addr) (ds : List D) (μ : M) (Φ : D → M → Prop) (Ξ : XW) (h : P_is_triangle C T ds μ Φ Ξ) : ds.length = 3 := by
  obtain ⟨_, _, _, _, _, _, _, _, _, _, _, rfl, _⟩ := h
  rfl
def P_is_way (C T : Addr) : PT4 := fun ds μ Φ Ξ => ∃ b p q walk lv w h rows l s sp kg kt, ds = [.ref b, wayD p q walk, .int lv] ∧ Brd C μ b w h rows l s sp kg kt ∧ BOk w h rows l ∧ 0 ≤ lv ∧ lv < l ∧ μ T = some (.tab Q_g) ∧
  WayOk (trisL w h rows lv) p q walk ∧ walk.length ≤ 1000 ∧ ∀ μ', Sub2 kg kt μ μ' → Brd C μ' b w h rows l s sp kg kt → Φ (.bl true) μ'
theorem len_is_way (C T : Addr) (ds : List D) (μ : M) (Φ : D → M → Prop) (Ξ : XW) (h : P_is_way C T ds μ Φ Ξ) : ds.length = 3 := by
  obtain ⟨_, _, _, _, _, _, _, _, _, _, _, _, _, rfl, _⟩ := h
  rfl
theorem ok_is_triangle {f : Addr} {fd : FuncData} (F : Fun K "is_triangle" "is_triangle" s_is_triangle f fd) (B : Bs mg) {T_g : Addr} {C_Board : Addr} (K_Board : Cl_Board K C_Board) (G_board_triangles : Mth P w K mg base C_Board "triangles" ["self", "layer"] 9 (spX K (xn mg) (P_board_triangles C_Board T_g))) (G_is_whole : Def P w K mg base "is_whole" ["thing"] 1 (spI K P_is_whole)) : FnOk P w K mg base (L2.CX P w) 10 f fd ["board", "thing", "layer"] (spX K (xn mg) (P_is_triangle C_Board T_g)) := by
  refine F.okX sc_is_triangle (fun vs H Q E h => spX_len h (len_is_triangle C_Board T_g)) (fun cdv A outer s H vs Q E hr h => ?_)
  have hu65 := hu65_of hr
  refine ⟨_, (pss_cons (ps_if (PW.pt (pw_or (pt_not (pt_val (pe_callB (call_isiK1 (K := K) rfl) (by rfl) B.b_isinstance (by decide +kernel) (pa_cons (pv 1) (pa_cons (pe_bltn (v := .ty "tuple") (by rfl) B.b_tuple (by decide +kernel) rfl) pa_nil))))) (pw_or (pt_cmpR op_ne (pe_callB (call_lenK (K := K) rfl) (by rfl) B.b_len (by decide +kernel) (pa_cons (pv 1) pa_nil)) pe_int (by first | exact nomark _ | rfl)) (pw_or1 (pt_not (pt_val (pe_callB (cr_allK (K := K) rfl rfl) (by rfl) B.b_all (by decide +kernel) (pa_cons (pe_lc (own := [("pin", 3)]) (g := gName 3) (tt := tYes) rfl sc_is_triangle.nd (pi_tupK (K := K) rfl (pv 1)) (blkOk_by (own := [("pin", 3)]) (N := N_is_triangle) (sc := defScope s_is_triangle) (by decide +kernel)) (fun _ _ _ _ _ => (pg_name (i := 3) sc_is_triangle.nd rfl (by first | exact Or.inl rfl | exact Or.inr rfl))) (fun _ _ _ _ _ => pts_nil) (fun _ _ _ _ _ => (pe_def G_is_whole (hr.mono (by decide)) (by rfl) (pa_cons (pv 3) pa_nil)))) pa_nil)))))))) (pss_one (ps_ret pe_bl)) pss_nil)
      (pss_one (ps_ret (pe_cmpR (op_inSK (K := K) rfl hu65) (pv 1) (pe_mthN G_board_triangles (hr.mono (by decide)) (pv 0) (pa_cons (pv 2) pa_nil)) (by first | exact nomark _ | rfl))))), body_okXU h (fun ds μ Φ Ξ p => ?_)⟩
  (try dsimp only [cxOf, Cx.nox, Cx.wish, List.map_cons, List.map_nil])
  obtain ⟨b, t, lv, w, h, rows, l, s, sp, kg, kt, rfl, BR, OK, l0, l1, hT, ht, qy⟩ := p
  show AS K _ [some _, some _, some _, none] _ _
  walk_at "go"
  rw [if_neg (by simp)]
  walk_at "go"
  refine a_lc1 (fun _ => .bl true) (fun _ => true) (ai_T ?_)
  walk_at "go"
  refine ⟨fun x hx => ?_, fun x hx _ => ?_, fun l2 hl2 => ?_⟩
  · walk_at "nf"
    refine at_yes ⟨rfl, rfl⟩
  · obtain ⟨z, rfl⟩ : ∃ z : Int, x = .int z := by
      simp only [List.mem_cons, List.not_mem_nil, or_false] at hx
      rcases hx with rfl | rfl | rfl <;> exact ⟨_, rfl⟩
    walk_at "nf"
    walk_at "go"
    exact ⟨.int z, rfl, kd_int, rfl, rfl⟩
  have hl2 : μ l2 = none := hl2
  walk_at "go"
  refine rc_all (bs := [true, true, true]) (show _ = _ from set_same) ?_
  refine ⟨_, rfl, ?_⟩
  rw [if_neg (by decide)]
  walk_at "go"
  have sub1 : Sub μ ((id μ).set l2 (.lst (List.map (fun _ => D.bl true) (List.filter (fun _ => true) [D.int t.1, D.int t.2.1, D.int t.2.2])))) := sub_new Sub.refl hl2
  generalize ((id μ).set l2 (.lst (List.map (fun _ => D.bl true) (List.filter (fun _ => true) [D.int t.1, D.int t.2.1, D.int t.2.2])))) = μ1 at sub1 ⊢
  have BR1 := BR.sub sub1
  obtain ⟨dx, gl, tl, lvs, hb, hsp, hkg, hkt⟩ := id BR1
  refine ⟨b, dx, _, rfl, hb, rfl, ?_⟩
  walk_at "go"
  refine use_tris BR1 OK l0 l1 (sub1 _ _ hT) fun μ2 s2 BR2 => ?_
  refine ro_inS rfl (show D.ok (encT t) = true from rfl) (okn_tris.ok (by decide)) ?_
  have e : inD (encT t) ((trisL w h rows lv).map encT) = true := by rw [inD_tris]; exact decide_eq_true ht
  rw [e]
  exact up (qy μ2 (fun a m n1 n2 e => s2 a m n1 n2 (sub1 a m e)) BR2)
theorem ok_is_way {f : Addr} {fd : FuncData} {kws : List (Str × V)} (F : FunD K "is_way" "is_way" (defArgs s_is_way) (defBody s_is_way) (defScope s_is_way) [] kws f fd) (B : Bs mg) {T_g : Addr} {C_Board : Addr} (K_Board : Cl_Board K C_Board) (G_board_pins_on : Mth P w K mg base C_Board "pins_on" ["self", "layer"] 5 (spX K (xn mg) (P_board_pins_on C_Board))) (G_are_beside : Def P w K mg base "are_beside" ["one", "other"] 2 (spI K P_are_beside)) (G_is_triangle : DefX P w K mg base "is_triangle" ["board", "thing", "layer"] 10 (spX K (xn mg) (P_is_triangle C_Board T_g))) (G_is_whole : Def P w K mg base "is_whole" ["thing"] 1 (spI K P_is_whole)) : FnOk P w K mg base (L2.CX P w) 11 f fd ["board", "thing", "layer"] (spX K (xn mg) (P_is_way C_Board T_g)) := by
  refine F.ok (CX := L2.CX P w) sc_is_way (fun vs H Q E h => spX_len h (len_is_way C_Board T_g)) (fun cdv A outer s H vs Q E hr h => ?_)
  have hu65 := hu65_of hr
  refine ⟨_, (pss_cons (ps_if (PW.pt (pw_or (pt_not (pt_val (pe_callB (call_isiK1 (K := K) rfl) (by rfl) B.b_isinstance (by decide +kernel) (pa_cons (pv 1) (pa_cons (pe_bltn (v := .ty "tuple") (by rfl) B.b_tuple (by decide +kernel) rfl) pa_nil))))) (pw_or (pt_cmpR op_ne (pe_callB (call_lenK (K := K) rfl) (by rfl) B.b_len (by decide +kernel) (pa_cons (pv 1) pa_nil)) pe_int (by first | exact nomark _ | rfl)) (pw_or1 (pt_not (pt_val (pe_callB (call_isiK1 (K := K) rfl) (by rfl) B.b_isinstance (by decide +kernel) (pa_cons (pe_ix (ix_seqK (K := K) rfl) (pv 1) pe_int (fun _ _ => rfl)) (pa_cons (pe_bltn (v := .ty "tuple") (by rfl) B.b_tuple (by decide +kernel) rfl) pa_nil))))))))) (pss_one (ps_ret pe_bl)) pss_nil)
      (pss_cons (ps_asg (pv 1) (pg_tup (by rfl) (pgs_cons (pg_name (i := 3) sc_is_way.nd rfl (by first | exact Or.inl rfl | exact Or.inr rfl)) (pgs_cons (pg_name (i := 4) sc_is_way.nd rfl (by first | exact Or.inl rfl | exact Or.inr rfl)) (pgs_cons (pg_name (i := 5) sc_is_way.nd rfl (by first | exact Or.inl rfl | exact Or.inr rfl)) pgs_nil)))))
      (pss_cons (ps_asg (pe_mthX (takes_of rfl rfl rfl rfl) G_board_pins_on (hr.mono (by decide)) (pv 0) (pa_cons (pv 2) pa_nil)) (pg_name (i := 6) sc_is_way.nd rfl (by first | exact Or.inl rfl | exact Or.inr rfl)))
      (pss_cons (ps_for (passes_of rfl) rfl (pi_tupK (K := K) rfl (pe_tup (pa_cons (pv 3) (pa_cons (pv 5) pa_nil)))) (pg_name (i := 7) sc_is_way.nd rfl (by first | exact Or.inl rfl | exact Or.inr rfl))
      (pss_one (ps_if (PW.pt (pw_or (pt_not (pt_val (pe_def G_is_whole (hr.mono (by decide)) (by rfl) (pa_cons (pv 7) pa_nil)))) (pw_or1 (pt_cmpR (op_notInSK (K := K) rfl hu65) (pv 7) (pv 6) (by first | exact nomark _ | rfl))))) (pss_one (ps_ret pe_bl)) pss_nil)))
      (pss_cons (ps_if (PW.pt (pw_or (pt_cmpR (op_eqDK (K := K) rfl hr.units) (pv 3) (pv 5) (by first | exact nomark _ | rfl)) (pw_or1 (pt_cmpR (op_eqDK (K := K) rfl hr.units) (pv 4) (pe_tup pa_nil) (by first | exact nomark _ | rfl))))) (pss_one (ps_ret pe_bl)) pss_nil)
      (pss_cons (ps_if (pt_not (pt_val (pe_callB (cr_allK (K := K) rfl rfl) (by rfl) B.b_all (by decide +kernel) (pa_cons (pe_lc (own := [("one", 8)]) (g := gName 8) (tt := tYes) rfl sc_is_way.nd (pi_tupK (K := K) rfl (pv 4)) (blkOk_by (own := [("one", 8)]) (N := N_is_way) (sc := defScope s_is_way) (by decide +kernel)) (fun _ _ _ _ _ => (pg_name (i := 8) sc_is_way.nd rfl (by first | exact Or.inl rfl | exact Or.inr rfl))) (fun _ _ _ _ _ => pts_nil) (fun _ _ _ _ _ => (pe_defN G_is_triangle (hr.mono (by decide)) (by rfl) (pa_cons (pv 0) (pa_cons (pv 8) (pa_cons (pv 2) pa_nil)))))) pa_nil)))) (pss_one (ps_ret pe_bl)) pss_nil)
      (pss_cons (ps_if (PW.pt (pw_or (pt_cmpR (op_notInSK (K := K) rfl hu65) (pv 3) (pe_ix (ix_seqK (K := K) rfl) (pv 4) pe_int (fun _ _ => rfl)) (by first | exact nomark _ | rfl)) (pw_or1 (pt_cmpR (op_notInSK (K := K) rfl hu65) (pv 5) (pe_ix (ix_seqK (K := K) rfl) (pv 4) (pe_un un_neg pe_int) (fun _ _ => rfl)) (by first | exact nomark _ | rfl))))) (pss_one (ps_ret pe_bl)) pss_nil)
      (pss_one (ps_ret (pe_callB (cr_allK (K := K) rfl rfl) (by rfl) B.b_all (by decide +kernel) (pa_cons (pe_lc (own := [("one", 8), ("other", 9)]) (g := gTup K 2 (gCons (gName 8) (gCons (gName 9) gNil))) (tt := tYes) rfl sc_is_way.nd (pi_zipK (K := K) rfl (by rfl) B.b_zip (pa_cons (pv 4) (pa_cons (pe_slice (sl_tupAK (K := K) rfl) (pv 4) (po_some pe_int) po_none) pa_nil))) (blkOk_by (own := [("one", 8), ("other", 9)]) (N := N_is_way) (sc := defScope s_is_way) (by decide +kernel)) (fun _ _ _ _ _ => (pg_tup (by rfl) (pgs_cons (pg_name (i := 8) sc_is_way.nd rfl (by first | exact Or.inl rfl | exact Or.inr rfl)) (pgs_cons (pg_name (i := 9) sc_is_way.nd rfl (by first | exact Or.inl rfl | exact Or.inr rfl)) pgs_nil)))) (fun _ _ _ _ _ => pts_nil) (fun _ _ _ _ _ => (pe_def G_are_beside (hr.mono (by decide)) (by rfl) (pa_cons (pv 8) (pa_cons (pv 9) pa_nil))))) pa_nil))))))))))), body_okXU h (fun ds μ Φ Ξ p => ?_)⟩
  (try dsimp only [cxOf, Cx.nox, Cx.wish, List.map_cons, List.map_nil])
  obtain ⟨b, p, q, walk, lv, w, h, rows, l, s, sp, kg, kt, rfl, BR, OK, l0, l1, hT, WO, wl, qy⟩ := p
  show AS K _ [some _, some _, some _, none, none, none, none, none, none, none] _ _
  walk_at "go"
  rw [if_neg (by simp)]
  obtain ⟨dx, gl, tl, lvs, hb, hsp, hkg, hkt⟩ := id BR
  walk_at "go"
  refine ⟨b, dx, _, rfl, hb, rfl, ?_⟩
  walk_at "go"
  refine ⟨b, _, w, h, rows, l, s, sp, kg, kt, rfl, BR, OK, kd_int, fun lv2 e _ _ => ?_, fun z => by rw [wi_lv l0 l1] at z; cases z⟩
  cases e
  walk_at "go"
  obtain ⟨ft, hft, pft⟩ := WO.hp
  obtain ⟨lt, hlt, qlt⟩ := WO.hq
  have hw0 : 0 < walk.length := by
    cases walk with
    | nil => cases hft
    | cons a r => exact Nat.succ_pos _
  have TF := tr_of (WO.mem ft (List.mem_of_getElem? hft))
  have TL := tr_of (WO.mem lt (List.mem_of_getElem? hlt))
  have hpp : p ∈ pinsOf rows lv := by
    simp only [List.mem_cons, List.not_mem_nil, or_false] at pft
    rcases pft with rfl | rfl | rfl
    · exact TF.p1
    · exact TF.p2
    · exact TF.p3
  have hqp : q ∈ pinsOf rows lv := by
    simp only [List.mem_cons, List.not_mem_nil, or_false] at qlt
    rcases qlt with rfl | rfl | rfl
    · exact TL.p1
    · exact TL.p2
    · exact TL.p3
  refine s_forT ?_
  walk_at "go"
  refine ⟨fun i τ' μ' => μ' = μ ∧ ∃ o7 : Option D, τ' = [some (.ref b), some (wayD p q walk), some (.int lv), some (.int p), some (walkD walk), some (.int q), some (.tup ((pinsOf rows lv).map D.int)), o7, none, none], _, rfl, ⟨rfl, _, rfl⟩, ?_, ?_⟩
  · rintro i x τ' μ' hx ⟨rfl, o7, rfl⟩
    have hx' := List.mem_of_getElem? hx
    obtain ⟨z, rfl, hz⟩ : ∃ z : Int, x = .int z ∧ z ∈ pinsOf rows lv := by
      simp only [List.mem_cons, List.not_mem_nil, or_false] at hx'
      rcases hx' with rfl | rfl
      · exact ⟨_, rfl, hpp⟩
      · exact ⟨_, rfl, hqp⟩
    walk_at "go"
    refine ⟨.int z, rfl, kd_int, ?_⟩
    refine ⟨_, rfl, ?_⟩
    rw [if_neg (by simp [wh])]
    walk_at "go"
    refine ro_inS rfl (show D.ok (.int z) = true from rfl) ((okn_pins (pins := pinsOf rows lv)).ok (by decide)) ?_
    rw [inD_pins, decide_eq_true hz]
    refine ⟨_, rfl, ?_⟩
    rw [if_neg (by simp)]
    walk_at "go"
    exact ⟨rfl, _, rfl⟩
  rintro τ' μ' ⟨rfl, o7, rfl⟩
  walk_at "go"
  have ep : D.eqv (.int p) (.int q) = false := by
    have e := eqv_int_ne (z := p) (p := q)
    rw [decide_eq_true (Ne.symm WO.ne)] at e
    simpa using e
  rw [ep, if_neg Bool.false_ne_true]
  have okw : OkN 2 (walkD walk) := okn_tup fun x hx => by
    obtain ⟨t, _, rfl⟩ := List.mem_map.mp hx
    exact okn_t3
  walk_at "go"
  refine ro_eqD (okw.ok (by decide)) (show D.ok (.tup []) = true from rfl) ?_
  refine ⟨_, rfl, ?_⟩
  have ee : D.eqv (walkD walk) (.tup []) = false := by
    cases walk with
    | nil => cases hft
    | cons a r => rfl
  rw [ee, if_neg Bool.false_ne_true]
  walk_at "go"
  refine a_lc tg_name (ai_T ?_)
  walk_at "go"
  refine ⟨fun i acc μ2 => acc = (List.replicate i true).map D.bl ∧ i ≤ walk.length ∧ Sub2 kg kt μ' μ2 ∧ Brd C_Board μ2 b w h rows l s sp kg kt, ⟨rfl, Nat.zero_le _, s2_refl, BR⟩, ?_, ?_⟩
  · rintro i x acc μ2 hx ⟨rfl, hi, s2, BR2⟩
    obtain ⟨t, ht, rfl⟩ := mapgt hx
    have hi2 := (List.getElem?_eq_some_iff.mp ht).1
    refine ⟨_, rfl, rfl, ?_⟩
    refine at_yes ?_
    rw [if_pos rfl]
    walk_at "nf"
    walk_at "go"
    refine ⟨b, t, lv, w, h, rows, l, s, sp, kg, kt, rfl, BR2, OK, l0, l1, s2_tab BR s2 hT, WO.mem t (List.mem_of_getElem? ht), fun μ3 s3 BR3 => ⟨?_, ?_, by omega, s2_trans s2 s3, BR3⟩⟩
    · rw [List.length_map, List.length_replicate]; have := sizeLine_eq; omega
    · rw [List.replicate_succ', List.map_append]; rfl
  rintro acc μ2 ⟨rfl, hi, s2, BR2⟩ l2 hl2
  rw [List.length_map]
  dsimp only [id] at hl2 ⊢
  walk_at "go"
  refine rc_all (bs := List.replicate walk.length true) set_same ?_
  refine ⟨_, rfl, ?_⟩
  rw [if_neg (by simp)]
  walk_at "go"
  have hl2 : μ2 l2 = none := hl2
  have s3 : Sub2 kg kt μ' (μ2.set l2 (.lst ((List.replicate walk.length true).map D.bl))) := fun a m n1 n2 e => by
    have e' := s2 a m n1 n2 e
    rw [set_ne (by rintro rfl; rw [hl2] at e'; cases e')]
    exact e'
  have BR3 := BR2.sub (sub_new Sub.refl hl2 (Y := .lst ((List.replicate walk.length true).map D.bl)))
  generalize (μ2.set l2 (.lst ((List.replicate walk.length true).map D.bl))) = μ3 at s3 BR3 ⊢
  have e1 : inD (.int p) [.int ft.1, .int ft.2.1, .int ft.2.2] = true := by
    have e : inD (.int p) [.int ft.1, .int ft.2.1, .int ft.2.2] = decide (p ∈ pinsT ft) := inD_pins (pins := pinsT ft)
    rw [e]; exact decide_eq_true pft
  have e2 : inD (.int q) [.int lt.1, .int lt.2.1, .int lt.2.2] = true := by
    have e : inD (.int q) [.int lt.1, .int lt.2.1, .int lt.2.2] = decide (q ∈ pinsT lt) := inD_pins (pins := pinsT lt)
    rw [e]; exact decide_eq_true qlt
  refine ro_ix (ds := walk.map encT) rfl (atI_map (by decide) hft) ?_
  refine ro_inS (ds := [.int ft.1, .int ft.2.1, .int ft.2.2]) rfl (show D.ok (.int p) = true from rfl) (show D.ok (encT ft) = true from rfl) ?_
  rw [e1]
  refine ⟨_, rfl, ?_⟩
  rw [if_neg (by simp)]
  walk_at "go"
  refine ro_ix (ds := walk.map encT) rfl (at_neg (k := 0) hw0 hlt) ?_
  refine ro_inS (ds := [.int lt.1, .int lt.2.1, .int lt.2.2]) rfl (show D.ok (.int q) = true from rfl) (show D.ok (encT lt) = true from rfl) ?_
  rw [e2]
  refine ⟨_, rfl, ?_⟩
  rw [if_neg (by simp)]
  walk_at "go"
  refine a_lc tg_2 (ai_Z ?_)
  walk_at "go"
  rw [cut1, walk_zip]
  refine ⟨fun i acc μ' => acc = (List.replicate i true).map D.bl ∧ i ≤ walk.length ∧ μ' = μ3, ⟨rfl, Nat.zero_le _, rfl⟩, ?_, ?_⟩
  · rintro i x acc μ' hx ⟨rfl, hi, rfl⟩
    obtain ⟨a, ha, rfl⟩ := mapgt hx
    have hi2 := (List.getElem?_eq_some_iff.mp ha).1
    rw [List.length_zip, List.length_drop] at hi2
    refine ⟨[encT a.1, encT a.2], ⟨rfl, rfl⟩, rfl, ?_⟩
    refine at_yes ?_
    rw [if_pos rfl]
    walk_at "nf"
    walk_at "go"
    have en : nearP a.1 a.2 = true := by
      rw [List.getElem?_zip_eq_some] at ha
      refine WO.near i _ _ ha.1 ?_
      have := ha.2
      rw [List.getElem?_drop] at this
      rw [Nat.add_comm]
      exact this
    refine use_are_beside ?_
    rw [en]
    refine ⟨?_, ?_, by omega, rfl⟩
    · rw [List.length_map, List.length_replicate]; have := sizeLine_eq; omega
    · rw [List.replicate_succ', List.map_append]; rfl
  rintro acc μ' ⟨rfl, hi, rfl⟩ l4 hl4
  dsimp only [id] at hl4 ⊢
  walk_at "go"
  refine rc_all (bs := List.replicate _ true) set_same ?_
  have ea : ∀ n, (List.replicate n true).all id = true := fun n => by simp
  rw [ea]
  exact up_of (sub_new Sub.refl hl4) (qy _ s3 BR3)
def P_without_turns : PT3 := fun ds μ Φ => ∃ walk : List (Int × Int × Int), ds = [walkD walk] ∧ walk.length ≤ 1000 ∧ ∀ l, μ l = none → Φ (.ref l) (μ.set l (.lst ((turnsR [] walk).reverse.map encT)))
theorem len_without_turns (ds : List D) (μ : M) (Φ : D → M → Prop) (h : P_without_turns ds μ Φ) : ds.length = 1 := by
  obtain ⟨_, rfl, _⟩ := h
  rfl
def P_without_ends : PT3 := fun ds μ Φ => ∃ (p q : Int) (a : Addr) (w : List (Int × Int × Int)), ds = [.int p, .ref a, .int q] ∧ μ a = some (.lst (w.map encT)) ∧ 0 < w.length ∧ w.length ≤ 1000 ∧ ∀ l, μ l = none → Φ (.ref l) (μ.set l (.lst ((dropL (inT3 q) (dropF (inT3 p) w)).map encT)))
theorem len_without_ends (ds : List D) (μ : M) (Φ : D → M → Prop) (h : P_without_ends ds μ Φ) : ds.length = 3 := by
  obtain ⟨_, _, _, _, rfl, _⟩ := h
  rfl
theorem ro_ip {K : PySem.W.Frag} {μ : M} {Φ : D → M → Prop} {f : Int → Int → Int} {i j : Int} (q : Φ (.int (f i j)) μ) : RO K (L2.ipI f) (.int i) (.int j) μ Φ := fun H x y c r1 r2 Q k => by
  cases r1
  cases r2
  exact ⟨i, j, rfl, rfl, k _ μ _ H Fr.refl c (.int _) q⟩
theorem drop_two {α : Type} {w : List α} {b : Nat} {x : α} (h : w[b + 1]? = some x) : ∃ c, w.drop b = c :: w.drop (b + 1) ∧ ∃ r, w.drop (b + 1) = x :: r := by
  obtain ⟨hb, rfl⟩ := List.getElem?_eq_some_iff.mp h
  exact ⟨_, List.drop_eq_getElem_cons (by omega), _, List.drop_eq_getElem_cons hb⟩
theorem dropF_yes {α : Type} [DecidableEq α] {P : α → Bool} {w : List α} {b : Nat} {x : α} (h : w[b + 1]? = some x) (hp : P x = true) : dropF P (w.drop b) = dropF P (w.drop (b + 1)) := by
  obtain ⟨c, e, r, e2⟩ := drop_two h
  rw [e, e2]
  simp [dropF, hp]
theorem dropF_no {α : Type} [DecidableEq α] {P : α → Bool} {w : List α} {b : Nat} {x : α} (h : w[b + 1]? = some x) (hp : P x = false) : dropF P (w.drop b) = w.drop b := by
  obtain ⟨c, e, r, e2⟩ := drop_two h
  rw [e, e2]
  simp [dropF, hp]
theorem dropF_one {α : Type} [DecidableEq α] {P : α → Bool} {w : List α} (h : w.length ≤ 1) : dropF P w = w := by
  match w with
  | [] => rfl
  | [_] => rfl
  | _ :: _ :: _ => simp at h
theorem dropL_one {α : Type} [DecidableEq α] {P : α → Bool} {w : List α} (h : w.length ≤ 1) : dropL P w = w := by
  unfold dropL
  rw [dropF_one (by rw [List.length_reverse]; exact h), List.reverse_reverse]
theorem take_two {α : Type} {F : List α} {n : Nat} {x : α} (h : F[n]? = some x) (hn : n + 1 < F.length) : ∃ y, F.take (n + 2) = F.take n ++ [x, y] ∧ F.take (n + 1) = F.take n ++ [x] := by
  refine ⟨F[n + 1], ?_, tksnoc h⟩
  rw [tksnoc (List.getElem?_eq_getElem hn), tksnoc h, List.append_assoc]
  rfl
theorem dropL_yes {α : Type} [DecidableEq α] {Q : α → Bool} {F : List α} {n : Nat} {x : α} (h : F[n]? = some x) (hn : n + 1 < F.length) (hq : Q x = true) : dropL Q (F.take (n + 2)) = dropL Q (F.take (n + 1)) := by
  obtain ⟨y, e1, e2⟩ := take_two h hn
  rw [e1, e2]
  unfold dropL
  rw [List.reverse_append, List.reverse_append]
  simp [dropF, hq]
theorem dropL_no {α : Type} [DecidableEq α] {Q : α → Bool} {F : List α} {n : Nat} {x : α} (h : F[n]? = some x) (hn : n + 1 < F.length) (hq : Q x = false) : dropL Q (F.take (n + 2)) = F.take (n + 2) := by
  obtain ⟨y, e1, e2⟩ := take_two h hn
  rw [e1]
  unfold dropL
  rw [List.reverse_append]
  simp [dropF, hq]
theorem ok_without_turns {f : Addr} {fd : FuncData} (F : Fun K "without_turns" "without_turns" s_without_turns f fd) (B : Bs mg) : FnOk P w K mg base CX0 1 f fd ["triangles"] (spI K P_without_turns) := by
  refine F.ok sc_without_turns (fun vs H Q E h => spI_len h len_without_turns) (fun cdv A outer s H vs Q E hr h => ?_)
  have hu65 := hu65_of hr
  refine ⟨_, (pss_cons (ps_set (i := 1) sc_without_turns.nd rfl (by first | exact Or.inl rfl | exact Or.inr rfl) (pe_lst pa_nil))
      (pss_cons (ps_for PassesOwn.never rfl (pi_tupK (K := K) rfl (pv 0)) (pg_name (i := 2) sc_without_turns.nd rfl (by first | exact Or.inl rfl | exact Or.inr rfl))
      (pss_one (ps_if (PW.pt (pw_and (pt_cmpR op_gt (pe_callB (call_lenK (K := K) rfl) (by rfl) B.b_len (by decide +kernel) (pa_cons (pv 1) pa_nil)) pe_int (by first | exact nomark _ | rfl)) (pw_and1 (pt_cmpR (op_eqDK (K := K) rfl hr.units) (pe_ix (ix_seqK (K := K) rfl) (pv 1) (pe_un un_neg pe_int) (fun _ _ => rfl)) (pv 2) (by first | exact nomark _ | rfl))))) (pss_one (ps_expr (pe_bm0 PySem.F.plainAttrs_list PySem.F.slot_list_pop PySem.F.type_list_pop mt_pop (pv 1)))) (pss_one (ps_expr (pe_bm PySem.F.plainAttrs_list PySem.F.slot_list_append PySem.F.type_list_append mt_append (pv 1) (pa_cons (pv 2) pa_nil)))))))
      (pss_one (ps_ret (pv 1))))), body_ok h (fun ds μ Φ p => ?_)⟩
  (try dsimp only [cxOf, Cx.nox, Cx.wish, List.map_cons, List.map_nil])
  obtain ⟨walk, rfl, hw, q⟩ := p
  show AS K _ [some _, none, none] _ _
  walk_at "go"
  intro l hl
  have h0 : (μ.set l (.lst [])) l = some (.lst []) := set_same
  refine g_name ?_
  walk_at "nf"
  refine s_cut (M0 := fun τ' μ' => μ' = μ.set l (.lst ((turnsR [] walk).reverse.map encT)) ∧ ∃ o2 : Option D, τ' = [some (walkD walk), some (.ref l), o2]) ?_ ?_
  rotate_left
  · rintro τ' μ' ⟨rfl, o2, rfl⟩
    walk_at "go"
    exact q l hl
  refine s_forT ?_
  walk_at "go"
  refine ⟨fun i τ' μ' => μ' = μ.set l (.lst ((turnsR [] (walk.take i)).reverse.map encT)) ∧ (turnsR [] (walk.take i)).length ≤ i ∧ ∃ o2 : Option D, τ' = [some (walkD walk), some (.ref l), o2], _, rfl, ⟨rfl, Nat.le_refl _, _, rfl⟩, ?_, ?_⟩
  · rintro i x τ' μ' hx ⟨rfl, hs, o2, rfl⟩
    obtain ⟨t, ht, rfl⟩ := mapgt hx
    have hi := (List.getElem?_eq_some_iff.mp ht).1
    have eT : turnsR [] (walk.take (i + 1)) = pushR (turnsR [] (walk.take i)) t := by rw [tksnoc ht, turns_app]; rfl
    generalize turnsR [] (walk.take i) = s at hs eT ⊢
    have hl2 : (μ.set l (.lst (s.reverse.map encT))) l = some (.lst (s.reverse.map encT)) := set_same
    have zz := sizeLine_eq
    have app : ∀ N : AEnds, N.nx [some (walkD walk), some (.ref l), some (encT t)] (μ.set l (.lst ((t :: s).reverse.map encT))) → AS K (tDrop (tBM K "list" L2.rAppend (tVar 1) (tCons (tVar 2) tNil))) [some (walkD walk), some (.ref l), some (encT t)] (μ.set l (.lst (s.reverse.map encT))) N := fun N hN => by
      walk_at "go"
      refine m_append (a := l) (ds := s.reverse.map encT) ?_
      walk_at "go"
      refine ⟨rfl, ⟨_, hl2⟩, ?_⟩
      walk_at "go"
      refine ⟨hl2, by rw [List.length_map, List.length_reverse]; omega, ?_⟩
      rw [set_set]
      rw [List.reverse_cons, List.map_append] at hN
      exact hN
    have pushed : pushR s t = t :: s → (μ.set l (.lst ((t :: s).reverse.map encT)) = μ.set l (.lst ((turnsR [] (walk.take (i + 1))).reverse.map encT)) ∧ (turnsR [] (walk.take (i + 1))).length ≤ i + 1 ∧ ∃ o2 : Option D, [some (walkD walk), some (.ref l), some (encT t)] = [some (walkD walk), some (.ref l), o2]) := fun e => by
      rw [eT, e]
      exact ⟨rfl, Nat.succ_le_succ hs, _, rfl⟩
    walk_at "go"
    rw [List.length_map, List.length_reverse]
    refine ite_d (fun k => ?_) (fun k => ?_)
    rotate_left
    · rw [if_neg Bool.false_ne_true]
      refine app _ (pushed ?_)
      match s with
      | [] => rfl
      | [_] => rfl
      | _ :: _ :: _ => exact absurd k (by simp only [List.length_cons]; omega)
    match s, hs, eT, hl2, app, pushed, k with
    | [], _, _, _, _, _, k => exact absurd k (by decide)
    | [_], _, _, _, _, _, k => exact absurd k (by simp only [List.length_cons, List.length_nil]; omega)
    | c :: y :: r, hs, eT, hl2, app, pushed, k =>
      have e2 : (c :: y :: r).reverse[(c :: y :: r).reverse.length - 1 - 1]? = some y := by
        rw [List.getElem?_reverse (by simp only [List.length_reverse, List.length_cons]; omega), List.length_reverse]
        simp
      walk_at "go"
      refine ro_ix (seq_ref hl2) (at_neg (k := 1) (by simp) e2) ?_
      walk_at "go"
      rw [eqv_tri]
      refine ite_d (fun k2 => ?_) (fun k2 => ?_)
      · have e3 : pushR (c :: y :: r) t = y :: r := by simp [pushR, k2]
        walk_at "go"
        refine m_pop (a := l) (ds := (y :: r).reverse.map encT) (d := encT c) ?_
        walk_at "go"
        refine ⟨rfl, by rw [hl2, List.reverse_cons, List.map_append]; rfl, ?_⟩
        rw [set_set]
        refine ⟨by rw [eT, e3], ?_, _, rfl⟩
        rw [eT, e3]
        simp only [List.length_cons] at hs ⊢
        omega
      · exact app _ (pushed (by simp [pushR, k2]))
  rintro τ' μ' ⟨rfl, hs, o2, rfl⟩
  rw [List.length_map, List.take_length]
  exact ⟨rfl, _, rfl⟩
theorem ok_without_ends {f : Addr} {fd : FuncData} (F : Fun K "without_ends" "without_ends" s_without_ends f fd) (B : Bs mg) : FnOk P w K mg base CX0 1 f fd ["first", "triangles", "last"] (spI K P_without_ends) := by
  refine F.ok sc_without_ends (fun vs H Q E h => spI_len h len_without_ends) (fun cdv A outer s H vs Q E hr h => ?_)
  have hu65 := hu65_of hr
  refine ⟨_, (pss_cons (ps_par (i := 3) (j := 4) rfl sc_without_ends.nd rfl rfl (by decide) rfl rfl (pa_cons pe_int (pa_cons (pe_callB (call_lenK (K := K) rfl) (by rfl) B.b_len (by decide +kernel) (pa_cons (pv 1) pa_nil)) pa_nil)) (by rfl))
      (pss_cons (ps_while PassesOwn.never (PW.pt (pw_and (pt_cmpR op_gt (pe_op op_sub (pv 4) (pv 3)) pe_int (by first | exact nomark _ | rfl)) (pw_and1 (pt_cmpR (op_inSK (K := K) rfl hu65) (pv 0) (pe_ix (ix_seqK (K := K) rfl) (pv 1) (pe_op op_add (pv 3) pe_int) (fun _ _ => rfl)) (by first | exact nomark _ | rfl))))) (pss_one (ps_aug (i := 3) sc_without_ends.nd rfl (by first | exact Or.inl rfl | exact Or.inr rfl) pe_int ip_add)))
      (pss_cons (ps_while PassesOwn.never (PW.pt (pw_and (pt_cmpR op_gt (pe_op op_sub (pv 4) (pv 3)) pe_int (by first | exact nomark _ | rfl)) (pw_and1 (pt_cmpR (op_inSK (K := K) rfl hu65) (pv 2) (pe_ix (ix_seqK (K := K) rfl) (pv 1) (pe_op op_sub (pv 4) pe_int) (fun _ _ => rfl)) (by first | exact nomark _ | rfl))))) (pss_one (ps_aug (i := 4) sc_without_ends.nd rfl (by first | exact Or.inl rfl | exact Or.inr rfl) pe_int ip_sub)))
      (pss_one (ps_ret (pe_slice (sl_listK (K := K) rfl) (pv 1) (po_some (pv 3)) (po_some (pv 4)))))))), body_ok h (fun ds μ Φ p => ?_)⟩
  (try dsimp only [cxOf, Cx.nox, Cx.wish, List.map_cons, List.map_nil])
  obtain ⟨p, q, a, w, rfl, ha, hw0, hw, qy⟩ := p
  show AS K _ [some _, some _, some _, none, none] _ _
  refine s_cut (M0 := fun τ' μ' => μ' = μ ∧ τ' = [some (.int p), some (.ref a), some (.int q), some (.int (0 : Nat)), some (.int w.length)]) ?_ ?_
  · walk_at "go"
    simp
  rintro τ' μ' ⟨rfl, rfl⟩
  refine s_cut (M0 := fun τ' μ1 => μ1 = μ' ∧ ∃ b : Nat, b < w.length ∧ dropF (inT3 p) w = w.drop b ∧ τ' = [some (.int p), some (.ref a), some (.int q), some (.int b), some (.int w.length)]) ?_ ?_
  · refine s_while (fun m τ' μ1 => ∃ b : Nat, m = w.length - b ∧ b < w.length ∧ dropF (inT3 p) w = dropF (inT3 p) (w.drop b) ∧ μ1 = μ' ∧ τ' = [some (.int p), some (.ref a), some (.int q), some (.int b), some (.int w.length)]) w.length ⟨0, rfl, hw0, rfl, rfl, rfl⟩ ?_
    rintro m τ' μ1 ⟨b, hm, hb, he, rfl, rfl⟩
    walk_at "go"
    refine ite_d (fun k => ?_) (fun k => ?_)
    rotate_left
    · rw [if_neg Bool.false_ne_true]
      refine ⟨rfl, b, hb, ?_, rfl⟩
      rw [he, dropF_one]
      rw [List.length_drop]
      omega
    obtain ⟨x, hx⟩ : ∃ x, w[b + 1]? = some x := ⟨_, List.getElem?_eq_getElem (by omega)⟩
    walk_at "go"
    refine ro_ix (seq_ref ha) (atI_map (by omega) (by rw [show ((b : Int) + 1).toNat = b + 1 by omega]; exact hx)) ?_
    refine ro_inS (ds := [.int x.1, .int x.2.1, .int x.2.2]) rfl (show D.ok (.int p) = true from rfl) (show D.ok (encT x) = true from rfl) ?_
    rw [inD_t3, if_neg Bool.false_ne_true]
    refine ⟨_, rfl, ?_⟩
    refine ite_bp (fun k2 => ?_) (fun k2 => ?_)
    · walk_at "go"
      refine ro_ip ?_
      exact ⟨w.length - (b + 1), by omega, b + 1, rfl, by omega, by rw [he]; exact dropF_yes hx k2, rfl, by simp⟩
    · exact ⟨rfl, b, hb, by rw [he]; exact dropF_no hx k2, rfl⟩
  rintro τ' μ1 ⟨rfl, b, hb, he, rfl⟩
  refine s_cut (M0 := fun τ' μ2 => μ2 = μ1 ∧ ∃ e : Nat, b < e ∧ e ≤ w.length ∧ dropL (inT3 q) (w.drop b) = (w.drop b).take (e - b) ∧ τ' = [some (.int p), some (.ref a), some (.int q), some (.int b), some (.int e)]) ?_ ?_
  · refine s_while (fun m τ' μ2 => ∃ e : Nat, m = e ∧ b < e ∧ e ≤ w.length ∧ dropL (inT3 q) (w.drop b) = dropL (inT3 q) ((w.drop b).take (e - b)) ∧ μ2 = μ1 ∧ τ' = [some (.int p), some (.ref a), some (.int q), some (.int b), some (.int e)]) w.length ⟨w.length, rfl, hb, Nat.le_refl _, by rw [List.take_of_length_le (by rw [List.length_drop]; exact Nat.le_refl _)], rfl, rfl⟩ ?_
    rintro m τ' μ2 ⟨e, hm, hbe, hel, hd, rfl, rfl⟩
    walk_at "go"
    refine ite_d (fun k => ?_) (fun k => ?_)
    rotate_left
    · rw [if_neg Bool.false_ne_true]
      refine ⟨rfl, e, hbe, hel, ?_, rfl⟩
      rw [hd, dropL_one]
      rw [List.length_take]
      omega
    obtain ⟨n, rfl⟩ : ∃ n : Nat, e = b + (n + 2) := ⟨e - b - 2, by omega⟩
    obtain ⟨x, hx⟩ : ∃ x, w[b + n]? = some x := ⟨_, List.getElem?_eq_getElem (by omega)⟩
    have hx2 : (w.drop b)[n]? = some x := by rw [List.getElem?_drop]; exact hx
    have hn2 : n + 1 < (w.drop b).length := by rw [List.length_drop]; omega
    rw [show b + (n + 2) - b = n + 2 by omega] at hd
    walk_at "go"
    refine ro_ix (seq_ref ha) (atI_map (by omega) (by rw [show (((b + (n + 2) : Nat) : Int) - 2).toNat = b + n by omega]; exact hx)) ?_
    refine ro_inS (ds := [.int x.1, .int x.2.1, .int x.2.2]) rfl (show D.ok (.int q) = true from rfl) (show D.ok (encT x) = true from rfl) ?_
    rw [inD_t3, if_neg Bool.false_ne_true]
    refine ⟨_, rfl, ?_⟩
    refine ite_bp (fun k2 => ?_) (fun k2 => ?_)
    · walk_at "go"
      refine ro_ip ?_
      refine ⟨b + (n + 1), by omega, b + (n + 1), rfl, by omega, by omega, ?_, rfl, ?_⟩
      · rw [hd, dropL_yes hx2 hn2 k2, show b + (n + 1) - b = n + 1 by omega]
      · rw [show ((b + (n + 2) : Nat) : Int) - 1 = ((b + (n + 1) : Nat) : Int) by omega]
        rfl
    · refine ⟨rfl, b + (n + 2), by omega, by omega, ?_, rfl⟩
      rw [hd, dropL_no hx2 hn2 k2, show b + (n + 2) - b = n + 2 by omega]
  rintro τ' μ2 ⟨rfl, e, hbe, hel, hd, rfl⟩
  walk_at "go"
  intro l hl
  have eC : cutD (w.map encT) (some (b : Int)) (some (e : Int)) = (dropL (inT3 q) (dropF (inT3 p) w)).map encT := by
    unfold cutD
    rw [HT.sIx_nat, HT.sIx_nat, List.length_map, Nat.min_eq_left hel, Nat.min_eq_left (Nat.le_of_lt hb), he, hd, List.map_take, List.map_drop]
  rw [eC]
  exact qy l hl
def redL (w h : Int) (rows : List R4) (lv p q : Int) (walk : List (Int × Int × Int)) : List (Int × Int × Int) :=
  if (nfW (inT3 p) (inT3 q) walk).length = 1 then [(besL w h rows lv (min p q, max p q)).headD (0, 0, 0)] else nfW (inT3 p) (inT3 q) walk
def P_reduced (C T : Addr) : PT4 := fun ds μ Φ Ξ => ∃ b p q walk lv w h rows l s sp kg kt, ds = [.ref b, wayD p q walk, .int lv] ∧ Brd C μ b w h rows l s sp kg kt ∧ BOk w h rows l ∧ 0 ≤ lv ∧ lv < l ∧ μ T = some (.tab Q_g) ∧
  WayOk (trisL w h rows lv) p q walk ∧ walk.length ≤ 1000 ∧ ∀ μ', Sub2 kg kt μ μ' → Brd C μ' b w h rows l s sp kg kt → Φ (wayD p q (redL w h rows lv p q walk)) μ'
theorem len_reduced (C T : Addr) (ds : List D) (μ : M) (Φ : D → M → Prop) (Ξ : XW) (h : P_reduced C T ds μ Φ Ξ) : ds.length = 3 := by
  obtain ⟨_, _, _, _, _, _, _, _, _, _, _, _, _, rfl, _⟩ := h
  rfl
theorem push_len {s : List (Int × Int × Int)} {x : Int × Int × Int} : (pushR s x).length ≤ s.length + 1 := by
  match s with
  | [] => simp [pushR]
  | [_] => simp [pushR]
  | a :: y :: r =>
    by_cases k : y = x
    · rw [show pushR (a :: y :: r) x = y :: r by simp [pushR, k]]; simp only [List.length_cons]; omega
    · rw [show pushR (a :: y :: r) x = x :: a :: y :: r by simp [pushR, k]]; simp only [List.length_cons]; omega
theorem turns_len : ∀ {w s : List (Int × Int × Int)}, (turnsR s w).length ≤ s.length + w.length
  | [], _ => Nat.le_refl _
  | x :: w, s => by
    have h1 := turns_len (w := w) (s := pushR s x)
    have h2 := push_len (s := s) (x := x)
    show (turnsR (pushR s x) w).length ≤ _
    rw [List.length_cons]
    omega
theorem turns_pos {w : List (Int × Int × Int)} (h : 0 < w.length) : 0 < (turnsR [] w).length := by
  cases w with
  | nil => cases h
  | cons a w =>
    have e := turns_bot (w := w) (s := [a]) (a := a) rfl
    show 0 < (turnsR [a] w).length
    cases k : turnsR [a] w with
    | nil => rw [k] at e; cases e
    | cons _ _ => exact Nat.succ_pos _
theorem way_head {tris : List (Int × Int × Int)} {p q : Int} {walk : List (Int × Int × Int)} (W : WayOk tris p q walk) : (∃ a, walk.head? = some a ∧ inT3 p a = true) ∧ ∃ a, walk.getLast? = some a ∧ inT3 q a = true := by
  obtain ⟨t, h1, h2⟩ := W.hp
  obtain ⟨t', h3, h4⟩ := W.hq
  exact ⟨⟨t, by rw [List.head?_eq_getElem?]; exact h1, decide_eq_true h2⟩, t', by rw [List.getLast?_eq_getElem?]; exact h3, decide_eq_true h4⟩
theorem tri_pair {w h lv : Int} {rows : List R4} {t : Int × Int × Int} {p q : Int} (T : Tr w h rows lv t) (hp : inT3 p t = true) (hq : inT3 q t = true) (hn : q ≠ p) : (min p q, max p q) ∈ gOf w h rows lv := by
  have l1 := T.l1
  have l2 := T.l2
  rcases inT3_iff.mp hp with rfl | rfl | rfl <;> rcases inT3_iff.mp hq with e | e | e
  · exact absurd e hn
  · rw [e, Int.min_eq_left (by omega), Int.max_eq_right (by omega)]; exact T.g1
  · rw [e, Int.min_eq_left (by omega), Int.max_eq_right (by omega)]; exact T.g2
  · rw [e, Int.min_eq_right (by omega), Int.max_eq_left (by omega)]; exact T.g1
  · exact absurd e hn
  · rw [e, Int.min_eq_left (by omega), Int.max_eq_right (by omega)]; exact T.g3
  · rw [e, Int.min_eq_right (by omega), Int.max_eq_left (by omega)]; exact T.g2
  · rw [e, Int.min_eq_right (by omega), Int.max_eq_left (by omega)]; exact T.g3
  · exact absurd e hn
theorem bes_head {w h lv : Int} {rows : List R4} {t : Int × Int × Int} {p q : Int} (ht : t ∈ trisL w h rows lv) (hp : inT3 p t = true) (hq : inT3 q t = true) : ∃ x r, besL w h rows lv (min p q, max p q) = x :: r := by
  have hm : t ∈ besL w h rows lv (min p q, max p q) := by
    unfold besL
    refine List.mem_filter.mpr ⟨ht, ?_⟩
    rw [Bool.and_eq_true]
    by_cases k : p ≤ q
    · rw [show ((min p q, max p q) : Int × Int) = (p, q) by rw [Int.min_eq_left k, Int.max_eq_right k]]
      exact ⟨hp, hq⟩
    · rw [show ((min p q, max p q) : Int × Int) = (q, p) by rw [Int.min_eq_right (by omega), Int.max_eq_left (by omega)]]
      exact ⟨hq, hp⟩
  cases e : besL w h rows lv (min p q, max p q) with
  | nil => rw [e] at hm; cases hm
  | cons x r => exact ⟨x, r, rfl⟩
theorem ok_reduced {f : Addr} {fd : FuncData} {kws : List (Str × V)} (F : FunD K "reduced" "reduced" (defArgs s_reduced) (defBody s_reduced) (defScope s_reduced) [] kws f fd) (B : Bs mg) {T_g : Addr} {C_Board : Addr} (K_Board : Cl_Board K C_Board) (G_without_ends : Def P w K mg base "without_ends" ["first", "triangles", "last"] 1 (spI K P_without_ends)) (G_without_turns : Def P w K mg base "without_turns" ["triangles"] 1 (spI K P_without_turns)) (N_board_beside_1_layer : MthN P w K mg base C_Board "beside" ["self", "gate", "layer"] 1 ["layer"] [(true, 0)] [] 10 (spX K (xn mg) (P_board_beside C_Board T_g))) : FnOk P w K mg base (L2.CX P w) 12 f fd ["board", "way", "layer"] (spX K (xn mg) (P_reduced C_Board T_g)) := by
  refine F.ok (CX := L2.CX P w) sc_reduced (fun vs H Q E h => spX_len h (len_reduced C_Board T_g)) (fun cdv A outer s H vs Q E hr h => ?_)
  have hu65 := hu65_of hr
  refine ⟨_, (pss_cons (ps_asg (pv 1) (pg_tup (by rfl) (pgs_cons (pg_name (i := 3) sc_reduced.nd rfl (by first | exact Or.inl rfl | exact Or.inr rfl)) (pgs_cons (pg_name (i := 4) sc_reduced.nd rfl (by first | exact Or.inl rfl | exact Or.inr rfl)) (pgs_cons (pg_name (i := 5) sc_reduced.nd rfl (by first | exact Or.inl rfl | exact Or.inr rfl)) pgs_nil)))))
      (pss_cons (ps_set (i := 6) sc_reduced.nd rfl (by first | exact Or.inl rfl | exact Or.inr rfl) (pe_def G_without_ends (hr.mono (by decide)) (by rfl) (pa_cons (pv 3) (pa_cons (pe_def G_without_turns (hr.mono (by decide)) (by rfl) (pa_cons (pv 4) pa_nil)) (pa_cons (pv 5) pa_nil)))))
      (pss_cons (ps_if (pt_cmpR op_eq (pe_callB (call_lenK (K := K) rfl) (by rfl) B.b_len (by decide +kernel) (pa_cons (pv 6) pa_nil)) pe_int (by first | exact nomark _ | rfl)) (pss_cons (ps_set (i := 7) sc_reduced.nd rfl (by first | exact Or.inl rfl | exact Or.inr rfl) (pe_tup (pa_cons (pe_callB (call_min2 rfl) (by rfl) B.b_min (by decide +kernel) (pa_cons (pv 3) (pa_cons (pv 5) pa_nil))) (pa_cons (pe_callB (call_max2 rfl) (by rfl) B.b_max (by decide +kernel) (pa_cons (pv 3) (pa_cons (pv 5) pa_nil))) pa_nil))))
      (pss_one (ps_set (i := 6) sc_reduced.nd rfl (by first | exact Or.inl rfl | exact Or.inr rfl) (pe_lst (pa_cons (pe_ix (ix_seqK (K := K) rfl) (pe_mthK N_board_beside_1_layer (hr.mono (by decide)) (pv 0) (pa_cons (pv 7) pa_nil) (pk_cons (pv 2) pk_nil)) pe_int (fun _ _ => rfl)) pa_nil))))) pss_nil)
      (pss_one (ps_ret (pe_tup (pa_cons (pv 3) (pa_cons (pe_callTy (call_tupleK (K := K) rfl) (by rfl) B.b_tuple (by decide +kernel) (pa_cons (pv 6) pa_nil)) (pa_cons (pv 5) pa_nil))))))))), body_okXU h (fun ds μ Φ Ξ p => ?_)⟩
  (try dsimp only [cxOf, Cx.nox, Cx.wish, List.map_cons, List.map_nil])
  obtain ⟨b, p, q, walk, lv, w, h, rows, l, s, sp, kg, kt, rfl, BR, OK, l0, l1, hT, WO, wl, qy⟩ := p
  show AS K _ [some _, some _, some _, none, none, none, none, none] _ _
  walk_at "go"
  have WH := way_head WO
  have hw0 : 0 < walk.length := by
    obtain ⟨⟨a, ha, _⟩, _⟩ := WH
    cases walk with
    | nil => cases ha
    | cons _ _ => exact Nat.succ_pos _
  obtain ⟨dx, gl, tl, lvs, hb, _⟩ := id BR
  refine ⟨walk, rfl, wl, fun l1' hl1 => ?_⟩
  walk_at "go"
  refine ⟨p, q, l1', (turnsR [] walk).reverse, rfl, set_same, by rw [List.length_reverse]; exact turns_pos hw0, by rw [List.length_reverse]; exact Nat.le_trans turns_len (by rw [List.length_nil]; omega), fun l2 hl2 => ?_⟩
  have sub2 : Sub μ ((μ.set l1' (.lst ((turnsR [] walk).reverse.map encT))).set l2 (.lst ((nfW (inT3 p) (inT3 q) walk).map encT))) := sub_new (sub_new Sub.refl hl1) hl2
  have h2 : ((μ.set l1' (.lst ((turnsR [] walk).reverse.map encT))).set l2 (.lst ((nfW (inT3 p) (inT3 q) walk).map encT))) l2 = some (.lst ((nfW (inT3 p) (inT3 q) walk).map encT)) := set_same
  show AG K _ _ _ ((μ.set l1' (.lst ((turnsR [] walk).reverse.map encT))).set l2 (.lst ((nfW (inT3 p) (inT3 q) walk).map encT))) _
  generalize ((μ.set l1' (.lst ((turnsR [] walk).reverse.map encT))).set l2 (.lst ((nfW (inT3 p) (inT3 q) walk).map encT))) = μ2 at sub2 h2 ⊢
  have BR2 := BR.sub sub2
  have hT2 := sub2 _ _ hT
  walk_at "go"
  rw [List.length_map]
  refine ite_d (fun k => ?_) (fun k => ?_)
  rotate_left
  · have k2 : ¬ (nfW (inT3 p) (inT3 q) walk).length = 1 := by omega
    have eR : redL w h rows lv p q walk = nfW (inT3 p) (inT3 q) walk := if_neg k2
    walk_at "go"
    refine rc_tuple (seq_ref h2) ?_
    walk_at "go"
    have e := qy μ2 (fun a m _ _ e => sub2 a m e) BR2
    rw [eR] at e
    exact up e
  have k2 : (nfW (inT3 p) (inT3 q) walk).length = 1 := by omega
  have eR : redL w h rows lv p q walk = [(besL w h rows lv (min p q, max p q)).headD (0, 0, 0)] := if_pos k2
  obtain ⟨n1, n2⟩ := nf_ends WH.1 WH.2
  obtain ⟨t, ht⟩ : ∃ t, nfW (inT3 p) (inT3 q) walk = [t] := by
    match e : nfW (inT3 p) (inT3 q) walk, k2 with
    | [t], _ => exact ⟨t, rfl⟩
  have htm : t ∈ walk := nf_mem (P := inT3 p) (Q := inT3 q) (by rw [ht]; exact List.mem_cons_self)
  rw [ht] at n1 n2
  obtain ⟨_, e1, tp⟩ := n1
  obtain ⟨_, e2, tq⟩ := n2
  cases e1
  cases e2
  have TR := tr_of (WO.mem t htm)
  have hg := tri_pair TR tp tq WO.ne
  obtain ⟨x, r, ex⟩ := bes_head (WO.mem t htm) tp tq
  have emin : (if q < p then q else p) = min p q := by split <;> omega
  have emax : (if q > p then q else p) = max p q := by split <;> omega
  walk_at "go"
  rw [emin, emax]
  obtain ⟨dx, gl, tl, lvs, hb, _⟩ := id BR2
  refine a_mthK [] (fun H => .nil) ?_
  walk_at "go"
  refine ⟨b, dx, _, rfl, hb, rfl, ?_⟩
  walk_at "go"
  refine ⟨rfl, rfl, ?_⟩
  refine use_beside (g := (min p q, max p q)) BR2 OK l0 l1 hT2 hg fun μ3 s3 BR3 => ?_
  rw [ex]
  walk_at "go"
  refine ro_ix (ds := (x :: r).map encT) rfl (atI_map (f := encT) (l := x :: r) (by decide) rfl) ?_
  walk_at "go"
  intro l5 hl5
  have s5 : Sub2 kg kt μ (μ3.set l5 (.lst [encT x])) := fun a m n1 n2 e => by
    have e' := s3 a m n1 n2 (sub2 a m e)
    rw [set_ne (by rintro rfl; rw [hl5] at e'; cases e')]
    exact e'
  have BR5 := BR3.sub (sub_new (Y := .lst [encT x]) Sub.refl hl5)
  have e := qy _ s5 BR5
  rw [eR, ex] at e
  walk_at "go"
  refine rc_tuple (seq_ref set_same) ?_
  walk_at "go"
  exact up e
theorem use_reduced {C T : Addr} {μ : M} {Φ : D → M → Prop} {Ξ : XW} {b : Addr} {p q lv w h l s : Int} {rows : List R4} {sp kg kt : Addr} {walk : List (Int × Int × Int)} (B : Brd C μ b w h rows l s sp kg kt) (OK : BOk w h rows l) (h0 : 0 ≤ lv) (h1 : lv < l) (hT : μ T = some (.tab Q_g)) (WO : WayOk (trisL w h rows lv) p q walk) (hw : walk.length ≤ 1000)
    (k : ∀ μ', Sub2 kg kt μ μ' → Brd C μ' b w h rows l s sp kg kt → Φ (wayD p q (redL w h rows lv p q walk)) μ') : P_reduced C T [.ref b, wayD p q walk, .int lv] μ Φ Ξ := ⟨b, p, q, walk, lv, w, h, rows, l, s, sp, kg, kt, rfl, B, OK, h0, h1, hT, WO, hw, k⟩
def lawM3 (ns : List Int) : Int := if (if ((ns.map D.int).length : Int) < 3 then ((ns.map D.int).length : Int) else 3) > 1 then (if ((ns.map D.int).length : Int) < 3 then ((ns.map D.int).length : Int) else 3) else 1
theorem lawM3_le (ns : List Int) : 1 ≤ lawM3 ns ∧ lawM3 ns ≤ 3 := by
  unfold lawM3
  constructor <;> split <;> (try split) <;> omega
theorem shared_rise {t t' : Int × Int × Int} (h1 : t.1 < t.2.1) (h2 : t.2.1 < t.2.2) : (sharedL t t').Pairwise (· < ·) := by
  unfold sharedL
  refine List.Pairwise.filter _ ?_
  simp only [List.pairwise_cons, List.mem_cons, List.not_mem_nil, or_false, List.Pairwise.nil, and_true, forall_eq_or_imp, forall_eq, false_imp_iff, implies_true]
  omega
theorem mem_shared {t t' : Int × Int × Int} {x : Int} : x ∈ sharedL t t' ↔ x ∈ pinsT t ∧ x ∈ pinsT t' := by
  unfold sharedL
  rw [List.mem_filter]
  unfold inT3
  rw [decide_eq_true_eq]
theorem shared_comm {w h lv : Int} {rows : List R4} {t t' : Int × Int × Int} (T : Tr w h rows lv t) (T' : Tr w h rows lv t') : sharedL t t' = sharedL t' t := by
  have a := shared_rise (t' := t') T.l1 T.l2
  have b := shared_rise (t' := t) T'.l1 T'.l2
  refine List.Perm.eq_of_pairwise (le := fun x y : Int => x < y) (fun x y _ _ e1 e2 => absurd e1 (by omega)) a b ((List.perm_ext_iff_of_nodup (a.imp fun e => Int.ne_of_lt e) (b.imp fun e => Int.ne_of_lt e)).mpr fun x => ?_)
  rw [mem_shared, mem_shared]
  exact And.comm
theorem eqv_same {n : Nat} {d : D} (h : OkN n d) : D.eqv d d = true := SeqAt.eqv_refl _ h.l
theorem okn_way {p q : Int} {walk : List (Int × Int × Int)} : OkN 3 (wayD p q walk) := okn_tup fun z hz => by
  simp only [List.mem_cons, List.not_mem_nil, or_false] at hz
  rcases hz with rfl | rfl | rfl
  · exact okn_int.mono (by decide)
  · exact okn_tup fun x hx => by
      obtain ⟨t, _, rfl⟩ := List.mem_map.mp hx
      exact okn_t3
  · exact okn_int.mono (by decide)
theorem way_rev {w h lv : Int} {rows : List R4} {p q : Int} {walk : List (Int × Int × Int)} (TR : ∀ t ∈ walk, Tr w h rows lv t) (W : WayOk (trisL w h rows lv) p q walk) : WayOk (trisL w h rows lv) q p walk.reverse := by
  have h0 : 0 < walk.length := by
    obtain ⟨t, ht, _⟩ := W.hp
    exact (List.getElem?_eq_some_iff.mp ht).1
  refine ⟨fun t ht => W.mem t (List.mem_reverse.mp ht), fun i t t' h1 h2 => ?_, ?_, ?_, Ne.symm W.ne⟩
  · have hi := (List.getElem?_eq_some_iff.mp h2).1
    rw [List.length_reverse] at hi
    rw [List.getElem?_reverse (by omega)] at h1
    rw [List.getElem?_reverse hi] at h2
    have e := W.near (walk.length - 1 - (i + 1)) t' t h2 (by rw [show walk.length - 1 - (i + 1) + 1 = walk.length - 1 - i by omega]; exact h1)
    unfold nearP at e ⊢
    rw [shared_comm (TR t (List.mem_of_getElem? h1)) (TR t' (List.mem_of_getElem? h2))]
    rw [Bool.and_eq_true] at e ⊢
    exact ⟨decide_eq_true (Ne.symm (of_decide_eq_true e.1)), e.2⟩
  · obtain ⟨t, ht, hq⟩ := W.hq
    exact ⟨t, by rw [List.getElem?_reverse h0]; exact ht, hq⟩
  · obtain ⟨t, ht, hp⟩ := W.hp
    exact ⟨t, by rw [List.getElem?_reverse (by rw [List.length_reverse]; omega), List.length_reverse, show walk.length - 1 - (walk.length - 1) = 0 by omega]; exact ht, hp⟩
/-- the same way, or one that winds alike -/
def P_l_spoiled : PT3 := fun ds μ Φ => ∃ (b nr : Addr) (c m w h fl lv p q : Int) (rows : List R4) (walk : List (Int × Int × Int)), ds = [.ref b, .ref nr, wayD p q walk] ∧ μ b = some (.lst [.int c, .int m]) ∧ BgOk m ∧ NearAt μ nr (trisL w h rows lv) ∧ BOk w h rows fl ∧ Bd w h rows ∧ WayOk (trisL w h rows lv) p q walk ∧ walk.length ≤ 900 ∧
  ∀ walk' μ' c' m', WayOk (trisL w h rows lv) p q walk' → (walk'.length ≤ walk.length + 2 ∧ (walk.length ≤ 52 → walk'.length ≤ 52)) → Alike (nfW (inT3 p) (inT3 q) walk') (nfW (inT3 p) (inT3 q) walk) → SubB b μ μ' → μ' b = some (.lst [.int c', .int m']) → BgOk m' → Φ (wayD p q walk') μ'
theorem len_l_spoiled (ds : List D) (μ : M) (Φ : D → M → Prop) (h : P_l_spoiled ds μ Φ) : ds.length = 3 := by
  obtain ⟨_, _, _, _, _, _, _, _, _, _, _, _, rfl, _⟩ := h
  rfl
theorem near_sub {μ μ' : M} {nr b : Addr} {c m : Int} {tris : List (Int × Int × Int)} (NR : NearAt μ nr tris) (hb : μ b = some (.lst [.int c, .int m])) (sb : SubB b μ μ') : NearAt μ' nr tris := NR.sub fun a m e k => sb a m (by
  rintro rfl
  rw [hb] at e
  cases e
  rcases k with ⟨_, k⟩ | ⟨ds, k⟩
  · cases k
  · exact no_bag k) e
/-- what the dict holds at a triangle: the list of those near to it -/
theorem near_at {μ : M} {nr : Addr} {tris : List (Int × Int × Int)} (NR : NearAt μ nr tris) {t : Int × Int × Int} (ht : t ∈ tris) : ∃ kvs sm, μ nr = some (.dT kvs) ∧ valD kvs (keyT t) = some (.ref sm) ∧ μ sm = some (.lst ((nearL tris t).map encT)) := by
  obtain ⟨kvs, h1, _, h3⟩ := NR
  obtain ⟨sm, a, _, b⟩ := h3 t ht
  exact ⟨kvs, sm, h1, a, b⟩
theorem near_of {tris : List (Int × Int × Int)} {t x : Int × Int × Int} (h : x ∈ nearL tris t) : x ∈ tris ∧ nearP t x = true := List.mem_filter.mp h
theorem nearP_comm {w h lv : Int} {rows : List R4} {t t' : Int × Int × Int} (T : Tr w h rows lv t) (T' : Tr w h rows lv t') : nearP t t' = nearP t' t := by
  unfold nearP
  rw [shared_comm T T']
  congr 1
  exact decide_eq_decide.mpr ⟨Ne.symm, Ne.symm⟩
theorem ins_get {α : Type} {w : List α} {n : Nat} {x : α} (hn : n < w.length) (i : Nat) : (w.take (n + 1) ++ x :: w.drop n)[i]? = if i ≤ n then w[i]? else if i = n + 1 then some x else w[i - 2]? := by
  have hl : (w.take (n + 1)).length = n + 1 := by rw [List.length_take]; omega
  by_cases k : i ≤ n
  · rw [if_pos k, List.getElem?_append_left (by omega), List.getElem?_take, if_pos (by omega)]
  · rw [if_neg k, List.getElem?_append_right (by omega), hl]
    by_cases k2 : i = n + 1
    · rw [if_pos k2, k2, Nat.sub_self]; rfl
    · rw [if_neg k2]
      obtain ⟨j, rfl⟩ : ∃ j, i = n + 2 + j := ⟨i - (n + 2), by omega⟩
      rw [show n + 2 + j - (n + 1) = j + 1 by omega, List.getElem?_cons_succ, List.getElem?_drop, show n + 2 + j - 2 = n + j by omega]
theorem way_ins {w h lv : Int} {rows : List R4} {p q : Int} {walk : List (Int × Int × Int)} {n : Nat} {t x : Int × Int × Int} (TR : ∀ t ∈ walk, Tr w h rows lv t) (W : WayOk (trisL w h rows lv) p q walk) (ht : walk[n]? = some t) (hx : x ∈ nearL (trisL w h rows lv) t) :
    WayOk (trisL w h rows lv) p q (walk.take (n + 1) ++ x :: walk.drop n) ∧ nfW (inT3 p) (inT3 q) (walk.take (n + 1) ++ x :: walk.drop n) = nfW (inT3 p) (inT3 q) walk := by
  obtain ⟨hx1, hx2⟩ := near_of hx
  have hn := (List.getElem?_eq_some_iff.mp ht).1
  have T := TR t (List.mem_of_getElem? ht)
  have X := tr_of hx1
  refine ⟨⟨fun y hy => ?_, fun i a b h1 h2 => ?_, ?_, ?_, W.ne⟩, ?_⟩
  · rcases List.mem_append.mp hy with z | z
    · exact W.mem y (List.mem_of_mem_take z)
    · rcases List.mem_cons.mp z with rfl | z
      · exact hx1
      · exact W.mem y (List.mem_of_mem_drop z)
  · rw [ins_get hn] at h1 h2
    by_cases k : i < n
    · rw [if_pos (by omega)] at h1 h2
      exact W.near i a b h1 h2
    · by_cases k2 : i = n
      · rw [if_pos (by omega), k2, ht] at h1
        rw [if_neg (by omega), if_pos (by omega)] at h2
        cases h1
        cases h2
        exact hx2
      · by_cases k3 : i = n + 1
        · rw [if_neg (by omega), if_pos k3] at h1
          rw [if_neg (by omega), if_neg (by omega), k3, show n + 1 + 1 - 2 = n by omega, ht] at h2
          cases h1
          cases h2
          rw [nearP_comm X T]
          exact hx2
        · rw [if_neg (by omega), if_neg k3] at h1
          rw [if_neg (by omega), if_neg (by omega)] at h2
          exact W.near (i - 2) a b h1 (by rw [show i - 2 + 1 = i + 1 - 2 by omega]; exact h2)
  · obtain ⟨s, h1, h2⟩ := W.hp
    exact ⟨s, by rw [ins_get hn, if_pos (Nat.zero_le _)]; exact h1, h2⟩
  · obtain ⟨s, h1, h2⟩ := W.hq
    refine ⟨s, ?_, h2⟩
    have hl : (walk.take (n + 1) ++ x :: walk.drop n).length = walk.length + 2 := by
      rw [List.length_append, List.length_cons, List.length_take, List.length_drop]
      omega
    rw [hl, ins_get hn, if_neg (by omega), show walk.length + 2 - 1 - 2 = walk.length - 1 by omega]
    by_cases k : n = walk.length - 1
    · rw [if_neg (by omega)]; exact h1
    · rw [if_neg (by omega)]; exact h1
  · have e1 : walk = walk.take n ++ t :: walk.drop (n + 1) := by
      obtain ⟨_, e⟩ := List.getElem?_eq_some_iff.mp ht
      rw [← e, ← List.drop_eq_getElem_cons hn, List.take_append_drop]
    have e2 : walk.take (n + 1) ++ x :: walk.drop n = walk.take n ++ t :: x :: t :: walk.drop (n + 1) := by
      obtain ⟨_, e⟩ := List.getElem?_eq_some_iff.mp ht
      rw [tksnoc ht, List.append_assoc, List.drop_eq_getElem_cons hn, e]
      rfl
    rw [e2, nf_mid, ← e1]
theorem cut_take {ds : List D} {n : Nat} (h : n + 1 ≤ ds.length) : cutD ds none (some ((n : Int) + 1)) = ds.take (n + 1) := by
  unfold cutD
  rw [show ((n : Int) + 1) = ((n + 1 : Nat) : Int) by omega, HT.sIx_nat, HT.sIx_none, Nat.min_eq_left h]
  rfl
theorem cut_drop {ds : List D} {n : Nat} (h : n ≤ ds.length) : cutD ds (some (n : Int)) none = ds.drop n := by
  unfold cutD
  rw [HT.sIx_nat, HT.sIx_none, Nat.min_eq_left h, List.take_of_length_le]
  rw [List.length_drop]
  exact Nat.le_refl _
theorem in_pins {p : Int} {t : Int × Int × Int} : inT3 p t = true ↔ p ∈ pinsT t := by
  unfold inT3
  exact decide_eq_true_iff
theorem way_front {w h lv : Int} {rows : List R4} {p q : Int} {walk : List (Int × Int × Int)} {t x : Int × Int × Int} (TR : ∀ t ∈ walk, Tr w h rows lv t) (W : WayOk (trisL w h rows lv) p q walk) (ht : walk[0]? = some t) (hx : x ∈ nearL (trisL w h rows lv) t) (hp : inT3 p x = true) :
    WayOk (trisL w h rows lv) p q (x :: walk) ∧ nfW (inT3 p) (inT3 q) (x :: walk) = nfW (inT3 p) (inT3 q) walk := by
  obtain ⟨hx1, hx2⟩ := near_of hx
  have T := TR t (List.mem_of_getElem? ht)
  have X := tr_of hx1
  obtain ⟨s, h1, h2⟩ := W.hp
  rw [ht] at h1
  cases h1
  refine ⟨⟨fun y hy => ?_, fun i a b e1 e2 => ?_, ⟨x, rfl, in_pins.mp hp⟩, ?_, W.ne⟩, ?_⟩
  · rcases List.mem_cons.mp hy with rfl | z
    · exact hx1
    · exact W.mem y z
  · cases i with
    | zero =>
      rw [List.getElem?_cons_succ, ht] at e2
      cases e1
      cases e2
      rw [nearP_comm X T]
      exact hx2
    | succ i =>
      rw [List.getElem?_cons_succ] at e1 e2
      exact W.near i a b e1 e2
  · obtain ⟨s, h3, h4⟩ := W.hq
    refine ⟨s, ?_, h4⟩
    have hl := (List.getElem?_eq_some_iff.mp h3).1
    rw [List.length_cons, show walk.length + 1 - 1 = (walk.length - 1) + 1 by omega, List.getElem?_cons_succ]
    exact h3
  · cases walk with
    | nil => cases ht
    | cons c r =>
      cases ht
      refine nf_first r (fun e => ?_) hp (in_pins.mpr h2)
      rw [e] at hx2
      simp [nearP] at hx2
theorem way_back {w h lv : Int} {rows : List R4} {p q : Int} {walk : List (Int × Int × Int)} {t x : Int × Int × Int} (W : WayOk (trisL w h rows lv) p q walk) (ht : walk[walk.length - 1]? = some t) (hx : x ∈ nearL (trisL w h rows lv) t) (hq : inT3 q x = true) :
    WayOk (trisL w h rows lv) p q (walk ++ [x]) ∧ Alike (nfW (inT3 p) (inT3 q) (walk ++ [x])) (nfW (inT3 p) (inT3 q) walk) := by
  obtain ⟨hx1, hx2⟩ := near_of hx
  have h0 : 0 < walk.length := by have := (List.getElem?_eq_some_iff.mp ht).1; omega
  obtain ⟨s, h3, h4⟩ := W.hq
  rw [ht] at h3
  cases h3
  have WL := walk_more ⟨W.mem, W.near⟩ h0 ht hx
  refine ⟨⟨WL.mem, WL.near, ?_, ⟨x, ?_, in_pins.mp hq⟩, W.ne⟩, ?_⟩
  · obtain ⟨s, h1, h2⟩ := W.hp
    exact ⟨s, by rw [List.getElem?_append_left h0]; exact h1, h2⟩
  · rw [List.length_append, List.length_singleton, show walk.length + 1 - 1 = walk.length by omega, List.getElem?_append_right (Nat.le_refl _), Nat.sub_self]
    rfl
  · rcases List.eq_nil_or_concat walk with rfl | ⟨w', b, rfl⟩
    · cases h0
    · rw [List.concat_eq_append] at ht ⊢
      rw [List.length_append, List.length_singleton, show w'.length + 1 - 1 = w'.length by omega, List.getElem?_append_right (Nat.le_refl _), Nat.sub_self] at ht
      cases ht
      rw [List.append_assoc]
      exact nf_last w' hq (in_pins.mpr h4)
theorem round_eq {p : Int} {l : List (Int × Int × Int)} : (l.map encT).filter (fun d => match d with | .tup xs => inD (.int p) xs | _ => false) = (l.filter (inT3 p)).map encT := by
  rw [List.filter_map]
  congr 1
  refine List.filter_congr fun s _ => ?_
  exact inD_t3
theorem ok_l_spoiled {f : Addr} {fd : FuncData} (F : Fun K "_law_spoiled" "_law_spoiled" s_l_spoiled f fd) (B : Bs mg) (G_l_take : Def P w K mg base "_law_take" ["_law_bag_here", "_law_many"] 1 (spI K P_l_take)) : FnOk P w K mg base CX0 2 f fd ["_law_bag_here", "_law_near_here", "_law_way_here"] (spI K P_l_spoiled) := by
  refine F.ok sc_l_spoiled (fun vs H Q E h => spI_len h len_l_spoiled) (fun cdv A outer s H vs Q E hr h => ?_)
  have hu65 := hu65_of hr
  refine ⟨_, (pss_cons (ps_asg (pv 2) (pg_tup (by rfl) (pgs_cons (pg_name (i := 3) sc_l_spoiled.nd rfl (by first | exact Or.inl rfl | exact Or.inr rfl)) (pgs_cons (pg_name (i := 4) sc_l_spoiled.nd rfl (by first | exact Or.inl rfl | exact Or.inr rfl)) (pgs_cons (pg_name (i := 5) sc_l_spoiled.nd rfl (by first | exact Or.inl rfl | exact Or.inr rfl)) pgs_nil)))))
      (pss_cons (ps_set (i := 6) sc_l_spoiled.nd rfl (by first | exact Or.inl rfl | exact Or.inr rfl) (pe_def G_l_take (hr.mono (by decide)) (by rfl) (pa_cons (pv 0) (pa_cons pe_int pa_nil))))
      (pss_cons (ps_if (pt_cmpR op_gt (pe_callB (call_lenK (K := K) rfl) (by rfl) B.b_len (by decide +kernel) (pa_cons (pv 4) pa_nil)) pe_int (by first | exact nomark _ | rfl)) (pss_one (ps_ret (pv 2))) pss_nil)
      (pss_cons (ps_if (pt_cmpR op_lt (pv 6) pe_int (by first | exact nomark _ | rfl)) (pss_cons (ps_set (i := 7) sc_l_spoiled.nd rfl (by first | exact Or.inl rfl | exact Or.inr rfl) (pe_def G_l_take (hr.mono (by decide)) (by rfl) (pa_cons (pv 0) (pa_cons (pe_callB (call_lenK (K := K) rfl) (by rfl) B.b_len (by decide +kernel) (pa_cons (pv 4) pa_nil)) pa_nil))))
      (pss_cons (ps_set (i := 8) sc_l_spoiled.nd rfl (by first | exact Or.inl rfl | exact Or.inr rfl) (pe_ix (ix_seqK (K := K) rfl) (pe_dget (hu_of hr) (pv 1) (pe_ix (ix_seqK (K := K) rfl) (pv 4) (pv 7) (fun _ _ => rfl)) (fun _ _ => rfl)) (pe_def G_l_take (hr.mono (by decide)) (by rfl) (pa_cons (pv 0) (pa_cons (pe_callB (call_lenK (K := K) rfl) (by rfl) B.b_len (by decide +kernel) (pa_cons (pe_dget (hu_of hr) (pv 1) (pe_ix (ix_seqK (K := K) rfl) (pv 4) (pv 7) (fun _ _ => rfl)) (fun _ _ => rfl)) pa_nil)) pa_nil))) (fun _ _ => rfl)))
      (pss_one (ps_ret (pe_tup (pa_cons (pv 3) (pa_cons (pe_op (op_catAK (K := K) rfl) (pe_op (op_catAK (K := K) rfl) (pe_slice (sl_tupAK (K := K) rfl) (pv 4) po_none (po_some (pe_op op_add (pv 7) pe_int))) (pe_tup (pa_cons (pv 8) pa_nil))) (pe_slice (sl_tupAK (K := K) rfl) (pv 4) (po_some (pv 7)) po_none)) (pa_cons (pv 5) pa_nil)))))))) pss_nil)
      (pss_cons (ps_if (pt_cmpR op_eq (pv 6) pe_int (by first | exact nomark _ | rfl)) (pss_cons (ps_setLc (i := 9) (own := [("_law_one", 10)]) (g := gName 10)  rfl sc_l_spoiled.nd rfl rfl (sw_true rfl rfl rfl (by decide +kernel)) (pi_listK (K := K) rfl (pe_dget (hu_of hr) (pv 1) (pe_ix (ix_seqK (K := K) rfl) (pv 4) pe_int (fun _ _ => rfl)) (fun _ _ => rfl))) (blkOk_by (own := [("_law_one", 10)]) (N := N_l_spoiled) (sc := defScope s_l_spoiled) (by decide +kernel)) (fun _ _ _ _ _ => (pg_name (i := 10) sc_l_spoiled.nd rfl (by first | exact Or.inl rfl | exact Or.inr rfl))) (fun _ _ _ _ _ => (pts_one (pt_cmpR (op_inSK (K := K) rfl hu65) (pv 3) (pv 10) (by first | exact nomark _ | rfl)))) (fun _ _ _ _ _ => (pv 10)))
      (pss_one (ps_ret (pe_ifExp (pt_cmpR (op_neDK (K := K) rfl hr.units) (pv 9) (pe_lst pa_nil) (by first | exact nomark _ | rfl)) (pe_tup (pa_cons (pv 3) (pa_cons (pe_op (op_catAK (K := K) rfl) (pe_tup (pa_cons (pe_ix (ix_seqK (K := K) rfl) (pv 9) (pe_def G_l_take (hr.mono (by decide)) (by rfl) (pa_cons (pv 0) (pa_cons (pe_callB (call_lenK (K := K) rfl) (by rfl) B.b_len (by decide +kernel) (pa_cons (pv 9) pa_nil)) pa_nil))) (fun _ _ => rfl)) pa_nil)) (pv 4)) (pa_cons (pv 5) pa_nil)))) (pv 2))))) pss_nil)
      (pss_cons (ps_setLc (i := 9) (own := [("_law_one", 10)]) (g := gName 10)  rfl sc_l_spoiled.nd rfl rfl (sw_true rfl rfl rfl (by decide +kernel)) (pi_listK (K := K) rfl (pe_dget (hu_of hr) (pv 1) (pe_ix (ix_seqK (K := K) rfl) (pv 4) (pe_un un_neg pe_int) (fun _ _ => rfl)) (fun _ _ => rfl))) (blkOk_by (own := [("_law_one", 10)]) (N := N_l_spoiled) (sc := defScope s_l_spoiled) (by decide +kernel)) (fun _ _ _ _ _ => (pg_name (i := 10) sc_l_spoiled.nd rfl (by first | exact Or.inl rfl | exact Or.inr rfl))) (fun _ _ _ _ _ => (pts_one (pt_cmpR (op_inSK (K := K) rfl hu65) (pv 5) (pv 10) (by first | exact nomark _ | rfl)))) (fun _ _ _ _ _ => (pv 10)))
      (pss_one (ps_ret (pe_ifExp (pt_cmpR (op_neDK (K := K) rfl hr.units) (pv 9) (pe_lst pa_nil) (by first | exact nomark _ | rfl)) (pe_tup (pa_cons (pv 3) (pa_cons (pe_op (op_catAK (K := K) rfl) (pv 4) (pe_tup (pa_cons (pe_ix (ix_seqK (K := K) rfl) (pv 9) (pe_def G_l_take (hr.mono (by decide)) (by rfl) (pa_cons (pv 0) (pa_cons (pe_callB (call_lenK (K := K) rfl) (by rfl) B.b_len (by decide +kernel) (pa_cons (pv 9) pa_nil)) pa_nil))) (fun _ _ => rfl)) pa_nil))) (pa_cons (pv 5) pa_nil)))) (pv 2)))))))))), body_ok h (fun ds μ Φ p => ?_)⟩
  (try dsimp only [cxOf, Cx.nox, Cx.wish, List.map_cons, List.map_nil])
  obtain ⟨b, nr, c, m, w, h, fl, lv, p, q, rows, walk, rfl, hb, hm, NR, OK, BD, WO, hw, qy⟩ := p
  show AS K _ [some _, some _, some _, none, none, none, none, none, none, none, none] _ _
  have TRS : ∀ t ∈ walk, Tr w h rows lv t := fun t ht => tr_of (WO.mem t ht)
  have hw0 : 0 < walk.length := by
    obtain ⟨t, ht, _⟩ := WO.hp
    exact (List.getElem?_eq_some_iff.mp ht).1
  have zz := sizeLine_eq
  walk_at "go"
  refine use_take hb hm (by decide) (by walk_at "szN") fun d c1 m1 d0 d1 sd hm1 => ?_
  have sb1 : SubB b μ (μ.set b (.lst [.int c1, .int m1])) := sb_self sb_refl
  have NR1 := near_sub NR hb sb1
  have hb1 : (μ.set b (.lst [.int c1, .int m1])) b = some (.lst [.int c1, .int m1]) := set_same
  generalize (μ.set b (.lst [.int c1, .int m1])) = μ1 at sb1 NR1 hb1 ⊢
  walk_at "go"
  rw [List.length_map]
  refine ite_d (fun k => ?_) (fun k => ?_)
  · walk_at "go"
    exact qy walk μ1 c1 m1 WO ⟨by omega, fun e => e⟩ (.inl rfl) sb1 hb1 hm1
  walk_at "go"
  refine ite_d (fun k1 => ?_) (fun k1 => ?_)
  · walk_at "go"
    rw [List.length_map]
    refine use_take hb1 hm1 (by omega) (sz_len (by omega)) fun at' c2 m2 a0 a1 sa hm2 => ?_
    have sb2 : SubB b μ (μ1.set b (.lst [.int c2, .int m2])) := sb_self sb1
    have NR2 := near_sub NR hb sb2
    have hb2 : (μ1.set b (.lst [.int c2, .int m2])) b = some (.lst [.int c2, .int m2]) := set_same
    generalize (μ1.set b (.lst [.int c2, .int m2])) = μ2 at sb2 NR2 hb2 ⊢
    obtain ⟨n, rfl⟩ : ∃ n : Nat, at' = n := ⟨at'.toNat, by omega⟩
    obtain ⟨t, ht⟩ : ∃ t, walk[n]? = some t := ⟨_, List.getElem?_eq_getElem (by omega)⟩
    obtain ⟨kvs, sm, hn, hv, hsm⟩ := near_at NR2 (WO.mem t (List.mem_of_getElem? ht))
    walk_at "go"
    refine a_dget ?_
    walk_at "go"
    refine ro_ix (ds := walk.map encT) rfl (atI_map (by omega) ht) ?_
    refine ⟨nr, _, rfl, .inr (.inl ⟨kvs, keyT t, hn, rfl, hv.symm⟩), ?_⟩
    walk_at "go"
    refine a_dget ?_
    walk_at "go"
    refine ro_ix (ds := walk.map encT) rfl (atI_map (by omega) ht) ?_
    refine ⟨nr, _, rfl, .inr (.inl ⟨kvs, keyT t, hn, rfl, hv.symm⟩), ?_⟩
    walk_at "go"
    rw [List.length_map]
    have hnp : 0 < (nearL (trisL w h rows lv) t).length := by
      obtain ⟨t', h1, h2, h3⟩ := tri_next BD (WO.mem t (List.mem_of_getElem? ht))
      exact List.length_pos_of_mem (a := t') (List.mem_filter.mpr ⟨h1, by simp [nearP, h2, h3]⟩)
    have hnl : (nearL (trisL w h rows lv) t).length ≤ 8000 := Nat.le_trans (List.length_filter_le _ _) (tris_len OK)
    have nsb : sm ≠ b := by
      rintro rfl
      rw [hb2] at hsm
      exact no_bag (Option.some.inj hsm)
    refine use_take hb2 hm2 (by omega) (sz_len (by omega)) fun e c3 m3 e0 e1 se hm3 => ?_
    have sb3 : SubB b μ (μ2.set b (.lst [.int c3, .int m3])) := sb_self sb2
    have hb3 : (μ2.set b (.lst [.int c3, .int m3])) b = some (.lst [.int c3, .int m3]) := set_same
    have hsm3 : (μ2.set b (.lst [.int c3, .int m3])) sm = some (.lst ((nearL (trisL w h rows lv) t).map encT)) := by rw [set_ne nsb]; exact hsm
    generalize (μ2.set b (.lst [.int c3, .int m3])) = μ3 at sb3 hb3 hsm3 ⊢
    obtain ⟨x, hx⟩ : ∃ x, (nearL (trisL w h rows lv) t)[e.toNat]? = some x := ⟨_, List.getElem?_eq_getElem (by omega)⟩
    refine ro_ix (seq_ref hsm3) (atI_map e0 hx) ?_
    obtain ⟨W2, nf2⟩ := way_ins TRS WO ht (List.mem_of_getElem? hx)
    walk_at "go"
    rw [cut_take (by rw [List.length_map]; omega), ← List.map_take]
    have ll1 : (walk.take (n + 1)).length ≤ 900 := Nat.le_trans (List.length_take_le _ _) (by omega)
    refine ro_catA (by rw [List.length_map, List.length_singleton]; omega) ?_
    walk_at "go"
    rw [cut_drop (by rw [List.length_map]; omega), ← List.map_drop]
    refine ro_catA (by rw [List.length_append, List.length_map, List.length_map, List.length_singleton, List.length_drop]; omega) ?_
    walk_at "go"
    have eW : (walk.take (n + 1)).map encT ++ [encT x] ++ (walk.drop n).map encT = (walk.take (n + 1) ++ x :: walk.drop n).map encT := by
      rw [List.map_append, List.map_cons, List.append_assoc]
      rfl
    rw [eW]
    have hl : (walk.take (n + 1) ++ x :: walk.drop n).length = walk.length + 2 := by
      rw [List.length_append, List.length_cons, List.length_take, List.length_drop]
      omega
    exact qy _ μ3 c3 m3 W2 ⟨by omega, fun _ => by rw [hl]; omega⟩ (.inl nf2) sb3 hb3 hm3
  walk_at "go"
  refine ite_d (fun k2 => ?_) (fun k2 => ?_)
  · obtain ⟨t, ht⟩ : ∃ t, walk[0]? = some t := ⟨_, List.getElem?_eq_getElem (by omega)⟩
    obtain ⟨kvs, sm, hn, hv, hsm⟩ := near_at NR1 (WO.mem t (List.mem_of_getElem? ht))
    have hnl : (nearL (trisL w h rows lv) t).length ≤ 8000 := Nat.le_trans (List.length_filter_le _ _) (tris_len OK)
    walk_at "go"
    refine a_lc1 id (fun d => match d with | .tup xs => inD (.int p) xs | _ => false) (ai_L ?_)
    refine a_dget ?_
    walk_at "go"
    refine ro_ix (ds := walk.map encT) rfl (atI_map (by decide) ht) ?_
    refine ⟨nr, _, rfl, .inr (.inl ⟨kvs, keyT t, hn, rfl, hv.symm⟩), ?_⟩
    refine ⟨sm, _, rfl, hsm, by rw [List.length_map]; omega, fun x hx => ?_, fun x hx _ => ?_, fun l2 hl2 => ?_⟩
    · obtain ⟨s, _, rfl⟩ := List.mem_map.mp hx
      walk_at "nf"
      walk_at "go"
      exact ⟨rfl, trivial⟩
    · walk_at "nf"
      walk_at "go"
      exact ⟨rfl, rfl⟩
    have nsb : sm ≠ b := by
      rintro rfl
      rw [hb1] at hsm
      exact no_bag (Option.some.inj hsm)
    have hl2' : μ1 l2 = none := by
      have hl2 : ((μ1.del sm).set sm _) l2 = none := hl2
      rw [del_set hsm] at hl2
      exact hl2
    dsimp only
    rw [del_set hsm, List.map_id, round_eq]
    have hrm : ∀ s ∈ (nearL (trisL w h rows lv) t).filter (inT3 p), s ∈ nearL (trisL w h rows lv) t ∧ inT3 p s = true := fun s hs => List.mem_filter.mp hs
    have hrl := List.length_filter_le (inT3 p) (nearL (trisL w h rows lv) t)
    generalize (nearL (trisL w h rows lv) t).filter (inT3 p) = ro at hrm hrl ⊢
    have sb2 : SubB b μ (μ1.set l2 (.lst (ro.map encT))) := sb_new sb1 hl2'
    have n2b : l2 ≠ b := ne_of_some hl2' hb1
    have hb2 : (μ1.set l2 (.lst (ro.map encT))) b = some (.lst [.int c1, .int m1]) := by rw [set_ne (Ne.symm n2b)]; exact hb1
    have h2 : (μ1.set l2 (.lst (ro.map encT))) l2 = some (.lst (ro.map encT)) := set_same
    generalize (μ1.set l2 (.lst (ro.map encT))) = μ2 at sb2 hb2 h2 ⊢
    walk_at "go"
    intro l3 hl3
    have sb3 : SubB b μ (μ2.set l3 (.lst [])) := sb_new sb2 hl3
    have hb3 : (μ2.set l3 (.lst [])) b = some (.lst [.int c1, .int m1]) := by rw [set_ne (Ne.symm (ne_of_some hl3 hb2))]; exact hb2
    have h3 : (μ2.set l3 (.lst [])) l2 = some (.lst (ro.map encT)) := by rw [set_ne (Ne.symm (ne_of_some hl3 h2))]; exact h2
    have h33 : (μ2.set l3 (.lst [])) l3 = some (.lst []) := set_same
    generalize (μ2.set l3 (.lst [])) = μ3 at sb3 hb3 h3 h33 ⊢
    refine ro_neNil (n := 3) h3 h33 (fun x hx => by obtain ⟨t, _, rfl⟩ := List.mem_map.mp hx; exact okn_t3.mono (by decide)) (by decide) ?_
    refine ⟨_, rfl, ?_⟩
    cases ro with
    | nil =>
      rw [if_neg (by simp)]
      walk_at "go"
      exact qy walk μ3 c1 m1 WO ⟨by omega, fun e => e⟩ (.inl rfl) sb3 hb3 hm1
    | cons y ys =>
      rw [if_pos (by simp)]
      walk_at "go"
      rw [List.length_map]
      refine use_take hb3 hm1 (by rw [List.length_cons]; omega) (sz_len (by omega)) fun e c4 m4 e0 e1 se hm4 => ?_
      have sb4 : SubB b μ (μ3.set b (.lst [.int c4, .int m4])) := sb_self sb3
      have hb4 : (μ3.set b (.lst [.int c4, .int m4])) b = some (.lst [.int c4, .int m4]) := set_same
      have h4 : (μ3.set b (.lst [.int c4, .int m4])) l2 = some (.lst ((y :: ys).map encT)) := by rw [set_ne n2b]; exact h3
      generalize (μ3.set b (.lst [.int c4, .int m4])) = μ4 at sb4 hb4 h4 ⊢
      obtain ⟨x, hx⟩ : ∃ x, (y :: ys)[e.toNat]? = some x := ⟨_, List.getElem?_eq_getElem (by omega)⟩
      obtain ⟨hx1, hx2⟩ := hrm x (List.mem_of_getElem? hx)
      refine ro_ix (seq_ref h4) (atI_map e0 hx) ?_
      obtain ⟨W2, nf2⟩ := way_front TRS WO ht hx1 hx2
      walk_at "go"
      refine ro_catA (by rw [List.length_singleton, List.length_map]; omega) ?_
      walk_at "go"
      exact qy (x :: walk) μ4 c4 m4 W2 ⟨by rw [List.length_cons]; omega, fun _ => by rw [List.length_cons]; omega⟩ (.inl nf2) sb4 hb4 hm4
  walk_at "go"
  obtain ⟨t, ht⟩ : ∃ t, walk[walk.length - 1]? = some t := ⟨_, List.getElem?_eq_getElem (by omega)⟩
  obtain ⟨kvs, sm, hn, hv, hsm⟩ := near_at NR1 (WO.mem t (List.mem_of_getElem? ht))
  have hnl : (nearL (trisL w h rows lv) t).length ≤ 8000 := Nat.le_trans (List.length_filter_le _ _) (tris_len OK)
  walk_at "go"
  refine a_lc1 id (fun d => match d with | .tup xs => inD (.int q) xs | _ => false) (ai_L ?_)
  refine a_dget ?_
  walk_at "go"
  refine ro_ix (ds := walk.map encT) rfl (at_neg (k := 0) hw0 ht) ?_
  refine ⟨nr, _, rfl, .inr (.inl ⟨kvs, keyT t, hn, rfl, hv.symm⟩), ?_⟩
  refine ⟨sm, _, rfl, hsm, by rw [List.length_map]; omega, fun x hx => ?_, fun x hx _ => ?_, fun l2 hl2 => ?_⟩
  · obtain ⟨s, _, rfl⟩ := List.mem_map.mp hx
    walk_at "nf"
    walk_at "go"
    exact ⟨rfl, trivial⟩
  · walk_at "nf"
    walk_at "go"
    exact ⟨rfl, rfl⟩
  have nsb : sm ≠ b := by
    rintro rfl
    rw [hb1] at hsm
    exact no_bag (Option.some.inj hsm)
  have hl2' : μ1 l2 = none := by
    have hl2 : ((μ1.del sm).set sm _) l2 = none := hl2
    rw [del_set hsm] at hl2
    exact hl2
  dsimp only
  rw [del_set hsm, List.map_id, round_eq]
  have hrm : ∀ s ∈ (nearL (trisL w h rows lv) t).filter (inT3 q), s ∈ nearL (trisL w h rows lv) t ∧ inT3 q s = true := fun s hs => List.mem_filter.mp hs
  have hrl := List.length_filter_le (inT3 q) (nearL (trisL w h rows lv) t)
  generalize (nearL (trisL w h rows lv) t).filter (inT3 q) = ro at hrm hrl ⊢
  have sb2 : SubB b μ (μ1.set l2 (.lst (ro.map encT))) := sb_new sb1 hl2'
  have n2b : l2 ≠ b := ne_of_some hl2' hb1
  have hb2 : (μ1.set l2 (.lst (ro.map encT))) b = some (.lst [.int c1, .int m1]) := by rw [set_ne (Ne.symm n2b)]; exact hb1
  have h2 : (μ1.set l2 (.lst (ro.map encT))) l2 = some (.lst (ro.map encT)) := set_same
  generalize (μ1.set l2 (.lst (ro.map encT))) = μ2 at sb2 hb2 h2 ⊢
  walk_at "go"
  intro l3 hl3
  have sb3 : SubB b μ (μ2.set l3 (.lst [])) := sb_new sb2 hl3
  have hb3 : (μ2.set l3 (.lst [])) b = some (.lst [.int c1, .int m1]) := by rw [set_ne (Ne.symm (ne_of_some hl3 hb2))]; exact hb2
  have h3 : (μ2.set l3 (.lst [])) l2 = some (.lst (ro.map encT)) := by rw [set_ne (Ne.symm (ne_of_some hl3 h2))]; exact h2
  have h33 : (μ2.set l3 (.lst [])) l3 = some (.lst []) := set_same
  generalize (μ2.set l3 (.lst [])) = μ3 at sb3 hb3 h3 h33 ⊢
  refine ro_neNil (n := 3) h3 h33 (fun x hx => by obtain ⟨t, _, rfl⟩ := List.mem_map.mp hx; exact okn_t3.mono (by decide)) (by decide) ?_
  refine ⟨_, rfl, ?_⟩
  cases ro with
  | nil =>
    rw [if_neg (by simp)]
    walk_at "go"
    exact qy walk μ3 c1 m1 WO ⟨by omega, fun e => e⟩ (.inl rfl) sb3 hb3 hm1
  | cons y ys =>
    rw [if_pos (by simp)]
    walk_at "go"
    rw [List.length_map]
    refine use_take hb3 hm1 (by rw [List.length_cons]; omega) (sz_len (by omega)) fun e c4 m4 e0 e1 se hm4 => ?_
    have sb4 : SubB b μ (μ3.set b (.lst [.int c4, .int m4])) := sb_self sb3
    have hb4 : (μ3.set b (.lst [.int c4, .int m4])) b = some (.lst [.int c4, .int m4]) := set_same
    have h4 : (μ3.set b (.lst [.int c4, .int m4])) l2 = some (.lst ((y :: ys).map encT)) := by rw [set_ne n2b]; exact h3
    generalize (μ3.set b (.lst [.int c4, .int m4])) = μ4 at sb4 hb4 h4 ⊢
    obtain ⟨x, hx⟩ : ∃ x, (y :: ys)[e.toNat]? = some x := ⟨_, List.getElem?_eq_getElem (by omega)⟩
    obtain ⟨hx1, hx2⟩ := hrm x (List.mem_of_getElem? hx)
    refine ro_ix (seq_ref h4) (atI_map e0 hx) ?_
    obtain ⟨W2, nf2⟩ := way_back WO ht hx1 hx2
    walk_at "go"
    refine ro_catA (by rw [List.length_singleton, List.length_map]; omega) ?_
    walk_at "go"
    rw [show walk.map encT ++ [encT x] = (walk ++ [x]).map encT by rw [List.map_append]; rfl]
    exact qy (walk ++ [x]) μ4 c4 m4 W2 ⟨by rw [List.length_append, List.length_singleton]; omega, fun _ => by rw [List.length_append, List.length_singleton]; omega⟩ nf2 sb4 hb4 hm4
/-- a cut that the rules allow -/
def CutOk (p q : Int) (found : List (Int × Int × Int)) (lo hi : Nat) : Prop := (∃ t, hi = lo + 2 ∧ found[lo]? = some t ∧ found[lo + 2]? = some t) ∨ (lo = 0 ∧ hi = 1 ∧ ∃ t, found[1]? = some t ∧ inT3 p t = true) ∨ (1 < found.length ∧ lo = found.length - 1 ∧ hi = found.length ∧ ∃ t, found[found.length - 2]? = some t ∧ inT3 q t = true)
theorem cut_get {α : Type} {l : List α} {lo hi : Nat} (h1 : lo ≤ hi) (h2 : hi ≤ l.length) (i : Nat) : (l.take lo ++ l.drop hi)[i]? = if i < lo then l[i]? else l[i - lo + hi]? := by
  have hl : (l.take lo).length = lo := by rw [List.length_take]; omega
  by_cases k : i < lo
  · rw [if_pos k, List.getElem?_append_left (by omega), List.getElem?_take, if_pos k]
  · rw [if_neg k, List.getElem?_append_right (by omega), hl, List.getElem?_drop, Nat.add_comm]
theorem cut_way {w h lv : Int} {rows : List R4} {p q : Int} {found : List (Int × Int × Int)} {lo hi : Nat} (W : WayOk (trisL w h rows lv) p q found) (C : CutOk p q found lo hi) : lo < hi ∧ hi ≤ found.length ∧ WayOk (trisL w h rows lv) p q (found.take lo ++ found.drop hi) := by
  obtain ⟨s, hs, ps⟩ := W.hp
  obtain ⟨z, hz, qz⟩ := W.hq
  have mem : ∀ t ∈ found.take lo ++ found.drop hi, t ∈ trisL w h rows lv := fun t ht => by
    rcases List.mem_append.mp ht with k | k
    · exact W.mem t (List.mem_of_mem_take k)
    · exact W.mem t (List.mem_of_mem_drop k)
  rcases C with ⟨t, rfl, h1, h2⟩ | ⟨rfl, rfl, t, h1, h2⟩ | ⟨h0, rfl, rfl, t, h1, h2⟩
  · have hl := (List.getElem?_eq_some_iff.mp h2).1
    refine ⟨by omega, by omega, mem, fun i a b e1 e2 => ?_, ?_, ?_, W.ne⟩
    · rw [cut_get (by omega) (by omega)] at e1 e2
      by_cases k : i + 1 < lo
      · rw [if_pos (by omega)] at e1 e2
        exact W.near i a b e1 e2
      · by_cases k2 : i + 1 = lo
        · rw [if_pos (by omega)] at e1
          rw [if_neg (by omega), show i + 1 - lo + (lo + 2) = lo + 2 by omega, h2] at e2
          refine W.near i a b e1 ?_
          rw [k2, h1]
          exact e2
        · rw [if_neg (by omega)] at e1 e2
          exact W.near (i - lo + (lo + 2)) a b e1 (by rw [show i - lo + (lo + 2) + 1 = i + 1 - lo + (lo + 2) by omega]; exact e2)
    · refine ⟨s, ?_, ps⟩
      rw [cut_get (by omega) (by omega)]
      by_cases k : 0 < lo
      · rw [if_pos k]; exact hs
      · rw [if_neg k, show 0 - lo + (lo + 2) = lo + 2 by omega, h2, ← h1, show lo = 0 by omega]
        exact hs
    · refine ⟨z, ?_, qz⟩
      rw [cut_get (by omega) (by omega), List.length_append, List.length_take, List.length_drop, if_neg (by omega), show min lo found.length + (found.length - (lo + 2)) - 1 - lo + (lo + 2) = found.length - 1 by omega]
      exact hz
  · have hl := (List.getElem?_eq_some_iff.mp h1).1
    refine ⟨by omega, by omega, mem, fun i a b e1 e2 => ?_, ?_, ?_, W.ne⟩
    · rw [cut_get (by omega) (by omega), if_neg (by omega)] at e1 e2
      exact W.near (i - 0 + 1) a b e1 e2
    · refine ⟨t, ?_, in_pins.mp h2⟩
      rw [cut_get (by omega) (by omega), if_neg (by omega)]
      exact h1
    · refine ⟨z, ?_, qz⟩
      rw [cut_get (by omega) (by omega), List.length_append, List.length_take, List.length_drop, if_neg (by omega), show min 0 found.length + (found.length - 1) - 1 - 0 + 1 = found.length - 1 by omega]
      exact hz
  · refine ⟨by omega, by omega, mem, fun i a b e1 e2 => ?_, ?_, ?_, W.ne⟩
    · have hi := (List.getElem?_eq_some_iff.mp e2).1
      rw [List.length_append, List.length_take, List.length_drop] at hi
      rw [cut_get (by omega) (by omega), if_pos (by omega)] at e1 e2
      exact W.near i a b e1 e2
    · refine ⟨s, ?_, ps⟩
      rw [cut_get (by omega) (by omega), if_pos (by omega)]
      exact hs
    · refine ⟨t, ?_, in_pins.mp h2⟩
      rw [cut_get (by omega) (by omega), List.length_append, List.length_take, List.length_drop, if_pos (by omega), show min (found.length - 1) found.length + (found.length - found.length) - 1 = found.length - 2 by omega]
      exact h1
theorem cut_nf {w h lv : Int} {rows : List R4} {p q : Int} {found : List (Int × Int × Int)} {lo hi : Nat} (W : WayOk (trisL w h rows lv) p q found) (C : CutOk p q found lo hi) : Alike (nfW (inT3 p) (inT3 q) (found.take lo ++ found.drop hi)) (nfW (inT3 p) (inT3 q) found) := by
  obtain ⟨s, hs, ps⟩ := W.hp
  obtain ⟨z, hz, qz⟩ := W.hq
  rcases C with ⟨t, rfl, h1, h2⟩ | ⟨rfl, rfl, t, h1, h2⟩ | ⟨h0, rfl, rfl, t, h1, h2⟩
  · have hl := (List.getElem?_eq_some_iff.mp h2).1
    obtain ⟨_, e1⟩ := List.getElem?_eq_some_iff.mp h1
    obtain ⟨_, e2⟩ := List.getElem?_eq_some_iff.mp h2
    have d2 : found.drop (lo + 2) = t :: found.drop (lo + 3) := by rw [List.drop_eq_getElem_cons hl, e2]
    have d0 : found.drop lo = t :: found[lo + 1] :: t :: found.drop (lo + 3) := by
      rw [List.drop_eq_getElem_cons (by omega), e1, List.drop_eq_getElem_cons (i := lo + 1) (by omega), d2]
    have e : found = found.take lo ++ t :: found[lo + 1] :: t :: found.drop (lo + 3) := by rw [← d0, List.take_append_drop]
    refine .inl ?_
    rw [d2]
    conv => rhs; rw [e]
    rw [nf_mid]
  · match found, hs, h1, W with
    | [], hs, _, _ => cases hs
    | [_], _, h1, _ => cases h1
    | a :: b :: r, hs, h1, W =>
      cases hs
      cases h1
      refine .inl ?_
      show nfW _ _ (t :: r) = _
      refine (nf_first r (fun e => ?_) (in_pins.mpr ps) h2).symm
      have k := W.near 0 _ _ rfl rfl
      rw [e] at k
      simp [nearP] at k
  · rcases List.eq_nil_or_concat found with rfl | ⟨f1, a, rfl⟩
    · simp at h0
    · rcases List.eq_nil_or_concat f1 with rfl | ⟨f2, b, rfl⟩
      · simp at h0
      · simp only [List.concat_eq_append] at *
        rw [List.append_assoc] at *
        have lb : (f2 ++ ([b] ++ [a])).length = f2.length + 2 := by simp
        rw [lb] at h1 hz ⊢
        rw [show f2.length + 2 - 2 = f2.length by omega, List.getElem?_append_right (Nat.le_refl _), Nat.sub_self] at h1
        cases h1
        rw [show f2.length + 2 - 1 = f2.length + 1 by omega, List.getElem?_append_right (by omega), show f2.length + 1 - f2.length = 1 by omega] at hz
        cases hz
        rw [List.drop_of_length_le (by rw [lb]; omega), List.append_nil, show f2.length + 2 - 1 = f2.length + 1 by omega]
        have et : (f2 ++ ([t] ++ [z])).take (f2.length + 1) = f2 ++ [t] := by
          rw [← List.append_assoc, List.take_append_of_le_length (by simp)]
          rw [List.take_of_length_le (by simp)]
        rw [et]
        exact (nf_last f2 (in_pins.mpr qz) h2).symm
theorem lt3_no {a b : Int × Int × Int} (h : lt3 a b = true) : lt3 b a = false := by
  unfold lt3 at *
  simp only [Bool.or_eq_true, Bool.and_eq_true, decide_eq_true_eq, Bool.or_eq_false_iff, Bool.and_eq_false_iff, decide_eq_false_iff_not] at *
  omega
theorem min_first {t : Int × Int × Int} : ∀ {r : List (Int × Int × Int)}, (∀ x ∈ r, lt3 t x = true) → minZ (encT t) (r.map encT) = encT t
  | [], _ => rfl
  | x :: r, h => by
    have e : PySem.W.dataLt (D.py (encT x)) (D.py (encT t)) = false := (lt_t3 _ _ _ _ _ _).trans (lt3_no (h x List.mem_cons_self))
    show (r.map encT).foldl _ (if PySem.W.dataLt (D.py (encT x)) (D.py (encT t)) then encT x else encT t) = _
    rw [e, if_neg Bool.false_ne_true]
    exact min_first (r := r) fun y hy => h y (List.mem_cons_of_mem _ hy)
theorem alike_tris (l : List (Int × Int × Int)) : PySem.W.AlikeAll ((l.map encT).map D.py) := by
  rw [List.map_map]
  refine ⟨fun x hx y hy => ?_, fun x hx => ?_⟩
  · obtain ⟨a, _, rfl⟩ := List.mem_map.mp hx
    obtain ⟨b, _, rfl⟩ := List.mem_map.mp hy
    simp [D.py, D.pys, PySem.W.alike, PySem.W.alikeAll]
  · obtain ⟨a, _, rfl⟩ := List.mem_map.mp hx
    simp [D.py]
theorem both_eq {w h lv p q : Int} {rows : List R4} : (trisL w h rows lv).filter (fun t => inT3 p t && inT3 q t) = besL w h rows lv (min p q, max p q) := by
  unfold besL
  refine List.filter_congr fun t _ => ?_
  by_cases k : p ≤ q
  · rw [Int.min_eq_left k, Int.max_eq_right k]
  · rw [Int.min_eq_right (by omega), Int.max_eq_left (by omega), Bool.and_comm]
theorem both_map {w h lv p q : Int} {rows : List R4} : (((trisL w h rows lv).map encT).filter (fun x => match x with | .tup xs => inD (.int p) xs && inD (.int q) xs | _ => false)).map id = (besL w h rows lv (min p q, max p q)).map encT := by
  rw [List.map_id, List.filter_map, ← both_eq]
  congr 1
  refine List.filter_congr fun t _ => ?_
  show (inD (.int p) [.int t.1, .int t.2.1, .int t.2.2] && inD (.int q) [.int t.1, .int t.2.1, .int t.2.2]) = _
  rw [inD_t3, inD_t3]
theorem bes_rise {w h lv : Int} {rows : List R4} {g : Int × Int} : (besL w h rows lv g).Pairwise fun a b => lt3 a b = true := List.Pairwise.filter _ (tris_rise _ (pins_rise rows lv) (gates_rise _ (pins_nodup rows lv)))
/-- one triangle alone that has both pins -/
theorem one_way {w h lv : Int} {rows : List R4} {p q : Int} {x : Int × Int × Int} {r : List (Int × Int × Int)} (hn : q ≠ p) (hb : besL w h rows lv (min p q, max p q) = x :: r) : WayOk (trisL w h rows lv) p q [x] := by
  have hm : x ∈ besL w h rows lv (min p q, max p q) := by rw [hb]; exact List.mem_cons_self
  rw [← both_eq] at hm
  obtain ⟨h1, h2⟩ := List.mem_filter.mp hm
  rw [Bool.and_eq_true] at h2
  have W := walk_one h1
  exact ⟨W.mem, W.near, ⟨x, rfl, in_pins.mp h2.1⟩, ⟨x, rfl, in_pins.mp h2.2⟩, hn⟩
theorem red_one {w h lv : Int} {rows : List R4} {p q : Int} {walk : List (Int × Int × Int)} {x : Int × Int × Int} {r : List (Int × Int × Int)} (hb : besL w h rows lv (min p q, max p q) = x :: r) (hw : (nfW (inT3 p) (inT3 q) walk).length = 1) : redL w h rows lv p q walk = [x] := by
  have e : redL w h rows lv p q walk = [(besL w h rows lv (min p q, max p q)).headD (0, 0, 0)] := if_pos hw
  rw [e, hb]
  rfl
theorem red_more {w h lv : Int} {rows : List R4} {p q : Int} {walk : List (Int × Int × Int)} (hw : (nfW (inT3 p) (inT3 q) walk).length ≠ 1) : redL w h rows lv p q walk = nfW (inT3 p) (inT3 q) walk := if_neg hw
theorem way_bes {w h lv : Int} {rows : List R4} {p q : Int} {walk : List (Int × Int × Int)} (W : WayOk (trisL w h rows lv) p q walk) (h1 : walk.length = 1) : ∃ x r, besL w h rows lv (min p q, max p q) = x :: r := by
  match walk, h1 with
  | [t], _ =>
    obtain ⟨_, e1, hp⟩ := W.hp
    obtain ⟨_, e2, hq⟩ := W.hq
    cases e1
    cases e2
    exact bes_head (W.mem _ List.mem_cons_self) (in_pins.mpr hp) (in_pins.mpr hq)
/-- what is reduced is a way, and reduced again it is the same -/
theorem red_again {w h lv : Int} {rows : List R4} {p q : Int} {walk left : List (Int × Int × Int)} (hn : q ≠ p) (AL : Alike left (nfW (inT3 p) (inT3 q) walk)) (NF : nfW (inT3 p) (inT3 q) left = left) (WL : WayOk (trisL w h rows lv) p q left) :
    WayOk (trisL w h rows lv) p q (redL w h rows lv p q walk) ∧ (redL w h rows lv p q walk).length ≤ left.length ∧ redL w h rows lv p q (redL w h rows lv p q walk) = redL w h rows lv p q walk ∧ (left.length = 1 → ∃ x r, besL w h rows lv (min p q, max p q) = x :: r ∧ redL w h rows lv p q walk = [x]) ∧ (left.length ≠ 1 → redL w h rows lv p q walk = left) := by
  by_cases k : left.length = 1
  · have k2 : (nfW (inT3 p) (inT3 q) walk).length = 1 := by
      rcases AL with AL | AL
      · rw [← AL]; exact k
      · exact AL.2
    obtain ⟨x, r, e⟩ := way_bes WL k
    rw [red_one e k2]
    refine ⟨one_way hn e, by rw [k]; exact Nat.le_refl _, red_one e rfl, fun _ => ⟨x, r, e, rfl⟩, fun z => absurd k z⟩
  · have k2 : (nfW (inT3 p) (inT3 q) walk).length ≠ 1 := fun e => by
      rcases AL with AL | AL
      · rw [AL] at k; exact k e
      · exact k AL.1
    have eR : nfW (inT3 p) (inT3 q) walk = left := by
      rcases AL with AL | AL
      · exact AL.symm
      · exact absurd AL.1 k
    rw [red_more k2, eR]
    exact ⟨WL, Nat.le_refl _, by rw [red_more (by rw [NF]; exact k), NF], fun z => absurd z k, fun _ => rfl⟩
/-- cuts made until none is left, seen from both ends -/
theorem red_ex {w h lv : Int} {rows : List R4} {p q : Int} : ∀ (n : Nat) (walk : List (Int × Int × Int)), walk.length ≤ n → WayOk (trisL w h rows lv) p q walk →
    ∃ left, WayOk (trisL w h rows lv) p q left ∧ left.length ≤ walk.length ∧ nfW (inT3 p) (inT3 q) left = left ∧ Alike left (nfW (inT3 p) (inT3 q) walk) ∧ nfW (inT3 q) (inT3 p) left.reverse = left.reverse ∧ Alike left.reverse (nfW (inT3 q) (inT3 p) walk.reverse) ∧ ∀ u a b v, left ≠ u ++ a :: b :: a :: v := by
  intro n
  induction n with
  | zero =>
    intro walk hl W
    obtain ⟨t, ht, _⟩ := W.hp
    have := (List.getElem?_eq_some_iff.mp ht).1
    omega
  | succ n ih =>
    intro walk hl W
    obtain ⟨s, hs, ps⟩ := W.hp
    obtain ⟨z, hz, qz⟩ := W.hq
    by_cases h1 : ∃ u a b v, walk = u ++ a :: b :: a :: v
    · obtain ⟨u, a, b, v, rfl⟩ := h1
      have C : CutOk p q (u ++ a :: b :: a :: v) u.length (u.length + 2) := .inl ⟨a, rfl, by simp, by simp⟩
      have e : (u ++ a :: b :: a :: v).take u.length ++ (u ++ a :: b :: a :: v).drop (u.length + 2) = u ++ a :: v := by simp [List.drop_append]
      have W2 := (cut_way W C).2.2
      rw [e] at W2
      obtain ⟨left, L1, L2, L3, L4, L5, L6, L7⟩ := ih (u ++ a :: v) (by simp at hl ⊢; omega) W2
      refine ⟨left, L1, by simp at L2 ⊢; omega, L3, by rw [nf_mid]; exact L4, L5, ?_, L7⟩
      have e1 : (u ++ a :: b :: a :: v).reverse = v.reverse ++ a :: b :: a :: u.reverse := by simp
      have e2 : (u ++ a :: v).reverse = v.reverse ++ a :: u.reverse := by simp
      rw [e1, nf_mid, ← e2]
      exact L6
    by_cases h2 : ∃ a b r, walk = a :: b :: r ∧ inT3 p b = true
    · obtain ⟨a, b, r, rfl, hb⟩ := h2
      cases hs
      have C : CutOk p q (s :: b :: r) 0 1 := .inr (.inl ⟨rfl, rfl, b, rfl, hb⟩)
      have W2 : WayOk (trisL w h rows lv) p q (b :: r) := (cut_way W C).2.2
      obtain ⟨left, L1, L2, L3, L4, L5, L6, L7⟩ := ih (b :: r) (by simp at hl ⊢; omega) W2
      have hn : s ≠ b := fun e => by
        have k := W.near 0 _ _ rfl rfl
        rw [e] at k
        simp [nearP] at k
      refine ⟨left, L1, by simp at L2 ⊢; omega, L3, by rw [nf_first r hn (in_pins.mpr ps) hb]; exact L4, L5, ?_, L7⟩
      have e1 : (s :: b :: r).reverse = r.reverse ++ [b, s] := by simp
      have e2 : (b :: r).reverse = r.reverse ++ [b] := by simp
      rw [e1]
      rw [e2] at L6
      exact L6.trans (nf_last r.reverse (in_pins.mpr ps) hb).symm
    by_cases h3 : ∃ a b r, walk = r ++ [b, a] ∧ inT3 q b = true
    · obtain ⟨a, b, r, rfl, hb⟩ := h3
      have hl2 : (r ++ [b, a]).length = r.length + 2 := by simp
      rw [hl2, show r.length + 2 - 1 = r.length + 1 by omega, List.getElem?_append_right (by omega), show r.length + 1 - r.length = 1 by omega] at hz
      cases hz
      have C : CutOk p q (r ++ [b, z]) ((r ++ [b, z]).length - 1) (r ++ [b, z]).length := .inr (.inr ⟨by omega, rfl, rfl, b, by simp, hb⟩)
      have e : (r ++ [b, z]).take ((r ++ [b, z]).length - 1) ++ (r ++ [b, z]).drop (r ++ [b, z]).length = r ++ [b] := by
        rw [List.drop_length, List.append_nil, hl2, show r ++ [b, z] = (r ++ [b]) ++ [z] by simp, List.take_append_of_le_length (by simp), List.take_of_length_le (by simp)]
      have W2 := (cut_way W C).2.2
      rw [e] at W2
      obtain ⟨left, L1, L2, L3, L4, L5, L6, L7⟩ := ih (r ++ [b]) (by simp at hl ⊢; omega) W2
      have hn : z ≠ b := fun e => by
        have k := W.near r.length b z (by simp) (by simp)
        rw [e] at k
        simp [nearP] at k
      refine ⟨left, L1, by simp at L2 ⊢; omega, L3, L4.trans (nf_last r (in_pins.mpr qz) hb).symm, L5, ?_, L7⟩
      have e1 : (r ++ [b, z]).reverse = z :: b :: r.reverse := by simp
      have e2 : (r ++ [b]).reverse = b :: r.reverse := by simp
      rw [e1, nf_first r.reverse hn (in_pins.mpr qz) hb, ← e2]
      exact L6
    have f1 : ∀ u a b v, walk ≠ u ++ a :: b :: a :: v := fun u a b v e => h1 ⟨u, a, b, v, e⟩
    have f2 : ∀ a b r, walk = a :: b :: r → inT3 p b = false := fun a b r e => by
      cases k : inT3 p b with
      | false => rfl
      | true => exact absurd ⟨a, b, r, e, k⟩ h2
    have f3 : ∀ a b r, walk = r ++ [b, a] → inT3 q b = false := fun a b r e => by
      cases k : inT3 q b with
      | false => rfl
      | true => exact absurd ⟨a, b, r, e, k⟩ h3
    have n1 : nfW (inT3 p) (inT3 q) walk = walk := nf_id f1 f2 f3
    have n2 : nfW (inT3 q) (inT3 p) walk.reverse = walk.reverse := nf_id (fun u a b v e => f1 v.reverse a b u.reverse (by have := congrArg List.reverse e; simpa using this)) (fun a b r e => f3 a b r.reverse (by have := congrArg List.reverse e; simpa using this)) (fun a b r e => f2 a b r.reverse (by have := congrArg List.reverse e; simpa using this))
    exact ⟨walk, W, Nat.le_refl _, n1, .inl n1.symm, n2, .inl n2.symm, f1⟩
/-- what a way is reduced to: a way; reduced again the same; turned it is the turned one's -/
theorem red_all {w h lv : Int} {rows : List R4} {p q : Int} {walk : List (Int × Int × Int)} (W : WayOk (trisL w h rows lv) p q walk) :
    WayOk (trisL w h rows lv) p q (redL w h rows lv p q walk) ∧ (redL w h rows lv p q walk).length ≤ walk.length ∧ redL w h rows lv q p walk.reverse = (redL w h rows lv p q walk).reverse ∧ redL w h rows lv p q (redL w h rows lv p q walk) = redL w h rows lv p q walk := by
  obtain ⟨left, L1, L2, L3, L4, L5, L6, _⟩ := red_ex walk.length walk (Nat.le_refl _) W
  obtain ⟨R0, R1, R2, R3, R4⟩ := red_again W.ne L4 L3 L1
  refine ⟨R0, Nat.le_trans R1 L2, ?_, R2⟩
  by_cases k : left.length = 1
  · obtain ⟨x, r, e, eR⟩ := R3 k
    rw [eR]
    have k2 : (nfW (inT3 q) (inT3 p) walk.reverse).length = 1 := by
      rcases L6 with L6 | L6
      · rw [← L6, List.length_reverse]; exact k
      · exact L6.2
    exact red_one (by rw [Int.min_comm, Int.max_comm]; exact e) k2
  · rw [R4 k]
    have k2 : nfW (inT3 q) (inT3 p) walk.reverse = left.reverse := by
      rcases L6 with L6 | L6
      · exact L6.symm
      · exact absurd (by rw [← List.length_reverse]; exact L6.1) k
    rw [red_more (by rw [k2, List.length_reverse]; exact k), k2]
/-- ways of which the same is left have one reduced way -/
theorem red_alike {w h lv : Int} {rows : List R4} {p q : Int} {walk walk' : List (Int × Int × Int)} (A : Alike (nfW (inT3 p) (inT3 q) walk') (nfW (inT3 p) (inT3 q) walk)) : redL w h rows lv p q walk' = redL w h rows lv p q walk := by
  rcases A with A | A
  · unfold redL
    rw [A]
  · unfold redL
    rw [if_pos A.1, if_pos A.2]
def P_l_least : PT3 := fun ds μ Φ => ∃ (w h fl lv p q : Int) (rows : List R4) (x : Int × Int × Int) (r : List (Int × Int × Int)), ds = [trisD w h rows lv, .int p, .int q] ∧ BOk w h rows fl ∧ besL w h rows lv (min p q, max p q) = x :: r ∧ ∀ μ', Sub μ μ' → Φ (encT x) μ'
theorem len_l_least (ds : List D) (μ : M) (Φ : D → M → Prop) (h : P_l_least ds μ Φ) : ds.length = 3 := by
  obtain ⟨_, _, _, _, _, _, _, _, _, rfl, _⟩ := h
  rfl
/-- the law's own cuts -/
def P_l_reduced : PT3 := fun ds μ Φ => ∃ (w h fl lv p q : Int) (rows : List R4) (walk : List (Int × Int × Int)), ds = [trisD w h rows lv, wayD p q walk] ∧ BOk w h rows fl ∧ WayOk (trisL w h rows lv) p q walk ∧ walk.length ≤ 900 ∧ ∀ μ', Sub μ μ' → Φ (wayD p q (redL w h rows lv p q walk)) μ'
theorem len_l_reduced (ds : List D) (μ : M) (Φ : D → M → Prop) (h : P_l_reduced ds μ Φ) : ds.length = 2 := by
  obtain ⟨_, _, _, _, _, _, _, _, rfl, _⟩ := h
  rfl
theorem ok_l_least {f : Addr} {fd : FuncData} (F : Fun K "_law_least" "_law_least" s_l_least f fd) (B : Bs mg) : FnOk P w K mg base CX0 2 f fd ["_law_triangles", "_law_first", "_law_last"] (spI K P_l_least) := by
  refine F.ok sc_l_least (fun vs H Q E h => spI_len h len_l_least) (fun cdv A outer s H vs Q E hr h => ?_)
  have hu65 := hu65_of hr
  refine ⟨_, (pss_one (ps_ret (pe_callB (MNX.cr_minDK (K := K) rfl rfl hr.units) (by rfl) B.b_min (by decide +kernel) (pa_cons (pe_lc (own := [("_law_one", 3)]) (g := gName 3)  rfl sc_l_least.nd (pi_tupK (K := K) rfl (pv 0)) (blkOk_by (own := [("_law_one", 3)]) (N := N_l_least) (sc := defScope s_l_least) (by decide +kernel)) (fun _ _ _ _ _ => (pg_name (i := 3) sc_l_least.nd rfl (by first | exact Or.inl rfl | exact Or.inr rfl))) (fun _ _ _ _ _ => (pts_one (PW.pt (pw_and (pt_cmpR (op_inSK (K := K) rfl hu65) (pv 1) (pv 3) (by first | exact nomark _ | rfl)) (pw_and1 (pt_cmpR (op_inSK (K := K) rfl hu65) (pv 2) (pv 3) (by first | exact nomark _ | rfl))))))) (fun _ _ _ _ _ => (pv 3))) pa_nil)))), body_ok h (fun ds μ Φ p => ?_)⟩
  (try dsimp only [cxOf, Cx.nox, Cx.wish, List.map_cons, List.map_nil])
  obtain ⟨w, h, fl, lv, p, q, rows, x, r, rfl, OK, e, qy⟩ := p
  show AS K _ [some _, some _, some _, none] _ _
  walk_at "go"
  refine a_lc1 id (fun x => match x with | .tup xs => inD (.int p) xs && inD (.int q) xs | _ => false) (ai_T ?_)
  walk_at "go"
  refine ⟨?_, fun x hx => ?_, fun x hx _ => ?_, fun l6 hl6 => ?_⟩
  · rw [List.length_map]
    exact Nat.lt_of_le_of_lt (tris_len OK (lv := lv)) (by have := sizeLine_eq; omega)
  · obtain ⟨t, ht, rfl⟩ := List.mem_map.mp hx
    walk_at "nf"
    walk_at "go"
    cases e1 : inD (D.int p) [D.int t.fst, D.int t.snd.fst, D.int t.snd.snd]
    · simp
    · simp only [if_true, Bool.true_and]
      walk_at "go"
      simp
  · walk_at "nf"
    walk_at "go"
    exact ⟨rfl, rfl⟩
  have hl6 : μ l6 = none := hl6
  rw [both_map, e]
  have sb : Sub μ (μ.set l6 (.lst ((x :: r).map encT))) := sub_new Sub.refl hl6
  have h6 : (μ.set l6 (.lst ((x :: r).map encT))) l6 = some (.lst ((x :: r).map encT)) := set_same
  show AA K _ _ (μ.set l6 (.lst ((x :: r).map encT))) _
  generalize (μ.set l6 (.lst ((x :: r).map encT))) = μ6 at sb h6 ⊢
  walk_at "go"
  refine rc_minD (d := encT x) (ds := r.map encT) h6 (fun y hy => ?_) (alike_tris (x :: r)) ?_
  · obtain ⟨z, _, rfl⟩ := List.mem_map.mp (show y ∈ (x :: r).map encT from hy)
    exact okn_t3.mono (by decide)
  have hp := bes_rise (w := w) (h := h) (rows := rows) (lv := lv) (g := (min p q, max p q))
  rw [e, List.pairwise_cons] at hp
  rw [min_first hp.1]
  exact qy _ sb
/-- no triangle two places behind itself -/
def NoB (l : List (Int × Int × Int)) : Prop := ∀ i, i + 2 < l.length → l[i]? ≠ l[i + 2]?
theorem NoB.pat {l : List (Int × Int × Int)} (h : NoB l) : ∀ u a b v, l ≠ u ++ a :: b :: a :: v := fun u a b v e => by
  refine h u.length ?_ ?_
  · rw [e]; simp
  · rw [e]; simp
theorem NoB.take {l : List (Int × Int × Int)} (h : NoB l) (n : Nat) : NoB (l.take n) := fun i hi => by
  rw [List.length_take] at hi
  rw [List.getElem?_take, List.getElem?_take, if_pos (by omega), if_pos (by omega)]
  exact h i (by omega)
theorem NoB.drop {l : List (Int × Int × Int)} (h : NoB l) (n : Nat) : NoB (l.drop n) := fun i hi => by
  rw [List.length_drop] at hi
  rw [List.getElem?_drop, List.getElem?_drop, ← Nat.add_assoc]
  exact h (n + i) (by omega)
theorem NoB.rev {l : List (Int × Int × Int)} (h : NoB l) : NoB l.reverse := fun i hi => by
  rw [List.length_reverse] at hi
  rw [List.getElem?_reverse (by omega), List.getElem?_reverse (by omega)]
  intro e
  refine h (l.length - 1 - (i + 2)) (by omega) ?_
  rw [show l.length - 1 - (i + 2) + 2 = l.length - 1 - i by omega]
  exact e.symm
theorem NoB.snoc {l : List (Int × Int × Int)} (h : NoB (l.take (l.length - 1))) (k : 2 < l.length → l[l.length - 3]? ≠ l[l.length - 1]?) : NoB l := fun i hi => by
  by_cases e : i + 2 = l.length - 1
  · have := k (by omega)
    rw [show l.length - 3 = i by omega, ← e] at this
    exact this
  · have := h i (by rw [List.length_take]; omega)
    rw [List.getElem?_take, List.getElem?_take, if_pos (by omega), if_pos (by omega)] at this
    exact this
theorem rev_cut {l v : List (Int × Int × Int)} (h : 2 < l.length) : ((l ++ v).reverse).take v.length ++ ((l ++ v).reverse).drop (v.length + 2) = (l.take (l.length - 2) ++ v).reverse := by
  rw [List.reverse_append, List.reverse_append, List.take_append_of_le_length (by simp), List.take_of_length_le (by simp), List.drop_append, List.length_reverse, List.drop_of_length_le (by simp), List.nil_append, show v.length + 2 - v.length = 2 by omega, List.drop_reverse]
theorem rev_at {l v : List (Int × Int × Int)} {i : Nat} (h : i < l.length) : (l ++ v).reverse[v.length + i]? = l[l.length - 1 - i]? := by
  rw [List.reverse_append, List.getElem?_append_right (by simp), List.length_reverse, show v.length + i - v.length = i by omega, List.getElem?_reverse h]
theorem cut_neg {ds : List D} {n : Nat} (h : n + 1 ≤ ds.length) : cutD ds none (some (-((n : Int) + 1))) = ds.take (ds.length - (n + 1)) := by
  unfold cutD
  rw [HT.sIx_none]
  have e : HT.sIx ds.length ds.length (some (-((n : Int) + 1))) = ds.length - (n + 1) := by
    show (if (-((n : Int) + 1)) < 0 then (-((n : Int) + 1) + (ds.length : Int)).toNat else min (-((n : Int) + 1)).toNat ds.length) = _
    rw [if_pos (by omega)]
    omega
  rw [e]
  rfl
theorem none_sub {μ μ' : M} {a : Addr} (s : Sub μ μ') (h : μ' a = none) : μ a = none := by
  cases e : μ a with
  | none => rfl
  | some x => rw [s a x e] at h; cases h
theorem ok_l_reduced {f : Addr} {fd : FuncData} (F : Fun K "_law_reduced" "_law_reduced" s_l_reduced f fd) (B : Bs mg) (G_l_least : Def P w K mg base "_law_least" ["_law_triangles", "_law_first", "_law_last"] 2 (spI K P_l_least)) : FnOk P w K mg base CX0 4 f fd ["_law_triangles", "_law_way_here"] (spI K P_l_reduced) := by
  refine F.ok sc_l_reduced (fun vs H Q E h => spI_len h len_l_reduced) (fun cdv A outer s H vs Q E hr h => ?_)
  have hu65 := hu65_of hr
  refine ⟨_, (pss_cons (ps_asg (pv 1) (pg_tup (by rfl) (pgs_cons (pg_name (i := 2) sc_l_reduced.nd rfl (by first | exact Or.inl rfl | exact Or.inr rfl)) (pgs_cons (pg_name (i := 3) sc_l_reduced.nd rfl (by first | exact Or.inl rfl | exact Or.inr rfl)) (pgs_cons (pg_name (i := 4) sc_l_reduced.nd rfl (by first | exact Or.inl rfl | exact Or.inr rfl)) pgs_nil)))))
      (pss_cons (ps_set (i := 5) sc_l_reduced.nd rfl (by first | exact Or.inl rfl | exact Or.inr rfl) (pe_lst pa_nil))
      (pss_cons (ps_for PassesOwn.never rfl (pi_tupK (K := K) rfl (RVT.pe_revT (K := K) rfl (pv 3))) (pg_name (i := 6) sc_l_reduced.nd rfl (by first | exact Or.inl rfl | exact Or.inr rfl))
      (pss_cons (ps_expr (pe_bm PySem.F.plainAttrs_list PySem.F.slot_list_append PySem.F.type_list_append mt_append (pv 5) (pa_cons (pv 6) pa_nil)))
      (pss_one (ps_while PassesOwn.never (PW.pt (pw_and (pt_cmpR op_gt (pe_callB (call_lenK (K := K) rfl) (by rfl) B.b_len (by decide +kernel) (pa_cons (pv 5) pa_nil)) pe_int (by first | exact nomark _ | rfl)) (pw_and1 (pt_cmpR (op_eqDK (K := K) rfl hr.units) (pe_ix (ix_seqK (K := K) rfl) (pv 5) (pe_un un_neg pe_int) (fun _ _ => rfl)) (pe_ix (ix_seqK (K := K) rfl) (pv 5) (pe_un un_neg pe_int) (fun _ _ => rfl)) (by first | exact nomark _ | rfl))))) (pss_one (ps_set (i := 5) sc_l_reduced.nd rfl (by first | exact Or.inl rfl | exact Or.inr rfl) (pe_slice (sl_listK (K := K) rfl) (pv 5) po_none (po_some (pe_un un_neg pe_int)))))))))
      (pss_cons (ps_set (i := 5) sc_l_reduced.nd rfl (by first | exact Or.inl rfl | exact Or.inr rfl) (OD.pe_revK (K := K) rfl (pv 5)))
      (pss_cons (ps_while PassesOwn.never (PW.pt (pw_and (pt_cmpR op_gt (pe_callB (call_lenK (K := K) rfl) (by rfl) B.b_len (by decide +kernel) (pa_cons (pv 5) pa_nil)) pe_int (by first | exact nomark _ | rfl)) (pw_and1 (pt_cmpR (op_inSK (K := K) rfl hu65) (pv 4) (pe_ix (ix_seqK (K := K) rfl) (pv 5) (pe_un un_neg pe_int) (fun _ _ => rfl)) (by first | exact nomark _ | rfl))))) (pss_one (ps_expr (pe_bm0 PySem.F.plainAttrs_list PySem.F.slot_list_pop PySem.F.type_list_pop mt_pop (pv 5)))))
      (pss_cons (ps_while PassesOwn.never (PW.pt (pw_and (pt_cmpR op_gt (pe_callB (call_lenK (K := K) rfl) (by rfl) B.b_len (by decide +kernel) (pa_cons (pv 5) pa_nil)) pe_int (by first | exact nomark _ | rfl)) (pw_and1 (pt_cmpR (op_inSK (K := K) rfl hu65) (pv 2) (pe_ix (ix_seqK (K := K) rfl) (pv 5) pe_int (fun _ _ => rfl)) (by first | exact nomark _ | rfl))))) (pss_one (ps_expr (pe_bm PySem.F.plainAttrs_list PySem.F.slot_list_pop PySem.F.type_list_pop mt_popAt (pv 5) (pa_cons pe_int pa_nil)))))
      (pss_cons (ps_if (pt_cmpR op_eq (pe_callB (call_lenK (K := K) rfl) (by rfl) B.b_len (by decide +kernel) (pa_cons (pv 5) pa_nil)) pe_int (by first | exact nomark _ | rfl)) (pss_one (ps_set (i := 5) sc_l_reduced.nd rfl (by first | exact Or.inl rfl | exact Or.inr rfl) (pe_lst (pa_cons (pe_def G_l_least (hr.mono (by decide)) (by rfl) (pa_cons (pv 0) (pa_cons (pv 2) (pa_cons (pv 4) pa_nil)))) pa_nil)))) pss_nil)
      (pss_one (ps_ret (pe_tup (pa_cons (pv 2) (pa_cons (pe_callTy (call_tupleK (K := K) rfl) (by rfl) B.b_tuple (by decide +kernel) (pa_cons (pv 5) pa_nil)) (pa_cons (pv 4) pa_nil))))))))))))), body_ok h (fun ds μ Φ p => ?_)⟩
  (try dsimp only [cxOf, Cx.nox, Cx.wish, List.map_cons, List.map_nil])
  obtain ⟨w, h, fl1', lv, p, q, rows, walk, rfl, OK, WO, hw, qy⟩ := p
  show AS K _ [some _, some _, none, none, none, none, none] _ _
  have zz := sizeLine_eq
  walk_at "go"
  intro fo hfo
  have h0 : (μ.set fo (.lst [])) fo = some (.lst []) := set_same
  have s0 : Sub μ (μ.set fo (.lst [])) := sub_new Sub.refl hfo
  generalize (μ.set fo (.lst [])) = μ1 at h0 s0 ⊢
  walk_at "go"
  refine s_forT ?_
  walk_at "go"
  rw [← List.map_reverse]
  refine ⟨fun i τ' μ' => ∃ (fo : Addr) (found : List (Int × Int × Int)) (o6 : Option D), μ fo = none ∧ μ' fo = some (.lst (found.map encT)) ∧ Sub μ μ' ∧ NoB found ∧ found.length ≤ i ∧ WayOk (trisL w h rows lv) p q (found ++ walk.reverse.drop i).reverse ∧ Alike (nfW (inT3 p) (inT3 q) (found ++ walk.reverse.drop i).reverse) (nfW (inT3 p) (inT3 q) walk) ∧ τ' = [some (trisD w h rows lv), some (wayD p q walk), some (.int p), some (walkD walk), some (.int q), some (.ref fo), o6], _, rfl, ?_, ?_, ?_⟩
  · exact ⟨fo, [], _, hfo, h0, s0, fun i hi => absurd hi (by simp), Nat.le_refl _, by simpa using WO, .inl (by simp), rfl⟩
  · rintro i x τ' μ' hx ⟨fo, found, o6, hfo, hf, sb, NB, fl1, WF, FA, rfl⟩
    obtain ⟨t, ht, rfl⟩ := mapgt hx
    have hi := (List.getElem?_eq_some_iff.mp ht).1
    rw [List.length_reverse] at hi
    have ed : walk.reverse.drop i = t :: walk.reverse.drop (i + 1) := by
      obtain ⟨hh, e⟩ := List.getElem?_eq_some_iff.mp ht
      rw [List.drop_eq_getElem_cons hh, e]
    have e1 : found ++ walk.reverse.drop i = (found ++ [t]) ++ walk.reverse.drop (i + 1) := by rw [ed]; simp
    rw [e1] at WF FA
    walk_at "go"
    refine m_append (a := fo) (ds := found.map encT) ?_
    walk_at "go"
    refine ⟨rfl, ⟨_, hf⟩, ?_⟩
    walk_at "go"
    refine ⟨hf, by rw [List.length_map]; omega, ?_⟩
    have hf2 : (μ'.set fo (.lst (found.map encT ++ [encT t]))) fo = some (.lst ((found ++ [t]).map encT)) := by rw [set_same, List.map_append]; rfl
    have sb2 : Sub μ (μ'.set fo (.lst (found.map encT ++ [encT t]))) := sub_own sb hfo
    have nb2 : NoB ((found ++ [t]).take ((found ++ [t]).length - 1)) := by
      rw [List.length_append, List.length_singleton, Nat.add_sub_cancel, List.take_append_of_le_length (Nat.le_refl _), List.take_of_length_le (Nat.le_refl _)]
      exact NB
    have fl2 : (found ++ [t]).length ≤ i + 1 := by rw [List.length_append, List.length_singleton]; omega
    generalize (μ'.set fo (.lst (found.map encT ++ [encT t]))) = μ2 at hf2 sb2 ⊢
    generalize found ++ [t] = found2 at WF FA hf2 nb2 fl2
    generalize walk.reverse.drop (i + 1) = todo at WF FA ⊢
    clear e1 ed hf sb NB fl1 hx ht
    refine s_while (fun m τ' μ' => ∃ (fo : Addr) (found : List (Int × Int × Int)), m = found.length ∧ μ fo = none ∧ μ' fo = some (.lst (found.map encT)) ∧ Sub μ μ' ∧ NoB (found.take (found.length - 1)) ∧ found.length ≤ i + 1 ∧ WayOk (trisL w h rows lv) p q (found ++ todo).reverse ∧ Alike (nfW (inT3 p) (inT3 q) (found ++ todo).reverse) (nfW (inT3 p) (inT3 q) walk) ∧ τ' = [some (trisD w h rows lv), some (wayD p q walk), some (.int p), some (walkD walk), some (.int q), some (.ref fo), some (encT t)]) found2.length ⟨fo, found2, rfl, hfo, hf2, sb2, nb2, fl2, WF, FA, rfl⟩ ?_
    clear fl2 FA WF nb2 sb2 hf2 hfo found2 fo
    rintro m τ' μ' ⟨fo, found, rfl, hfo, hf, sb, NB, fl1, WF, FA, rfl⟩
    have out : (2 < found.length → found[found.length - 3]? ≠ found[found.length - 1]?) → ∃ (fo_1 : Addr) (found_1 : List (Int × Int × Int)) (o6 : Option D), μ fo_1 = none ∧ μ' fo_1 = some (.lst (found_1.map encT)) ∧ Sub μ μ' ∧ NoB found_1 ∧ found_1.length ≤ i + 1 ∧ WayOk (trisL w h rows lv) p q (found_1 ++ todo).reverse ∧ Alike (nfW (inT3 p) (inT3 q) (found_1 ++ todo).reverse) (nfW (inT3 p) (inT3 q) walk) ∧ [some (trisD w h rows lv), some (wayD p q walk), some (.int p), some (walkD walk), some (.int q), some (.ref fo), some (encT t)] = [some (trisD w h rows lv), some (wayD p q walk), some (.int p), some (walkD walk), some (.int q), some (.ref fo_1), o6] := fun e =>
      ⟨fo, found, _, hfo, hf, sb, NB.snoc e, fl1, WF, FA, rfl⟩
    walk_at "go"
    rw [List.length_map]
    refine ite_d (fun k => ?_) (fun k => ?_)
    rotate_left
    · rw [if_neg Bool.false_ne_true]
      exact out fun z => absurd k (by omega)
    obtain ⟨a, ha⟩ : ∃ x, found[found.length - 1 - 0]? = some x := ⟨_, List.getElem?_eq_getElem (by omega)⟩
    obtain ⟨b, hb⟩ : ∃ x, found[found.length - 1 - 2]? = some x := ⟨_, List.getElem?_eq_getElem (by omega)⟩
    walk_at "go"
    refine ro_ix (seq_ref hf) (at_neg (k := 0) (by omega) ha) ?_
    walk_at "go"
    refine ro_ix (seq_ref hf) (at_neg (k := 2) (by omega) hb) ?_
    walk_at "go"
    rw [eqv_tri]
    refine ite_d (fun k2 => ?_) (fun k2 => ?_)
    rotate_left
    · exact out fun _ e => k2 (by
        rw [show found.length - 3 = found.length - 1 - 2 by omega, hb, show found.length - 1 = found.length - 1 - 0 by omega, ha] at e
        exact (Option.some.inj e).symm)
    subst k2
    walk_at "go"
    rw [show (-2 : Int) = -(((1 : Nat) : Int) + 1) from rfl, cut_neg (by rw [List.length_map]; omega), List.length_map, ← List.map_take]
    intro l2 hl2
    have C : CutOk p q (found ++ todo).reverse todo.length (todo.length + 2) := .inl ⟨a, rfl, by rw [show todo.length = todo.length + 0 by rfl, rev_at (by omega)]; exact ha, by rw [rev_at (by omega)]; exact hb⟩
    have W2 := (cut_way WF C).2.2
    have A2 := cut_nf WF C
    rw [rev_cut (by omega)] at W2 A2
    have lt : (found.take (found.length - 2)).length = found.length - 2 := by rw [List.length_take]; omega
    have hl2m : μ l2 = none := none_sub sb hl2
    walk_at "go"
    refine ⟨_, ?_, l2, found.take (found.length - 2), rfl, hl2m, set_same, sub_new sb hl2, ?_, by omega, W2, A2.trans FA, rfl⟩
    · rw [lt]; omega
    · rw [lt, List.take_take, show min (found.length - 2 - 1) (found.length - 2) = found.length - 3 by omega]
      have := NB.take (found.length - 3)
      rw [List.take_take, show min (found.length - 3) (found.length - 1) = found.length - 3 by omega] at this
      exact this
  rintro τ' μ' ⟨fo, found, o6, hfo, hf, sb, NB, fl1, WF, FA, rfl⟩
  rw [List.length_map, List.drop_length, List.append_nil] at WF FA
  rw [List.length_map, List.length_reverse] at fl1
  walk_at "go"
  refine a_revL ?_
  walk_at "go"
  refine ⟨fo, _, rfl, hf, fun l2 hl2 => ?_⟩
  rw [← List.map_reverse]
  have hl2m : μ l2 = none := none_sub sb hl2
  have h2 : (μ'.set l2 (.lst (found.reverse.map encT))) l2 = some (.lst (found.reverse.map encT)) := set_same
  have sb2 : Sub μ (μ'.set l2 (.lst (found.reverse.map encT))) := sub_new sb hl2
  have NB2 := NB.rev
  have fl2 : found.reverse.length ≤ 900 := by rw [List.length_reverse]; omega
  show AG K _ _ _ (μ'.set l2 (.lst (found.reverse.map encT))) _
  generalize (μ'.set l2 (.lst (found.reverse.map encT))) = μ2 at h2 sb2 ⊢
  generalize found.reverse = found at h2 NB2 fl2 WF FA
  clear fl1 NB sb hf hfo hl2
  refine g_name ?_
  walk_at "nf"
  refine s_cut (M0 := fun τ' μ' => ∃ (fo : Addr) (found : List (Int × Int × Int)), μ fo = none ∧ μ' fo = some (.lst (found.map encT)) ∧ Sub μ μ' ∧ NoB found ∧ found.length ≤ 900 ∧ WayOk (trisL w h rows lv) p q found ∧ Alike (nfW (inT3 p) (inT3 q) found) (nfW (inT3 p) (inT3 q) walk) ∧ (∀ a b r, found = r ++ [b, a] → inT3 q b = false) ∧ τ' = [some (trisD w h rows lv), some (wayD p q walk), some (.int p), some (walkD walk), some (.int q), some (.ref fo), o6]) ?_ ?_
  · refine s_while (fun m τ' μ' => ∃ (fo : Addr) (found : List (Int × Int × Int)), m = found.length ∧ μ fo = none ∧ μ' fo = some (.lst (found.map encT)) ∧ Sub μ μ' ∧ NoB found ∧ found.length ≤ 900 ∧ WayOk (trisL w h rows lv) p q found ∧ Alike (nfW (inT3 p) (inT3 q) found) (nfW (inT3 p) (inT3 q) walk) ∧ τ' = [some (trisD w h rows lv), some (wayD p q walk), some (.int p), some (walkD walk), some (.int q), some (.ref fo), o6]) found.length ⟨l2, found, rfl, hl2m, h2, sb2, NB2, fl2, WF, FA, rfl⟩ ?_
    clear NB2 fl2 WF FA h2 sb2 hl2m l2
    rintro m τ' μ' ⟨fo, found, rfl, hfo, hf, sb, NB, fl, WF, FA, rfl⟩
    walk_at "go"
    rw [List.length_map]
    refine ite_d (fun k => ?_) (fun k => ?_)
    rotate_left
    · rw [if_neg Bool.false_ne_true]
      exact ⟨fo, found, hfo, hf, sb, NB, fl, WF, FA, fun a b r e => absurd k (by rw [e, List.length_append, List.length_cons, List.length_cons]; omega), rfl⟩
    obtain ⟨x, hx⟩ : ∃ x, found[found.length - 1 - 1]? = some x := ⟨_, List.getElem?_eq_getElem (by omega)⟩
    walk_at "go"
    refine ro_ix (seq_ref hf) (at_neg (k := 1) (by omega) hx) ?_
    refine ro_inS (ds := [.int x.1, .int x.2.1, .int x.2.2]) rfl (show D.ok (.int q) = true from rfl) (show D.ok (encT x) = true from rfl) ?_
    rw [inD_t3, if_neg Bool.false_ne_true]
    refine ⟨_, rfl, ?_⟩
    refine ite_bp (fun k2 => ?_) (fun k2 => ?_)
    · have C : CutOk p q found (found.length - 1) found.length := .inr (.inr ⟨by omega, rfl, rfl, x, by rw [show found.length - 2 = found.length - 1 - 1 by omega]; exact hx, k2⟩)
      have W2 := (cut_way WF C).2.2
      have A2 := (cut_nf WF C).trans FA
      rw [List.drop_length, List.append_nil] at W2 A2
      obtain ⟨z, hz⟩ : ∃ x, found[found.length - 1]? = some x := ⟨_, List.getElem?_eq_getElem (by omega)⟩
      have eL : found.map encT = (found.take (found.length - 1)).map encT ++ [encT z] := by
        have e := tksnoc hz
        rw [show found.length - 1 + 1 = found.length by omega, List.take_length] at e
        conv => lhs; rw [e]
        rw [List.map_append]
        rfl
      walk_at "go"
      refine m_pop (a := fo) (ds := (found.take (found.length - 1)).map encT) (d := encT z) ?_
      walk_at "go"
      refine ⟨rfl, by rw [hf, eL], ?_⟩
      have lt : (found.take (found.length - 1)).length = found.length - 1 := by rw [List.length_take]; omega
      exact ⟨_, by rw [lt]; omega, fo, found.take (found.length - 1), rfl, hfo, set_same, sub_own sb hfo, NB.take _, by omega, W2, A2, rfl⟩
    · exact ⟨fo, found, hfo, hf, sb, NB, fl, WF, FA, fun a b r e => by
        have lf : found.length = r.length + 2 := by rw [e]; simp
        rw [lf, show r.length + 2 - 1 - 1 = r.length by omega, e, List.getElem?_append_right (Nat.le_refl _), Nat.sub_self] at hx
        cases hx
        exact k2, rfl⟩
  clear NB2 fl2 WF FA h2 sb2 hl2m l2
  rintro τ' μ' ⟨fo, found, hfo, hf, sb, NB, fl, WF, FA, Q0, rfl⟩
  refine s_cut (M0 := fun τ' μ' => ∃ (fo : Addr) (found : List (Int × Int × Int)), μ fo = none ∧ μ' fo = some (.lst (found.map encT)) ∧ Sub μ μ' ∧ NoB found ∧ found.length ≤ 900 ∧ WayOk (trisL w h rows lv) p q found ∧ Alike (nfW (inT3 p) (inT3 q) found) (nfW (inT3 p) (inT3 q) walk) ∧ (∀ a b r, found = r ++ [b, a] → inT3 q b = false) ∧ (∀ a b r, found = a :: b :: r → inT3 p b = false) ∧ τ' = [some (trisD w h rows lv), some (wayD p q walk), some (.int p), some (walkD walk), some (.int q), some (.ref fo), o6]) ?_ ?_
  · refine s_while (fun m τ' μ' => ∃ (fo : Addr) (found : List (Int × Int × Int)), m = found.length ∧ μ fo = none ∧ μ' fo = some (.lst (found.map encT)) ∧ Sub μ μ' ∧ NoB found ∧ found.length ≤ 900 ∧ WayOk (trisL w h rows lv) p q found ∧ Alike (nfW (inT3 p) (inT3 q) found) (nfW (inT3 p) (inT3 q) walk) ∧ (∀ a b r, found = r ++ [b, a] → inT3 q b = false) ∧ τ' = [some (trisD w h rows lv), some (wayD p q walk), some (.int p), some (walkD walk), some (.int q), some (.ref fo), o6]) found.length ⟨fo, found, rfl, hfo, hf, sb, NB, fl, WF, FA, Q0, rfl⟩ ?_
    clear NB fl WF FA hf sb hfo Q0 fo found
    rintro m τ' μ' ⟨fo, found, rfl, hfo, hf, sb, NB, fl, WF, FA, Q0, rfl⟩
    walk_at "go"
    rw [List.length_map]
    refine ite_d (fun k => ?_) (fun k => ?_)
    rotate_left
    · rw [if_neg Bool.false_ne_true]
      exact ⟨fo, found, hfo, hf, sb, NB, fl, WF, FA, Q0, fun a b r e => absurd k (by rw [e, List.length_cons, List.length_cons]; omega), rfl⟩
    obtain ⟨x, hx⟩ : ∃ x, found[1]? = some x := ⟨_, List.getElem?_eq_getElem (by omega)⟩
    walk_at "go"
    refine ro_ix (seq_ref hf) (atI_map (by decide) hx) ?_
    refine ro_inS (ds := [.int x.1, .int x.2.1, .int x.2.2]) rfl (show D.ok (.int p) = true from rfl) (show D.ok (encT x) = true from rfl) ?_
    rw [inD_t3, if_neg Bool.false_ne_true]
    refine ⟨_, rfl, ?_⟩
    refine ite_bp (fun k2 => ?_) (fun k2 => ?_)
    · have C : CutOk p q found 0 1 := .inr (.inl ⟨rfl, rfl, x, hx, k2⟩)
      have W2 := (cut_way WF C).2.2
      have A2 := (cut_nf WF C).trans FA
      rw [List.take_zero, List.nil_append] at W2 A2
      cases found with
      | nil => simp at k
      | cons z r =>
      rw [List.drop_succ_cons, List.drop_zero] at W2 A2
      walk_at "go"
      refine m_pop0 (a := fo) (ds := r.map encT) (d := encT z) ?_
      walk_at "go"
      refine ⟨rfl, ⟨_, hf⟩, ?_⟩
      walk_at "go"
      refine ⟨rfl, hf, ?_⟩
      exact ⟨_, by rw [List.length_cons]; omega, fo, r, rfl, hfo, set_same, sub_own sb hfo, NB.drop 1, by rw [List.length_cons] at fl; omega, W2, A2, fun a b r' e => Q0 a b (z :: r') (by rw [e]; rfl), rfl⟩
    · exact ⟨fo, found, hfo, hf, sb, NB, fl, WF, FA, Q0, fun a b r e => by
        rw [e] at hx
        cases hx
        exact k2, rfl⟩
  clear NB fl WF FA hf sb hfo Q0 fo found
  rintro τ' μ' ⟨fo, found, hfo, hf, sb, NB, fl, WF, FA, Q0, P0, rfl⟩
  have NF := nf_id NB.pat P0 Q0
  rw [NF] at FA
  obtain ⟨RW, RL, RR, R1, RN⟩ := red_again (w := w) (h := h) WO.ne FA NF WF
  walk_at "go"
  rw [List.length_map]
  refine ite_d (fun k => ?_) (fun k => ?_)
  · obtain ⟨x, r, e, eR⟩ := R1 (by omega)
    walk_at "go"
    refine ⟨w, h, fl1', lv, p, q, rows, x, r, rfl, OK, e, fun μ3 sb3 => ?_⟩
    dsimp only
    walk_at "go"
    intro l7 hl7
    have sb7 : Sub μ (μ3.set l7 (.lst [encT x])) := sub_new (fun a m e => sb3 a m (sb a m e)) hl7
    walk_at "go"
    refine rc_tuple (ds := [encT x]) (seq_ref set_same) ?_
    walk_at "go"
    have e := qy _ sb7
    rw [eR] at e
    exact e
  · walk_at "go"
    refine rc_tuple (seq_ref hf) ?_
    walk_at "go"
    have e := qy _ sb
    rw [RN (by omega)] at e
    exact e
theorem pick_way16 {d : Int} (h0 : 0 ≤ d) (h1 : d < 3) : ∃ z : Int, atI [D.int 3, D.int 12, D.int 25] d = some (.int z) ∧ 0 < z ∧ z ≤ 25 := by
  have h : d = 0 ∨ d = 1 ∨ d = 2 := by omega
  rcases h with h | h | h <;> subst h <;> exact ⟨_, rfl, by decide, by decide⟩
theorem s2_near {C : Addr} {μ μ' : M} {bd w h l s : _} {rows : List R4} {sp kg kt nr : Addr} {tris : List (Int × Int × Int)} (BR : Brd C μ bd w h rows l s sp kg kt) (s2 : Sub2 kg kt μ μ') (NR : NearAt μ nr tris) : NearAt μ' nr tris := by
  obtain ⟨dx, gl, tl, lvs, hb, hsp, hkg, hkt⟩ := BR
  exact NR.sub fun a m e k => s2 a m (by
    rintro rfl
    rw [hkg] at e
    cases e
    rcases k with ⟨_, k⟩ | ⟨_, k⟩ <;> cases k) (by
    rintro rfl
    rw [hkt] at e
    cases e
    rcases k with ⟨_, k⟩ | ⟨_, k⟩ <;> cases k) e
theorem ok_law {f : Addr} {fd : FuncData} (F : Fun K "law" "law" s_law f fd) (B : Bs mg) {T_g : Addr} {C_Board : Addr} (K_Board : Cl_Board K C_Board) (G_board_made_of : Mth P w K mg base C_Board "made_of" ["self"] 1 (spI K (P_board_made_of C_Board))) (G_board_triangles : Mth P w K mg base C_Board "triangles" ["self", "layer"] 9 (spX K (xn mg) (P_board_triangles C_Board T_g))) (G_l_bag : Def P w K mg base "_law_bag" ["_law_script", "_law_at"] 2 (spI K P_l_bag)) (G_l_board : Def P w K mg base "_law_board" ["_law_made"] 8 (spI K (P_l_board C_Board))) (G_l_made_of : Def P w K mg base "_law_made_of" ["_law_bag_here", "_law_most"] 3 (spI K P_l_made_of)) (G_l_near : Def P w K mg base "_law_near" ["_law_triangles"] 2 (spI K P_l_near)) (G_l_reduced : Def P w K mg base "_law_reduced" ["_law_triangles", "_law_way_here"] 4 (spI K P_l_reduced)) (G_l_spoiled : Def P w K mg base "_law_spoiled" ["_law_bag_here", "_law_near_here", "_law_way_here"] 2 (spI K P_l_spoiled)) (G_l_take : Def P w K mg base "_law_take" ["_law_bag_here", "_law_many"] 1 (spI K P_l_take)) (G_l_way : Def P w K mg base "_law_way" ["_law_bag_here", "_law_near_here", "_law_most"] 2 (spI K P_l_way)) (G_turned : Def P w K mg base "turned" ["way"] 1 (spI K P_turned)) (N_is_way_2_layer : DefN P w K mg base "is_way" ["board", "thing", "layer"] 2 ["layer"] [(true, 0)] [] 11 (spX K (xn mg) (P_is_way C_Board T_g))) (N_reduced_2_layer : DefN P w K mg base "reduced" ["board", "way", "layer"] 2 ["layer"] [(true, 0)] [] 12 (spX K (xn mg) (P_reduced C_Board T_g))) : FnOk P w K mg base CX0 13 f fd ["_law_script"] (spI K (P_law T_g)) := by
  refine F.ok sc_law (fun vs H Q E h => spI_len h (len_law T_g)) (fun cdv A outer s H vs Q E hr h => ?_)
  have hu65 := hu65_of hr
  refine ⟨_, (pss_cons (ps_for PassesOwn.never rfl (pi_range1 (by rfl) B.b_range (pa_cons (pe_callB (call_max2 rfl) (by rfl) B.b_max (by decide +kernel) (pa_cons pe_int (pa_cons (pe_callB (call_min2 rfl) (by rfl) B.b_min (by decide +kernel) (pa_cons pe_int (pa_cons (pe_callB (call_lenK (K := K) rfl) (by rfl) B.b_len (by decide +kernel) (pa_cons (pv 0) pa_nil)) pa_nil))) pa_nil))) pa_nil)) (pg_name (i := 1) sc_law.nd rfl (by first | exact Or.inl rfl | exact Or.inr rfl))
      (pss_cons (ps_set (i := 2) sc_law.nd rfl (by first | exact Or.inl rfl | exact Or.inr rfl) (pe_def G_l_bag (hr.mono (by decide)) (by rfl) (pa_cons (pv 0) (pa_cons (pv 1) pa_nil))))
      (pss_cons (ps_set (i := 3) sc_law.nd rfl (by first | exact Or.inl rfl | exact Or.inr rfl) (pe_def G_l_board (hr.mono (by decide)) (by rfl) (pa_cons (pe_def G_l_made_of (hr.mono (by decide)) (by rfl) (pa_cons (pv 2) (pa_cons pe_int pa_nil))) pa_nil)))
      (pss_cons (ps_set (i := 4) sc_law.nd rfl (by first | exact Or.inl rfl | exact Or.inr rfl) (pe_def G_l_take (hr.mono (by decide)) (by rfl) (pa_cons (pv 2) (pa_cons (pe_ix (ix_seqK (K := K) rfl) (pe_mthN0 G_board_made_of (hr.mono (by decide)) (pv 3)) pe_int (fun _ _ => rfl)) pa_nil))))
      (pss_cons (ps_set (i := 5) sc_law.nd rfl (by first | exact Or.inl rfl | exact Or.inr rfl) (pe_mthN G_board_triangles (hr.mono (by decide)) (pv 3) (pa_cons (pv 4) pa_nil)))
      (pss_cons (ps_set (i := 6) sc_law.nd rfl (by first | exact Or.inl rfl | exact Or.inr rfl) (pe_def G_l_near (hr.mono (by decide)) (by rfl) (pa_cons (pv 5) pa_nil)))
      (pss_cons (ps_set (i := 7) sc_law.nd rfl (by first | exact Or.inl rfl | exact Or.inr rfl) (pe_def G_l_way (hr.mono (by decide)) (by rfl) (pa_cons (pv 2) (pa_cons (pv 6) (pa_cons (pe_ix (ix_seqK (K := K) rfl) (pe_lst (pa_cons pe_int (pa_cons pe_int (pa_cons pe_int pa_nil)))) (pe_def G_l_take (hr.mono (by decide)) (by rfl) (pa_cons (pv 2) (pa_cons pe_int pa_nil))) (fun _ _ => rfl)) pa_nil)))))
      (pss_cons (ps_set (i := 8) sc_law.nd rfl (by first | exact Or.inl rfl | exact Or.inr rfl) (pe_def G_l_reduced (hr.mono (by decide)) (by rfl) (pa_cons (pv 5) (pa_cons (pv 7) pa_nil))))
      (pss_cons (ps_if (PW.pt (pw_or (pt_cmpR op_notBl (pe_defK N_is_way_2_layer (hr.mono (by decide)) (by rfl) (pa_cons (pv 3) (pa_cons (pv 8) pa_nil)) (pk_cons (pv 4) pk_nil)) pe_bl (by first | exact nomark _ | rfl)) (pw_or1 (pt_cmpR (op_neDK (K := K) rfl hr.units) (pe_defK N_reduced_2_layer (hr.mono (by decide)) (by rfl) (pa_cons (pv 3) (pa_cons (pv 7) pa_nil)) (pk_cons (pv 4) pk_nil)) (pv 8) (by first | exact nomark _ | rfl))))) (pss_one (ps_ret pe_bl)) pss_nil)
      (pss_cons (ps_for PassesOwn.never rfl (pi_range1 (by rfl) B.b_range (pa_cons (pe_def G_l_take (hr.mono (by decide)) (by rfl) (pa_cons (pv 2) (pa_cons pe_int pa_nil))) pa_nil)) (pg_name (i := 9) sc_law.nd rfl (by first | exact Or.inl rfl | exact Or.inr rfl))
      (pss_cons (ps_set (i := 7) sc_law.nd rfl (by first | exact Or.inl rfl | exact Or.inr rfl) (pe_def G_l_spoiled (hr.mono (by decide)) (by rfl) (pa_cons (pv 2) (pa_cons (pv 6) (pa_cons (pv 7) pa_nil)))))
      (pss_one (ps_if (pt_cmpR (op_neDK (K := K) rfl hr.units) (pe_defK N_reduced_2_layer (hr.mono (by decide)) (by rfl) (pa_cons (pv 3) (pa_cons (pv 7) pa_nil)) (pk_cons (pv 4) pk_nil)) (pv 8) (by first | exact nomark _ | rfl)) (pss_one (ps_ret pe_bl)) pss_nil))))
      (pss_cons (ps_if (pt_cmpR (op_neDK (K := K) rfl hr.units) (pe_defK N_reduced_2_layer (hr.mono (by decide)) (by rfl) (pa_cons (pv 3) (pa_cons (pe_def G_turned (hr.mono (by decide)) (by rfl) (pa_cons (pv 7) pa_nil)) pa_nil)) (pk_cons (pv 4) pk_nil)) (pe_def G_l_reduced (hr.mono (by decide)) (by rfl) (pa_cons (pv 5) (pa_cons (pe_tup (pa_cons (pe_ix (ix_seqK (K := K) rfl) (pv 8) pe_int (fun _ _ => rfl)) (pa_cons (RVT.pe_revT (K := K) rfl (pe_ix (ix_seqK (K := K) rfl) (pv 8) pe_int (fun _ _ => rfl))) (pa_cons (pe_ix (ix_seqK (K := K) rfl) (pv 8) pe_int (fun _ _ => rfl)) pa_nil)))) pa_nil))) (by first | exact nomark _ | rfl)) (pss_one (ps_ret pe_bl)) pss_nil)
      (pss_one (ps_if (pt_cmpR (op_neDK (K := K) rfl hr.units) (pe_def G_turned (hr.mono (by decide)) (by rfl) (pa_cons (pe_defK N_reduced_2_layer (hr.mono (by decide)) (by rfl) (pa_cons (pv 3) (pa_cons (pe_def G_turned (hr.mono (by decide)) (by rfl) (pa_cons (pv 7) pa_nil)) pa_nil)) (pk_cons (pv 4) pk_nil)) pa_nil)) (pv 8) (by first | exact nomark _ | rfl)) (pss_one (ps_ret pe_bl)) pss_nil)))))))))))))
      (pss_one (ps_ret pe_bl))), body_ok h (fun ds μ Φ p => ?_)⟩
  (try dsimp only [cxOf, Cx.nox, Cx.wish, List.map_cons, List.map_nil])
  obtain ⟨ns, rfl, hl, hT, qz⟩ := p
  show AS K _ [some _, none, none, none, none, none, none, none, none, none] _ _
  walk_at "go"
  refine s_for1 (lawM3 ns) (fun i τ' μ' => μ' T_g = some (.tab Q_g) ∧ ∃ o1 o2 o3 o4 o5 o6 o7 o8 o9 : Option D, τ' = [some (.rol (ns.map D.int)), o1, o2, o3, o4, o5, o6, o7, o8, o9]) ?h ?hs ?hd
  case h =>
    walk_at "go"
    refine ⟨rfl, ?_, ?_, hT, ?_⟩
    · have := lawM3_le ns; omega
    · have := lawM3_le ns; omega
    · exact ⟨_, _, _, _, _, _, _, _, _, rfl⟩
  case hd =>
    rintro τ' μ' ⟨_, o1, o2, o3, o4, o5, o6, o7, o8, o9, rfl⟩
    walk_at "go"
    exact qz _
  case hs =>
    rintro i τ' μ' hi ⟨hT, o1, o2, o3, o4, o5, o6, o7, o8, o9, rfl⟩
    have hi6 : (i : Int) ≤ 6 := by have := lawM3_le ns; omega
    walk_at "go"
    refine use_bag (by omega) (by omega) fun b c m hb hm => ?_
    walk_at "go"
    refine use_made (by walk_at "mu") hm (by decide) (by decide) fun w h rows fl gap c3 m3 hmd hm3 => ?_
    obtain ⟨hok, hw1, hh1⟩ := hmd
    have OK := bok_of hok hw1 hh1
    have BD := bd_of hok
    have hbn : μ' b = none := hb
    have hT2 : ((μ'.set b (.lst [.int c, .int m])).set b (.lst [.int c3, .int m3])) T_g = some (.tab Q_g) := by
      rw [set_set]
      exact tab_new hT hbn
    have hb2 : ((μ'.set b (.lst [.int c, .int m])).set b (.lst [.int c3, .int m3])) b = some (.lst [.int c3, .int m3]) := set_same
    generalize ((μ'.set b (.lst [.int c, .int m])).set b (.lst [.int c3, .int m3])) = μ4 at hT2 hb2 ⊢
    clear hb hm
    walk_at "go"
    refine ⟨w, h, rows, fl, gap, rfl, hok, fun μ5 bd sp kg kt sb5 _ f1 _ _ BR => ?_⟩
    have hT5 := sb5 _ _ hT2
    have hb5 := sb5 _ _ hb2
    have nbp : b ≠ sp := Ne.symm (ne_of_some f1 hb2)
    clear hT2 sb5 hb2
    have l0 := OK.l0
    have l1 := OK.l1
    obtain ⟨dx, gl, tl, lvs, hbd, _⟩ := id BR
    walk_at "go"
    refine ⟨bd, dx, _, rfl, hbd, rfl, ?_⟩
    walk_at "go"
    refine ⟨bd, w, h, rows, fl, gap, sp, kg, kt, rfl, BR, ?_⟩
    walk_at "go"
    refine use_take hb5 hm3 (by omega) (sz_mono (show Sz 8 fl by unfold Sz; omega) (by decide)) fun lv c4 m4 a1 a2 a3 hm4 => ?_
    have BR6 := BR.beside (μ' := μ5.set b (.lst [.int c4, .int m4])) hb5 nbp (sb_self sb_refl)
    have hb6 : (μ5.set b (.lst [.int c4, .int m4])) b = some (.lst [.int c4, .int m4]) := set_same
    have hT6 : (μ5.set b (.lst [.int c4, .int m4])) T_g = some (.tab Q_g) := by
      have d1 : T_g ≠ b := fun z => by rw [z, hb5] at hT5; cases hT5
      rw [set_ne d1]
      exact hT5
    generalize (μ5.set b (.lst [.int c4, .int m4])) = μ6 at BR6 hb6 hT6 ⊢
    clear hb5 hT5 BR a3 hm3 hbd lvs
    obtain ⟨dx, gl, tl, lvs, hbd, _⟩ := id BR6
    walk_at "go"
    refine ⟨bd, dx, _, rfl, hbd, rfl, ?_⟩
    walk_at "go"
    refine use_tris BR6 OK a1 a2 hT6 fun μ7 s7 BR7 => ?_
    have hb7 := s2_lst BR6 s7 hb6
    have hT7 := s2_tab BR6 s7 hT6
    clear BR6 hb6 hT6 s7 hbd lvs
    walk_at "go"
    refine ⟨w, h, rows, fl, lv, rfl, OK, fun μ8 nr sub8 hnr NR => ?_⟩
    have hb8 := sub8 _ _ hb7
    have hT8 := sub8 _ _ hT7
    have BR8 := BR7.sub sub8
    clear hb7 hT7 BR7
    walk_at "go"
    intro l9 hl9
    have n9b : l9 ≠ b := ne_of_some hl9 hb8
    refine a_call ?_
    walk_at "go"
    refine use_take (by rw [set_ne (Ne.symm n9b)]; exact hb8) hm4 (by decide) (by walk_at "szN") fun d9 c9 m9 e1 e2 _ hm9 => ?_
    obtain ⟨most, hmost, mo0, mo1⟩ := pick_way16 e1 e2
    refine ro_ix (seq_ref (by rw [set_ne n9b]; exact set_same)) hmost ?_
    have hb9 : ((μ8.set l9 (.lst [.int 3, .int 12, .int 25])).set b (.lst [.int c9, .int m9])) b = some (.lst [.int c9, .int m9]) := set_same
    have sb9 : SubB b μ8 ((μ8.set l9 (.lst [.int 3, .int 12, .int 25])).set b (.lst [.int c9, .int m9])) := sb_self (sb_new sb_refl hl9)
    have NR9 := near_sub NR hb8 sb9
    have BR9 := BR8.beside hb8 nbp sb9
    have hT9 : ((μ8.set l9 (.lst [.int 3, .int 12, .int 25])).set b (.lst [.int c9, .int m9])) T_g = some (.tab Q_g) := sb9 _ _ (fun z => by rw [z, hb8] at hT8; cases hT8) hT8
    generalize ((μ8.set l9 (.lst [.int 3, .int 12, .int 25])).set b (.lst [.int c9, .int m9])) = μ9 at hb9 NR9 BR9 hT9 ⊢
    clear hb8 NR BR8 hT8 sb9 hl9
    walk_at "go"
    refine ⟨b, nr, most, c9, m9, w, h, fl, 0, lv, rows, rfl, hb9, hm9, NR9, OK, BD, mo0, by omega, fun p q2 walk μ1 c1 m1 WO wl sb1 hb1 hm1 => ?_⟩
    have BR1 := BR9.beside hb9 nbp sb1
    have NR1 := near_sub NR9 hb9 sb1
    have hT1 : μ1 T_g = some (.tab Q_g) := sb1 _ _ (fun z => by rw [z, hb9] at hT9; cases hT9) hT9
    clear hb9 NR9 BR9 hT9 sb1
    obtain ⟨RW, RL, RV, RR⟩ := red_all (w := w) (h := h) WO
    walk_at "go"
    refine ⟨w, h, fl, lv, p, q2, rows, walk, rfl, OK, WO, by omega, fun μ2 sb2 => ?_⟩
    have BR2 := BR1.sub sb2
    have hb2 := sb2 _ _ hb1
    have hT2 := sb2 _ _ hT1
    have NR2 : NearAt μ2 nr (trisL w h rows lv) := NR1.sub fun a m e _ => sb2 a m e
    clear BR1 hT1 NR1 hb1 sb2
    walk_at "go"
    refine a_defK [] (fun H => .nil) ?_
    walk_at "go"
    refine ⟨rfl, rfl, ?_⟩
    refine ⟨bd, p, q2, _, lv, w, h, rows, fl, gap, sp, kg, kt, rfl, BR2, OK, a1, a2, hT2, RW, by omega, fun μ3 s3 BR3 => ?_⟩
    have hT3 := s2_tab BR2 s3 hT2
    have hb3 := s2_lst BR2 s3 hb2
    have NR3 := s2_near BR2 s3 NR2
    clear BR2 hT2 hb2 NR2 s3
    walk_at "go"
    rw [if_neg (by simp)]
    walk_at "go"
    refine a_defK [] (fun H => .nil) ?_
    walk_at "go"
    refine ⟨rfl, rfl, ?_⟩
    refine use_reduced BR3 OK a1 a2 hT3 WO (by omega) fun μ4 s4 BR4 => ?_
    have hT4 := s2_tab BR3 s4 hT3
    have hb4 := s2_lst BR3 s4 hb3
    have NR4 := s2_near BR3 s4 NR3
    clear BR3 hT3 hb3 NR3 s4
    have eo1 : D.ok (wayD p q2 (redL w h rows lv p q2 walk)) = true := okn_way.ok (by decide)
    have eo2 := eqv_same (okn_way (p := p) (q := q2) (walk := redL w h rows lv p q2 walk))
    walk_at "go"
    refine ro_neD eo1 eo1 ?_
    rw [eo2]
    refine ⟨_, rfl, ?_⟩
    rw [if_neg (by decide)]
    walk_at "go"
    refine s_for (ai_1 ?_)
    walk_at "go"
    refine use_take hb4 hm1 (by decide) (by walk_at "szN") fun n c2 m2 n0 n1 _ hm2 => ?_
    have sb5 : SubB b μ4 (μ4.set b (.lst [.int c2, .int m2])) := sb_self sb_refl
    have BR5 := BR4.beside hb4 nbp sb5
    have NR5 := near_sub NR4 hb4 sb5
    have hT5 := sb5 _ _ (fun z => by rw [z, hb4] at hT4; cases hT4) hT4
    have hb5 : (μ4.set b (.lst [.int c2, .int m2])) b = some (.lst [.int c2, .int m2]) := set_same
    generalize (μ4.set b (.lst [.int c2, .int m2])) = μ5 at BR5 NR5 hT5 hb5 ⊢
    clear BR4 NR4 hT4 hb4 sb5
    walk_at "go"
    refine ⟨by omega, by omega, fun k τ' μ' => ∃ walk' c m, ∃ o9 : Option D, WayOk (trisL w h rows lv) p q2 walk' ∧ walk'.length ≤ 52 ∧ redL w h rows lv p q2 walk' = redL w h rows lv p q2 walk ∧ Brd C_Board μ' bd w h rows fl gap sp kg kt ∧ NearAt μ' nr (trisL w h rows lv) ∧ μ' T_g = some (.tab Q_g) ∧ μ' b = some (.lst [.int c, .int m]) ∧ BgOk m ∧
      τ' = [some (.rol (ns.map D.int)), some (.int i), some (.ref b), some (.ref bd), some (.int lv), some (trisD w h rows lv), some (.ref nr), some (wayD p q2 walk'), some (wayD p q2 (redL w h rows lv p q2 walk)), o9], ?_, ?_, ?_⟩
    · exact ⟨walk, c2, m2, _, WO, by omega, rfl, BR5, NR5, hT5, hb5, hm2, rfl⟩
    · rintro k it τ' μ' hx ⟨walk', c3, m3, o9', W3, wl3, e3, BR6, NR6, hT6, hb6, hm6, rfl⟩
      walk_at "go"
      refine ⟨b, nr, c3, m3, w, h, fl, lv, p, q2, rows, walk', rfl, hb6, hm6, NR6, OK, BD, W3, by omega, fun walk2 μ7 c7 m7 W7 wl7 A7 sb7 hb7 hm7 => ?_⟩
      have BR7 := BR6.beside hb6 nbp sb7
      have NR7 := near_sub NR6 hb6 sb7
      have hT7 := sb7 _ _ (fun z => by rw [z, hb6] at hT6; cases hT6) hT6
      have l7 := wl7.2 wl3
      have e7 := red_alike (w := w) (h := h) (lv := lv) (rows := rows) A7
      rw [e3] at e7
      walk_at "go"
      refine a_defK [] (fun H => .nil) ?_
      walk_at "go"
      refine ⟨rfl, rfl, ?_⟩
      refine use_reduced BR7 OK a1 a2 hT7 W7 (by omega) fun μ8 s8 BR8 => ?_
      have hT8 := s2_tab BR7 s8 hT7
      have hb8 := s2_lst BR7 s8 hb7
      have NR8 := s2_near BR7 s8 NR7
      rw [e7]
      walk_at "go"
      refine ro_neD eo1 eo1 ?_
      rw [eo2]
      refine ⟨_, rfl, ?_⟩
      rw [if_neg (by decide)]
      walk_at "go"
      exact ⟨walk2, c7, m7, _, W7, l7, e7, BR8, NR8, hT8, hb8, hm7, rfl⟩
    rintro τ' μ' ⟨walk', c3, m3, o9', W3, wl3, e3, BR6, NR6, hT6, hb6, hm6, rfl⟩
    clear BR5 NR5 hT5 hb5
    obtain ⟨RW3, RL3, RV3, RR3⟩ := red_all (w := w) (h := h) W3
    have TR3 : ∀ t ∈ walk', Tr w h rows lv t := fun t ht => tr_of (W3.mem t ht)
    have WR3 := way_rev TR3 W3
    have TRr : ∀ t ∈ redL w h rows lv p q2 walk, Tr w h rows lv t := fun t ht => tr_of (RW.mem t ht)
    have WRr := way_rev TRr RW
    obtain ⟨_, _, RVr, _⟩ := red_all (w := w) (h := h) RW
    rw [RR] at RVr
    rw [e3] at RV3
    have eo3 : D.ok (wayD q2 p (redL w h rows lv p q2 walk).reverse) = true := okn_way.ok (by decide)
    have eo4 := eqv_same (okn_way (p := q2) (q := p) (walk := (redL w h rows lv p q2 walk).reverse))
    walk_at "go"
    refine a_defK [] (fun H => .nil) ?_
    walk_at "go"
    refine use_turned (by omega) ?_
    walk_at "go"
    refine ⟨rfl, rfl, ?_⟩
    refine use_reduced BR6 OK a1 a2 hT6 WR3 (by rw [List.length_reverse]; omega) fun μ8 s8 BR8 => ?_
    have hT8 := s2_tab BR6 s8 hT6
    rw [RV3]
    walk_at "go"
    rw [← List.map_reverse]
    refine ⟨w, h, fl, lv, q2, p, rows, (redL w h rows lv p q2 walk).reverse, rfl, OK, WRr, by rw [List.length_reverse]; omega, fun μ9 sb9 => ?_⟩
    have BR9 := BR8.sub sb9
    have hT9 := sb9 _ _ hT8
    rw [RVr]
    refine ro_neD eo3 eo3 ?_
    rw [eo4]
    refine ⟨_, rfl, ?_⟩
    rw [if_neg (by decide)]
    walk_at "go"
    refine a_defK [] (fun H => .nil) ?_
    walk_at "go"
    refine use_turned (by omega) ?_
    walk_at "go"
    refine ⟨rfl, rfl, ?_⟩
    refine use_reduced BR9 OK a1 a2 hT9 WR3 (by rw [List.length_reverse]; omega) fun μA sA BRA => ?_
    have hTA := s2_tab BR9 sA hT9
    rw [RV3]
    walk_at "go"
    refine use_turned (by rw [List.length_reverse]; omega) ?_
    rw [List.reverse_reverse]
    walk_at "go"
    refine ro_neD eo1 eo1 ?_
    rw [eo2]
    refine ⟨_, rfl, ?_⟩
    rw [if_neg (by decide)]
    walk_at "go"
    exact ⟨hTA, _, _, _, _, _, _, _, _, _, rfl⟩
end
theorem all_mk {l : PySem.W.OpenLaw} {w : World} {K : PySem.W.Frag} {h : Heap} {mg : Str → Option Value} {fa : Addr} (X : K.In h) (G : h.Ns mainGlobals mg) (hfa : mg "law" = some (.ref fa))
    {f1 f2 f3 f4 f5 f6 f7 f8 f9 f10 f11 f12 f13 f14 f15 f16 f17 f18 f19 f20 f21 f22 f23 f24 f25 f26 f27 f28 f29 f30 f31 f32 f33 f34 f35 f36 f37 f38 f39 f40 f41 f42 : Addr}
    {od1 an1 od2 an2 od3 an3 od4 an4 od5 an5 od6 an6 od7 an7 od8 an8 od9 an9 od10 an10 od11 an11 od12 an12 od13 an13 od14 an14 od15 an15 od16 an16 od17 an17 od18 an18 od19 an19 od20 an20 od21 an21 od22 an22 od23 an23 od24 an24 od25 an25 od26 an26 od27 an27 od28 an28 od29 an29 od30 an30 od31 an31 od32 an32 od33 an33 od34 an34 od35 an35 od36 an36 od37 an37 od38 an38 od39 an39 od40 an40 od41 an41 od42 an42 : Option Addr}
    {sl1 sl2 sl3 sl4 sl5 sl6 sl7 sl8 sl9 sl10 sl11 sl12 sl13 sl14 sl15 sl16 sl17 sl18 sl19 sl20 sl21 sl22 sl23 sl24 sl25 sl26 sl27 sl28 sl29 sl30 sl31 sl32 sl33 sl34 sl35 sl36 sl37 sl38 sl39 sl40 sl41 sl42 : Array (Option Value)}
    {oc1 kV1 dc1 pm1 cd1 ct1 oc2 kV2 dc2 pm2 cd2 ct2 oc3 kV3 dc3 pm3 cd3 ct3 oc4 kV4 dc4 pm4 cd4 ct4 oc5 kV5 dc5 pm5 cd5 ct5 oc6 kV6 dc6 pm6 cd6 ct6 oc7 dc7 pm7 cd7 ct7 oc8 kV8 dc8 pm8 cd8 ct8 oc9 kV9 dc9 pm9 cd9 ct9 oc10 kV10 dc10 pm10 cd10 ct10 oc11 kV11 dc11 pm11 cd11 ct11 oc12 kV12 dc12 pm12 cd12 ct12 oc13 kV13 dc13 pm13 cd13 ct13 oc14 kV14 dc14 pm14 cd14 ct14 oc15 kV15 dc15 pm15 cd15 ct15 oc16 kV16 dc16 pm16 cd16 ct16 oc17 kV17 dc17 pm17 ct17 oc18 kV18 dc18 pm18 cd18 ct18 oc19 kV19 dc19 pm19 cd19 ct19 oc20 kV20 dc20 pm20 cd20 ct20 oc21 kV21 dc21 pm21 cd21 ct21 oc22 kV22 dc22 pm22 cd22 ct22 oc23 kV23 dc23 pm23 cd23 ct23 oc24 kV24 dc24 pm24 cd24 ct24 oc25 kV25 dc25 pm25 cd25 ct25 oc26 kV26 dc26 pm26 cd26 ct26 oc27 dc27 pm27 cd27 ct27 oc28 kV28 dc28 pm28 cd28 ct28 oc29 kV29 dc29 pm29 cd29 ct29 oc30 kV30 dc30 pm30 cd30 ct30 oc31 kV31 dc31 pm31 cd31 ct31 oc32 kV32 dc32 pm32 cd32 ct32 oc33 kV33 dc33 pm33 cd33 ct33 oc34 kV34 dc34 pm34 cd34 ct34 oc35 dc35 pm35 cd35 ct35 oc36 kV36 dc36 pm36 cd36 ct36 oc37 kV37 dc37 pm37 cd37 ct37 oc38 dc38 pm38 cd38 ct38 oc39 kV39 dc39 pm39 cd39 ct39 oc40 kV40 dc40 pm40 cd40 ct40 oc41 kV41 dc41 pm41 cd41 ct41 oc42 kV42 dc42 pm42 cd42 ct42 : Value}
    {C_Board : Addr}
    {C_NoBoard : Addr}
    {C_NoPin : Addr}
    {nm_NoPin qn_NoPin : Str} {N_NoPin fI_NoPin : Addr} {bs_NoPin : List Value} {sn_NoPin : List Str} {sub_NoPin : List Value} {ab_NoPin : Bool} {col_NoPin : Option Bool} {dd_NoPin od_NoPin an_NoPin : Option Addr} {m0_NoPin m1_NoPin m2_NoPin m3_NoPin m5_NoPin : Option Value} {osl_NoPin : Array (Option Value)} {oc_NoPin kV_NoPin dc_NoPin pm_NoPin cd_NoPin ct_NoPin : Value}
    {C_NoLayer : Addr}
    {nm_NoLayer qn_NoLayer : Str} {N_NoLayer fI_NoLayer : Addr} {bs_NoLayer : List Value} {sn_NoLayer : List Str} {sub_NoLayer : List Value} {ab_NoLayer : Bool} {col_NoLayer : Option Bool} {dd_NoLayer od_NoLayer an_NoLayer : Option Addr} {m0_NoLayer m1_NoLayer m2_NoLayer m3_NoLayer m5_NoLayer : Option Value} {osl_NoLayer : Array (Option Value)} {oc_NoLayer kV_NoLayer dc_NoLayer pm_NoLayer cd_NoLayer ct_NoLayer : Value}
    {C_NoGate : Addr}
    {nm_NoGate qn_NoGate : Str} {N_NoGate fI_NoGate : Addr} {bs_NoGate : List Value} {sn_NoGate : List Str} {sub_NoGate : List Value} {ab_NoGate : Bool} {col_NoGate : Option Bool} {dd_NoGate od_NoGate an_NoGate : Option Addr} {m0_NoGate m1_NoGate m2_NoGate m3_NoGate m5_NoGate : Option Value} {osl_NoGate : Array (Option Value)} {oc_NoGate kV_NoGate dc_NoGate pm_NoGate cd_NoGate ct_NoGate : Value}
    {tk_CORNERS : Tok}
    {tk_MOST : Tok}
    {tk_MOST_LAYERS : Tok}
    {tk_MOST_PINS : Tok}
    {D7 : Addr}
    {tk7_layers : Tok}
    {tk7_spacing : Tok}
    {D27 : Addr}
    {tk27_layer : Tok}
    {D35 : Addr}
    {tk35_layer : Tok}
    {D38 : Addr}
    {tk38_layer : Tok}
    {T_g cT : Addr}
    (aC_Board : PySem.W.nsIn K mainGlobals "Board" = some (some (.ref C_Board)))
    (pg_Board : PySem.W.plainGet K C_Board Str.empty = true)
    (hd_Board : PySem.W.hasDictIn K C_Board = true)
    (po_Board : PySem.W.plainOver K C_Board = true)
    (sa_Board : PySem.W.findIn K (.ref C_Board) "__setattr__" = some (some (.builtin "object.__setattr__")))
    (n_Board_wide : PySem.W.findIn K (.ref C_Board) "wide" = some none)
    (n_Board_high : PySem.W.findIn K (.ref C_Board) "high" = some none)
    (n_Board_pin_rows : PySem.W.findIn K (.ref C_Board) "pin_rows" = some none)
    (n_Board_layer_count : PySem.W.findIn K (.ref C_Board) "layer_count" = some none)
    (n_Board_apart_by : PySem.W.findIn K (.ref C_Board) "apart_by" = some none)
    (n_Board_spots : PySem.W.findIn K (.ref C_Board) "spots" = some none)
    (n_Board_kept_gates : PySem.W.findIn K (.ref C_Board) "kept_gates" = some none)
    (n_Board_kept_triangles : PySem.W.findIn K (.ref C_Board) "kept_triangles" = some none)
    (mk_Board : PySem.W.makesIn K C_Board = true)
    (kc_Board : PySem.W.keepIn K (.ref C_Board) = true)
    (aC_NoBoard : PySem.W.nsIn K mainGlobals "NoBoard" = some (some (.ref C_NoBoard)))
    (kc_NoBoard : PySem.W.keepIn K (.ref C_NoBoard) = true)
    (eC_NoBoard : PySem.W.subIn K (.ref C_NoBoard) (.type "BaseException") = some true)
    (tC_NoBoard : PySem.W.typeIn K (.ref C_NoBoard) = some (.type "type"))
    (q_NoBoard : PySem.W.excIn K C_NoBoard [.type "ValueError", .type "Exception", .type "BaseException", .type "object"] "ValueError.__new__" = true)
    (aC_NoPin : PySem.W.nsIn K mainGlobals "NoPin" = some (some (.ref C_NoPin)))
    (kc_NoPin : PySem.W.keepIn K (.ref C_NoPin) = true)
    (eC_NoPin : PySem.W.subIn K (.ref C_NoPin) (.type "BaseException") = some true)
    (tC_NoPin : PySem.W.typeIn K (.ref C_NoPin) = some (.type "type"))
    (xL_NoPin : K.lookup C_NoPin = some (PySem.excClassObj nm_NoPin qn_NoPin C_NoPin N_NoPin bs_NoPin XO.tlIE true sn_NoPin sub_NoPin ab_NoPin col_NoPin dd_NoPin m0_NoPin m1_NoPin m2_NoPin m3_NoPin m5_NoPin "IndexError.__new__"))
    (sa_NoPin : PySem.W.findIn K (.ref C_NoPin) "__setattr__" = some (some (.builtin "object.__setattr__")))
    (ga_NoPin : PySem.W.findIn K (.ref C_NoPin) "__getattribute__" = some (some (.builtin "BaseException.__getattribute__")))
    (gg_NoPin : PySem.W.findIn K (.ref C_NoPin) "__getattr__" = some none)
    (nf_NoPin : PySem.W.findIn K (.ref C_NoPin) "pin" = some none)
    (hC_NoPin : PySem.W.hasDictIn K C_NoPin = true)
    (iC_NoPin : PySem.W.findIn K (.ref C_NoPin) "__init__" = some (some (.ref fI_NoPin)))
    (tI_NoPin : PySem.W.typeIn K (.ref fI_NoPin) = some (.type "function"))
    (lI_NoPin : K.lookup fI_NoPin = some ⟨oc_NoPin, od_NoPin, .func (PySem.W.fnOf "__init__" "NoPin.__init__" (defArgs s_nopin_init) (defBody s_nopin_init) (defScope s_nopin_init) .none kV_NoPin dc_NoPin pm_NoPin an_NoPin cd_NoPin ct_NoPin), osl_NoPin⟩)
    (cI_NoPin : PySem.W.codeIn K cd_NoPin "NoPin.__init__" = true)
    (kI_NoPin : PySem.W.keepIn K (.ref fI_NoPin) = true)
    (aC_NoLayer : PySem.W.nsIn K mainGlobals "NoLayer" = some (some (.ref C_NoLayer)))
    (kc_NoLayer : PySem.W.keepIn K (.ref C_NoLayer) = true)
    (eC_NoLayer : PySem.W.subIn K (.ref C_NoLayer) (.type "BaseException") = some true)
    (tC_NoLayer : PySem.W.typeIn K (.ref C_NoLayer) = some (.type "type"))
    (xL_NoLayer : K.lookup C_NoLayer = some (PySem.excClassObj nm_NoLayer qn_NoLayer C_NoLayer N_NoLayer bs_NoLayer XO.tlIE true sn_NoLayer sub_NoLayer ab_NoLayer col_NoLayer dd_NoLayer m0_NoLayer m1_NoLayer m2_NoLayer m3_NoLayer m5_NoLayer "IndexError.__new__"))
    (sa_NoLayer : PySem.W.findIn K (.ref C_NoLayer) "__setattr__" = some (some (.builtin "object.__setattr__")))
    (ga_NoLayer : PySem.W.findIn K (.ref C_NoLayer) "__getattribute__" = some (some (.builtin "BaseException.__getattribute__")))
    (gg_NoLayer : PySem.W.findIn K (.ref C_NoLayer) "__getattr__" = some none)
    (nf_NoLayer : PySem.W.findIn K (.ref C_NoLayer) "layer" = some none)
    (hC_NoLayer : PySem.W.hasDictIn K C_NoLayer = true)
    (iC_NoLayer : PySem.W.findIn K (.ref C_NoLayer) "__init__" = some (some (.ref fI_NoLayer)))
    (tI_NoLayer : PySem.W.typeIn K (.ref fI_NoLayer) = some (.type "function"))
    (lI_NoLayer : K.lookup fI_NoLayer = some ⟨oc_NoLayer, od_NoLayer, .func (PySem.W.fnOf "__init__" "NoLayer.__init__" (defArgs s_nolayer_init) (defBody s_nolayer_init) (defScope s_nolayer_init) .none kV_NoLayer dc_NoLayer pm_NoLayer an_NoLayer cd_NoLayer ct_NoLayer), osl_NoLayer⟩)
    (cI_NoLayer : PySem.W.codeIn K cd_NoLayer "NoLayer.__init__" = true)
    (kI_NoLayer : PySem.W.keepIn K (.ref fI_NoLayer) = true)
    (aC_NoGate : PySem.W.nsIn K mainGlobals "NoGate" = some (some (.ref C_NoGate)))
    (kc_NoGate : PySem.W.keepIn K (.ref C_NoGate) = true)
    (eC_NoGate : PySem.W.subIn K (.ref C_NoGate) (.type "BaseException") = some true)
    (tC_NoGate : PySem.W.typeIn K (.ref C_NoGate) = some (.type "type"))
    (xL_NoGate : K.lookup C_NoGate = some (PySem.excClassObj nm_NoGate qn_NoGate C_NoGate N_NoGate bs_NoGate XO.tlKE true sn_NoGate sub_NoGate ab_NoGate col_NoGate dd_NoGate m0_NoGate m1_NoGate m2_NoGate m3_NoGate m5_NoGate "LookupError.__new__"))
    (sa_NoGate : PySem.W.findIn K (.ref C_NoGate) "__setattr__" = some (some (.builtin "object.__setattr__")))
    (ga_NoGate : PySem.W.findIn K (.ref C_NoGate) "__getattribute__" = some (some (.builtin "BaseException.__getattribute__")))
    (gg_NoGate : PySem.W.findIn K (.ref C_NoGate) "__getattr__" = some none)
    (nf_NoGate : PySem.W.findIn K (.ref C_NoGate) "gate" = some none)
    (hC_NoGate : PySem.W.hasDictIn K C_NoGate = true)
    (iC_NoGate : PySem.W.findIn K (.ref C_NoGate) "__init__" = some (some (.ref fI_NoGate)))
    (tI_NoGate : PySem.W.typeIn K (.ref fI_NoGate) = some (.type "function"))
    (lI_NoGate : K.lookup fI_NoGate = some ⟨oc_NoGate, od_NoGate, .func (PySem.W.fnOf "__init__" "NoGate.__init__" (defArgs s_nogate_init) (defBody s_nogate_init) (defScope s_nogate_init) .none kV_NoGate dc_NoGate pm_NoGate an_NoGate cd_NoGate ct_NoGate), osl_NoGate⟩)
    (cI_NoGate : PySem.W.codeIn K cd_NoGate "NoGate.__init__" = true)
    (kI_NoGate : PySem.W.keepIn K (.ref fI_NoGate) = true)
    (v_CORNERS : PySem.W.nsIn K mainGlobals "CORNERS" = some (some (.int 4 tk_CORNERS)))
    (v_MOST : PySem.W.nsIn K mainGlobals "MOST" = some (some (.int 1000000 tk_MOST)))
    (v_MOST_LAYERS : PySem.W.nsIn K mainGlobals "MOST_LAYERS" = some (some (.int 3 tk_MOST_LAYERS)))
    (v_MOST_PINS : PySem.W.nsIn K mainGlobals "MOST_PINS" = some (some (.int 16 tk_MOST_PINS)))
    (a1 : PySem.W.nsIn K mainGlobals "is_whole" = some (some (.ref f1)))
    (l1 : K.lookup f1 = some ⟨oc1, od1, .func (PySem.W.fnOf "is_whole" "is_whole" (defArgs s_is_whole) (defBody s_is_whole) (defScope s_is_whole) .none kV1 dc1 pm1 an1 cd1 ct1), sl1⟩)
    (c1 : PySem.W.codeIn K cd1 "is_whole" = true)
    (k1 : PySem.W.keepIn K (.ref f1) = true)
    (a2 : PySem.W.nsIn K mainGlobals "is_within" = some (some (.ref f2)))
    (l2 : K.lookup f2 = some ⟨oc2, od2, .func (PySem.W.fnOf "is_within" "is_within" (defArgs s_is_within) (defBody s_is_within) (defScope s_is_within) .none kV2 dc2 pm2 an2 cd2 ct2), sl2⟩)
    (c2 : PySem.W.codeIn K cd2 "is_within" = true)
    (k2 : PySem.W.keepIn K (.ref f2) = true)
    (a3 : PySem.W.nsIn K mainGlobals "is_row" = some (some (.ref f3)))
    (l3 : K.lookup f3 = some ⟨oc3, od3, .func (PySem.W.fnOf "is_row" "is_row" (defArgs s_is_row) (defBody s_is_row) (defScope s_is_row) .none kV3 dc3 pm3 an3 cd3 ct3), sl3⟩)
    (c3 : PySem.W.codeIn K cd3 "is_row" = true)
    (k3 : PySem.W.keepIn K (.ref f3) = true)
    (a4 : PySem.W.nsIn K mainGlobals "are_whole" = some (some (.ref f4)))
    (l4 : K.lookup f4 = some ⟨oc4, od4, .func (PySem.W.fnOf "are_whole" "are_whole" (defArgs s_are_whole) (defBody s_are_whole) (defScope s_are_whole) .none kV4 dc4 pm4 an4 cd4 ct4), sl4⟩)
    (c4 : PySem.W.codeIn K cd4 "are_whole" = true)
    (k4 : PySem.W.keepIn K (.ref f4) = true)
    (a5 : PySem.W.nsIn K mainGlobals "is_pin_row" = some (some (.ref f5)))
    (l5 : K.lookup f5 = some ⟨oc5, od5, .func (PySem.W.fnOf "is_pin_row" "is_pin_row" (defArgs s_is_pin_row) (defBody s_is_pin_row) (defScope s_is_pin_row) .none kV5 dc5 pm5 an5 cd5 ct5), sl5⟩)
    (c5 : PySem.W.codeIn K cd5 "is_pin_row" = true)
    (k5 : PySem.W.keepIn K (.ref f5) = true)
    (a6 : PySem.W.nsIn K mainGlobals "are_board" = some (some (.ref f6)))
    (l6 : K.lookup f6 = some ⟨oc6, od6, .func (PySem.W.fnOf "are_board" "are_board" (defArgs s_are_board) (defBody s_are_board) (defScope s_are_board) .none kV6 dc6 pm6 an6 cd6 ct6), sl6⟩)
    (c6 : PySem.W.codeIn K cd6 "are_board" = true)
    (k6 : PySem.W.keepIn K (.ref f6) = true)
    (a7 : PySem.W.findIn K (.ref C_Board) "__init__" = some (some (.ref f7)))
    (i7 : PySem.W.isFn K (.ref f7) = true)
    (l7 : K.lookup f7 = some ⟨oc7, od7, .func (PySem.W.fnOf "__init__" "Board.__init__" (defArgs s_board_init) (defBody s_board_init) (defScope s_board_init) .none (.ref D7) dc7 pm7 an7 cd7 ct7), sl7⟩)
    (c7 : PySem.W.codeIn K cd7 "Board.__init__" = true)
    (k7 : PySem.W.keepIn K (.ref f7) = true)
    (d7_layers : PySem.W.nsIn K D7 "layers" = some (some (.int 1 tk7_layers)))
    (d7_spacing : PySem.W.nsIn K D7 "spacing" = some (some (.int 1 tk7_spacing)))
    (a8 : PySem.W.findIn K (.ref C_Board) "look_pin" = some (some (.ref f8)))
    (i8 : PySem.W.isFn K (.ref f8) = true)
    (l8 : K.lookup f8 = some ⟨oc8, od8, .func (PySem.W.fnOf "look_pin" "Board.look_pin" (defArgs s_board_look_pin) (defBody s_board_look_pin) (defScope s_board_look_pin) .none kV8 dc8 pm8 an8 cd8 ct8), sl8⟩)
    (c8 : PySem.W.codeIn K cd8 "Board.look_pin" = true)
    (k8 : PySem.W.keepIn K (.ref f8) = true)
    (a9 : PySem.W.nsIn K mainGlobals "sign_of" = some (some (.ref f9)))
    (l9 : K.lookup f9 = some ⟨oc9, od9, .func (PySem.W.fnOf "sign_of" "sign_of" (defArgs s_sign_of) (defBody s_sign_of) (defScope s_sign_of) .none kV9 dc9 pm9 an9 cd9 ct9), sl9⟩)
    (c9 : PySem.W.codeIn K cd9 "sign_of" = true)
    (k9 : PySem.W.keepIn K (.ref f9) = true)
    (a10 : PySem.W.nsIn K mainGlobals "side" = some (some (.ref f10)))
    (l10 : K.lookup f10 = some ⟨oc10, od10, .func (PySem.W.fnOf "side" "side" (defArgs s_side) (defBody s_side) (defScope s_side) .none kV10 dc10 pm10 an10 cd10 ct10), sl10⟩)
    (c10 : PySem.W.codeIn K cd10 "side" = true)
    (k10 : PySem.W.keepIn K (.ref f10) = true)
    (a11 : PySem.W.nsIn K mainGlobals "apart" = some (some (.ref f11)))
    (l11 : K.lookup f11 = some ⟨oc11, od11, .func (PySem.W.fnOf "apart" "apart" (defArgs s_apart) (defBody s_apart) (defScope s_apart) .none kV11 dc11 pm11 an11 cd11 ct11), sl11⟩)
    (c11 : PySem.W.codeIn K cd11 "apart" = true)
    (k11 : PySem.W.keepIn K (.ref f11) = true)
    (a12 : PySem.W.nsIn K mainGlobals "is_between" = some (some (.ref f12)))
    (l12 : K.lookup f12 = some ⟨oc12, od12, .func (PySem.W.fnOf "is_between" "is_between" (defArgs s_is_between) (defBody s_is_between) (defScope s_is_between) .none kV12 dc12 pm12 an12 cd12 ct12), sl12⟩)
    (c12 : PySem.W.codeIn K cd12 "is_between" = true)
    (k12 : PySem.W.keepIn K (.ref f12) = true)
    (a13 : PySem.W.findIn K (.ref C_Board) "look_layer" = some (some (.ref f13)))
    (i13 : PySem.W.isFn K (.ref f13) = true)
    (l13 : K.lookup f13 = some ⟨oc13, od13, .func (PySem.W.fnOf "look_layer" "Board.look_layer" (defArgs s_board_look_layer) (defBody s_board_look_layer) (defScope s_board_look_layer) .none kV13 dc13 pm13 an13 cd13 ct13), sl13⟩)
    (c13 : PySem.W.codeIn K cd13 "Board.look_layer" = true)
    (k13 : PySem.W.keepIn K (.ref f13) = true)
    (a14 : PySem.W.findIn K (.ref C_Board) "pins_on" = some (some (.ref f14)))
    (i14 : PySem.W.isFn K (.ref f14) = true)
    (l14 : K.lookup f14 = some ⟨oc14, od14, .func (PySem.W.fnOf "pins_on" "Board.pins_on" (defArgs s_board_pins_on) (defBody s_board_pins_on) (defScope s_board_pins_on) .none kV14 dc14 pm14 an14 cd14 ct14), sl14⟩)
    (c14 : PySem.W.codeIn K cd14 "Board.pins_on" = true)
    (k14 : PySem.W.keepIn K (.ref f14) = true)
    (a15 : PySem.W.findIn K (.ref C_Board) "meets_a_pin" = some (some (.ref f15)))
    (i15 : PySem.W.isFn K (.ref f15) = true)
    (l15 : K.lookup f15 = some ⟨oc15, od15, .func (PySem.W.fnOf "meets_a_pin" "Board.meets_a_pin" (defArgs s_board_meets_a_pin) (defBody s_board_meets_a_pin) (defScope s_board_meets_a_pin) .none kV15 dc15 pm15 an15 cd15 ct15), sl15⟩)
    (c15 : PySem.W.codeIn K cd15 "Board.meets_a_pin" = true)
    (k15 : PySem.W.keepIn K (.ref f15) = true)
    (a16 : PySem.W.findIn K (.ref C_Board) "crosses_gate" = some (some (.ref f16)))
    (i16 : PySem.W.isFn K (.ref f16) = true)
    (l16 : K.lookup f16 = some ⟨oc16, od16, .func (PySem.W.fnOf "crosses_gate" "Board.crosses_gate" (defArgs s_board_crosses_gate) (defBody s_board_crosses_gate) (defScope s_board_crosses_gate) .none kV16 dc16 pm16 an16 cd16 ct16), sl16⟩)
    (c16 : PySem.W.codeIn K cd16 "Board.crosses_gate" = true)
    (k16 : PySem.W.keepIn K (.ref f16) = true)
    (a17 : PySem.W.findIn K (.ref C_Board) "found_gates" = some (some (.ref f17)))
    (i17 : PySem.W.isFn K (.ref f17) = true)
    (l17 : K.lookup f17 = some ⟨oc17, od17, .func (PySem.W.fnOf "found_gates" "Board.found_gates" (defArgs s_board_found_gates) (defBody s_board_found_gates) (defScope s_board_found_gates) .none kV17 dc17 pm17 an17 (.ref cT) ct17), sl17⟩)
    (c17 : PySem.W.codeIn K (.ref cT) "Board.found_gates" = true)
    (k17 : PySem.W.keepIn K (.ref f17) = true)
    (a18 : PySem.W.findIn K (.ref C_Board) "gates" = some (some (.ref f18)))
    (i18 : PySem.W.isFn K (.ref f18) = true)
    (l18 : K.lookup f18 = some ⟨oc18, od18, .func (PySem.W.fnOf "gates" "Board.gates" (defArgs s_board_gates) (defBody s_board_gates) (defScope s_board_gates) .none kV18 dc18 pm18 an18 cd18 ct18), sl18⟩)
    (c18 : PySem.W.codeIn K cd18 "Board.gates" = true)
    (k18 : PySem.W.keepIn K (.ref f18) = true)
    (a19 : PySem.W.findIn K (.ref C_Board) "is_empty" = some (some (.ref f19)))
    (i19 : PySem.W.isFn K (.ref f19) = true)
    (l19 : K.lookup f19 = some ⟨oc19, od19, .func (PySem.W.fnOf "is_empty" "Board.is_empty" (defArgs s_board_is_empty) (defBody s_board_is_empty) (defScope s_board_is_empty) .none kV19 dc19 pm19 an19 cd19 ct19), sl19⟩)
    (c19 : PySem.W.codeIn K cd19 "Board.is_empty" = true)
    (k19 : PySem.W.keepIn K (.ref f19) = true)
    (a20 : PySem.W.findIn K (.ref C_Board) "found_triangles" = some (some (.ref f20)))
    (i20 : PySem.W.isFn K (.ref f20) = true)
    (l20 : K.lookup f20 = some ⟨oc20, od20, .func (PySem.W.fnOf "found_triangles" "Board.found_triangles" (defArgs s_board_found_triangles) (defBody s_board_found_triangles) (defScope s_board_found_triangles) .none kV20 dc20 pm20 an20 cd20 ct20), sl20⟩)
    (c20 : PySem.W.codeIn K cd20 "Board.found_triangles" = true)
    (k20 : PySem.W.keepIn K (.ref f20) = true)
    (a21 : PySem.W.findIn K (.ref C_Board) "triangles" = some (some (.ref f21)))
    (i21 : PySem.W.isFn K (.ref f21) = true)
    (l21 : K.lookup f21 = some ⟨oc21, od21, .func (PySem.W.fnOf "triangles" "Board.triangles" (defArgs s_board_triangles) (defBody s_board_triangles) (defScope s_board_triangles) .none kV21 dc21 pm21 an21 cd21 ct21), sl21⟩)
    (c21 : PySem.W.codeIn K cd21 "Board.triangles" = true)
    (k21 : PySem.W.keepIn K (.ref f21) = true)
    (a22 : PySem.W.nsIn K mainGlobals "_law_bag" = some (some (.ref f22)))
    (l22 : K.lookup f22 = some ⟨oc22, od22, .func (PySem.W.fnOf "_law_bag" "_law_bag" (defArgs s_l_bag) (defBody s_l_bag) (defScope s_l_bag) .none kV22 dc22 pm22 an22 cd22 ct22), sl22⟩)
    (c22 : PySem.W.codeIn K cd22 "_law_bag" = true)
    (k22 : PySem.W.keepIn K (.ref f22) = true)
    (a23 : PySem.W.nsIn K mainGlobals "_law_take" = some (some (.ref f23)))
    (l23 : K.lookup f23 = some ⟨oc23, od23, .func (PySem.W.fnOf "_law_take" "_law_take" (defArgs s_l_take) (defBody s_l_take) (defScope s_l_take) .none kV23 dc23 pm23 an23 cd23 ct23), sl23⟩)
    (c23 : PySem.W.codeIn K cd23 "_law_take" = true)
    (k23 : PySem.W.keepIn K (.ref f23) = true)
    (a24 : PySem.W.nsIn K mainGlobals "_law_made_of" = some (some (.ref f24)))
    (l24 : K.lookup f24 = some ⟨oc24, od24, .func (PySem.W.fnOf "_law_made_of" "_law_made_of" (defArgs s_l_made_of) (defBody s_l_made_of) (defScope s_l_made_of) .none kV24 dc24 pm24 an24 cd24 ct24), sl24⟩)
    (c24 : PySem.W.codeIn K cd24 "_law_made_of" = true)
    (k24 : PySem.W.keepIn K (.ref f24) = true)
    (a25 : PySem.W.nsIn K mainGlobals "_law_board" = some (some (.ref f25)))
    (l25 : K.lookup f25 = some ⟨oc25, od25, .func (PySem.W.fnOf "_law_board" "_law_board" (defArgs s_l_board) (defBody s_l_board) (defScope s_l_board) .none kV25 dc25 pm25 an25 cd25 ct25), sl25⟩)
    (c25 : PySem.W.codeIn K cd25 "_law_board" = true)
    (k25 : PySem.W.keepIn K (.ref f25) = true)
    (a26 : PySem.W.findIn K (.ref C_Board) "look_gate" = some (some (.ref f26)))
    (i26 : PySem.W.isFn K (.ref f26) = true)
    (l26 : K.lookup f26 = some ⟨oc26, od26, .func (PySem.W.fnOf "look_gate" "Board.look_gate" (defArgs s_board_look_gate) (defBody s_board_look_gate) (defScope s_board_look_gate) .none kV26 dc26 pm26 an26 cd26 ct26), sl26⟩)
    (c26 : PySem.W.codeIn K cd26 "Board.look_gate" = true)
    (k26 : PySem.W.keepIn K (.ref f26) = true)
    (a27 : PySem.W.findIn K (.ref C_Board) "beside" = some (some (.ref f27)))
    (i27 : PySem.W.isFn K (.ref f27) = true)
    (l27 : K.lookup f27 = some ⟨oc27, od27, .func (PySem.W.fnOf "beside" "Board.beside" (defArgs s_board_beside) (defBody s_board_beside) (defScope s_board_beside) .none (.ref D27) dc27 pm27 an27 cd27 ct27), sl27⟩)
    (c27 : PySem.W.codeIn K cd27 "Board.beside" = true)
    (k27 : PySem.W.keepIn K (.ref f27) = true)
    (d27_layer : PySem.W.nsIn K D27 "layer" = some (some (.int 0 tk27_layer)))
    (a28 : PySem.W.nsIn K mainGlobals "_law_near" = some (some (.ref f28)))
    (l28 : K.lookup f28 = some ⟨oc28, od28, .func (PySem.W.fnOf "_law_near" "_law_near" (defArgs s_l_near) (defBody s_l_near) (defScope s_l_near) .none kV28 dc28 pm28 an28 cd28 ct28), sl28⟩)
    (c28 : PySem.W.codeIn K cd28 "_law_near" = true)
    (k28 : PySem.W.keepIn K (.ref f28) = true)
    (a29 : PySem.W.findIn K (.ref C_Board) "made_of" = some (some (.ref f29)))
    (i29 : PySem.W.isFn K (.ref f29) = true)
    (l29 : K.lookup f29 = some ⟨oc29, od29, .func (PySem.W.fnOf "made_of" "Board.made_of" (defArgs s_board_made_of) (defBody s_board_made_of) (defScope s_board_made_of) .none kV29 dc29 pm29 an29 cd29 ct29), sl29⟩)
    (c29 : PySem.W.codeIn K cd29 "Board.made_of" = true)
    (k29 : PySem.W.keepIn K (.ref f29) = true)
    (a30 : PySem.W.nsIn K mainGlobals "_law_way" = some (some (.ref f30)))
    (l30 : K.lookup f30 = some ⟨oc30, od30, .func (PySem.W.fnOf "_law_way" "_law_way" (defArgs s_l_way) (defBody s_l_way) (defScope s_l_way) .none kV30 dc30 pm30 an30 cd30 ct30), sl30⟩)
    (c30 : PySem.W.codeIn K cd30 "_law_way" = true)
    (k30 : PySem.W.keepIn K (.ref f30) = true)
    (a31 : PySem.W.nsIn K mainGlobals "shared" = some (some (.ref f31)))
    (l31 : K.lookup f31 = some ⟨oc31, od31, .func (PySem.W.fnOf "shared" "shared" (defArgs s_shared) (defBody s_shared) (defScope s_shared) .none kV31 dc31 pm31 an31 cd31 ct31), sl31⟩)
    (c31 : PySem.W.codeIn K cd31 "shared" = true)
    (k31 : PySem.W.keepIn K (.ref f31) = true)
    (a32 : PySem.W.nsIn K mainGlobals "are_beside" = some (some (.ref f32)))
    (l32 : K.lookup f32 = some ⟨oc32, od32, .func (PySem.W.fnOf "are_beside" "are_beside" (defArgs s_are_beside) (defBody s_are_beside) (defScope s_are_beside) .none kV32 dc32 pm32 an32 cd32 ct32), sl32⟩)
    (c32 : PySem.W.codeIn K cd32 "are_beside" = true)
    (k32 : PySem.W.keepIn K (.ref f32) = true)
    (a33 : PySem.W.nsIn K mainGlobals "turned" = some (some (.ref f33)))
    (l33 : K.lookup f33 = some ⟨oc33, od33, .func (PySem.W.fnOf "turned" "turned" (defArgs s_turned) (defBody s_turned) (defScope s_turned) .none kV33 dc33 pm33 an33 cd33 ct33), sl33⟩)
    (c33 : PySem.W.codeIn K cd33 "turned" = true)
    (k33 : PySem.W.keepIn K (.ref f33) = true)
    (a34 : PySem.W.nsIn K mainGlobals "is_triangle" = some (some (.ref f34)))
    (l34 : K.lookup f34 = some ⟨oc34, od34, .func (PySem.W.fnOf "is_triangle" "is_triangle" (defArgs s_is_triangle) (defBody s_is_triangle) (defScope s_is_triangle) .none kV34 dc34 pm34 an34 cd34 ct34), sl34⟩)
    (c34 : PySem.W.codeIn K cd34 "is_triangle" = true)
    (k34 : PySem.W.keepIn K (.ref f34) = true)
    (a35 : PySem.W.nsIn K mainGlobals "is_way" = some (some (.ref f35)))
    (l35 : K.lookup f35 = some ⟨oc35, od35, .func (PySem.W.fnOf "is_way" "is_way" (defArgs s_is_way) (defBody s_is_way) (defScope s_is_way) .none (.ref D35) dc35 pm35 an35 cd35 ct35), sl35⟩)
    (c35 : PySem.W.codeIn K cd35 "is_way" = true)
    (k35 : PySem.W.keepIn K (.ref f35) = true)
    (d35_layer : PySem.W.nsIn K D35 "layer" = some (some (.int 0 tk35_layer)))
    (a36 : PySem.W.nsIn K mainGlobals "without_turns" = some (some (.ref f36)))
    (l36 : K.lookup f36 = some ⟨oc36, od36, .func (PySem.W.fnOf "without_turns" "without_turns" (defArgs s_without_turns) (defBody s_without_turns) (defScope s_without_turns) .none kV36 dc36 pm36 an36 cd36 ct36), sl36⟩)
    (c36 : PySem.W.codeIn K cd36 "without_turns" = true)
    (k36 : PySem.W.keepIn K (.ref f36) = true)
    (a37 : PySem.W.nsIn K mainGlobals "without_ends" = some (some (.ref f37)))
    (l37 : K.lookup f37 = some ⟨oc37, od37, .func (PySem.W.fnOf "without_ends" "without_ends" (defArgs s_without_ends) (defBody s_without_ends) (defScope s_without_ends) .none kV37 dc37 pm37 an37 cd37 ct37), sl37⟩)
    (c37 : PySem.W.codeIn K cd37 "without_ends" = true)
    (k37 : PySem.W.keepIn K (.ref f37) = true)
    (a38 : PySem.W.nsIn K mainGlobals "reduced" = some (some (.ref f38)))
    (l38 : K.lookup f38 = some ⟨oc38, od38, .func (PySem.W.fnOf "reduced" "reduced" (defArgs s_reduced) (defBody s_reduced) (defScope s_reduced) .none (.ref D38) dc38 pm38 an38 cd38 ct38), sl38⟩)
    (c38 : PySem.W.codeIn K cd38 "reduced" = true)
    (k38 : PySem.W.keepIn K (.ref f38) = true)
    (d38_layer : PySem.W.nsIn K D38 "layer" = some (some (.int 0 tk38_layer)))
    (a39 : PySem.W.nsIn K mainGlobals "_law_spoiled" = some (some (.ref f39)))
    (l39 : K.lookup f39 = some ⟨oc39, od39, .func (PySem.W.fnOf "_law_spoiled" "_law_spoiled" (defArgs s_l_spoiled) (defBody s_l_spoiled) (defScope s_l_spoiled) .none kV39 dc39 pm39 an39 cd39 ct39), sl39⟩)
    (c39 : PySem.W.codeIn K cd39 "_law_spoiled" = true)
    (k39 : PySem.W.keepIn K (.ref f39) = true)
    (a40 : PySem.W.nsIn K mainGlobals "_law_least" = some (some (.ref f40)))
    (l40 : K.lookup f40 = some ⟨oc40, od40, .func (PySem.W.fnOf "_law_least" "_law_least" (defArgs s_l_least) (defBody s_l_least) (defScope s_l_least) .none kV40 dc40 pm40 an40 cd40 ct40), sl40⟩)
    (c40 : PySem.W.codeIn K cd40 "_law_least" = true)
    (k40 : PySem.W.keepIn K (.ref f40) = true)
    (a41 : PySem.W.nsIn K mainGlobals "_law_reduced" = some (some (.ref f41)))
    (l41 : K.lookup f41 = some ⟨oc41, od41, .func (PySem.W.fnOf "_law_reduced" "_law_reduced" (defArgs s_l_reduced) (defBody s_l_reduced) (defScope s_l_reduced) .none kV41 dc41 pm41 an41 cd41 ct41), sl41⟩)
    (c41 : PySem.W.codeIn K cd41 "_law_reduced" = true)
    (k41 : PySem.W.keepIn K (.ref f41) = true)
    (a42 : PySem.W.nsIn K mainGlobals "law" = some (some (.ref f42)))
    (l42 : K.lookup f42 = some ⟨oc42, od42, .func (PySem.W.fnOf "law" "law" (defArgs s_law) (defBody s_law) (defScope s_law) .none kV42 dc42 pm42 an42 cd42 ct42), sl42⟩)
    (c42 : PySem.W.codeIn K cd42 "law" = true)
    (k42 : PySem.W.keepIn K (.ref f42) = true)
    (z_abs : PySem.W.nsIn K mainGlobals "abs" = some none)
    (z_all : PySem.W.nsIn K mainGlobals "all" = some none)
    (z_any : PySem.W.nsIn K mainGlobals "any" = some none)
    (z_bool : PySem.W.nsIn K mainGlobals "bool" = some none)
    (z_enumerate : PySem.W.nsIn K mainGlobals "enumerate" = some none)
    (z_int : PySem.W.nsIn K mainGlobals "int" = some none)
    (z_isinstance : PySem.W.nsIn K mainGlobals "isinstance" = some none)
    (z_len : PySem.W.nsIn K mainGlobals "len" = some none)
    (z_list : PySem.W.nsIn K mainGlobals "list" = some none)
    (z_max : PySem.W.nsIn K mainGlobals "max" = some none)
    (z_min : PySem.W.nsIn K mainGlobals "min" = some none)
    (z_range : PySem.W.nsIn K mainGlobals "range" = some none)
    (z_sorted : PySem.W.nsIn K mainGlobals "sorted" = some none)
    (z_tuple : PySem.W.nsIn K mainGlobals "tuple" = some none)
    (z_zip : PySem.W.nsIn K mainGlobals "zip" = some none)
    (tt : codeTab K cT = some T_g)
    (tg : h.get? T_g = some { cls := .none, data := .fields #[] })
    (tn : K.lookup T_g = none)
    (tc : PySem.W.codeHdIn K cT T_g = true) :
    LawTab l w K 13 "_law_script" Q_g mg fa h := by
  have e := hfa.symm.trans (PySem.W.mg_of X G a42)
  cases e
  have B : Bs mg := ⟨PySem.W.mg_none_of X G z_abs, PySem.W.mg_none_of X G z_all, PySem.W.mg_none_of X G z_any, PySem.W.mg_none_of X G z_bool, PySem.W.mg_none_of X G z_enumerate, PySem.W.mg_none_of X G z_int, PySem.W.mg_none_of X G z_isinstance, PySem.W.mg_none_of X G z_len, PySem.W.mg_none_of X G z_list, PySem.W.mg_none_of X G z_max, PySem.W.mg_none_of X G z_min, PySem.W.mg_none_of X G z_range, PySem.W.mg_none_of X G z_sorted, PySem.W.mg_none_of X G z_tuple, PySem.W.mg_none_of X G z_zip⟩
  have K_Board : Cl_Board K C_Board := ⟨⟨pg_Board, hd_Board, po_Board, sa_Board⟩, n_Board_wide, n_Board_high, n_Board_pin_rows, n_Board_layer_count, n_Board_apart_by, n_Board_spots, n_Board_kept_gates, n_Board_kept_triangles⟩
  have V_CORNERS : Cst mg "CORNERS" (.int 4) := ⟨_, PySem.W.mg_of X G v_CORNERS, ⟨_, rfl⟩⟩
  have V_MOST : Cst mg "MOST" (.int 1000000) := ⟨_, PySem.W.mg_of X G v_MOST, ⟨_, rfl⟩⟩
  have V_MOST_LAYERS : Cst mg "MOST_LAYERS" (.int 3) := ⟨_, PySem.W.mg_of X G v_MOST_LAYERS, ⟨_, rfl⟩⟩
  have V_MOST_PINS : Cst mg "MOST_PINS" (.int 16) := ⟨_, PySem.W.mg_of X G v_MOST_PINS, ⟨_, rfl⟩⟩
  have F1 := fun_mk (st := s_is_whole) l1 c1 k1
  have F2 := fun_mk (st := s_is_within) l2 c2 k2
  have F3 := fun_mk (st := s_is_row) l3 c3 k3
  have F4 := fun_mk (st := s_are_whole) l4 c4 k4
  have F5 := fun_mk (st := s_is_pin_row) l5 c5 k5
  have F6 := fun_mk (st := s_are_board) l6 c6 k6
  have F7 : FunD K "__init__" "Board.__init__" (defArgs s_board_init) (defBody s_board_init) (defScope s_board_init) [] [("layers", .int 1), ("spacing", .int 1)] f7 _ := ⟨⟨oc7, od7, .none, .ref D7, dc7, pm7, an7, cd7, ct7, sl7, rfl, l7, c7, .inl ⟨rfl, rfl⟩, .inr ⟨D7, rfl, fun q hq => by
    simp only [List.mem_cons, List.not_mem_nil, or_false] at hq
    rcases hq with rfl | rfl
    · exact ⟨_, d7_layers, ⟨_, rfl⟩⟩
    · exact ⟨_, d7_spacing, ⟨_, rfl⟩⟩⟩⟩, k7⟩
  have F8 := fun_mk (st := s_board_look_pin) l8 c8 k8
  have F9 := fun_mk (st := s_sign_of) l9 c9 k9
  have F10 := fun_mk (st := s_side) l10 c10 k10
  have F11 := fun_mk (st := s_apart) l11 c11 k11
  have F12 := fun_mk (st := s_is_between) l12 c12 k12
  have F13 := fun_mk (st := s_board_look_layer) l13 c13 k13
  have F14 := fun_mk (st := s_board_pins_on) l14 c14 k14
  have F15 := fun_mk (st := s_board_meets_a_pin) l15 c15 k15
  have F16 := fun_mk (st := s_board_crosses_gate) l16 c16 k16
  have F17 : LK.FunT K "found_gates" "Board.found_gates" s_board_found_gates cT f17 _ := ⟨⟨oc17, od17, kV17, dc17, pm17, an17, ct17, sl17, rfl, l17, c17⟩, k17⟩
  have F18 := fun_mk (st := s_board_gates) l18 c18 k18
  have F19 := fun_mk (st := s_board_is_empty) l19 c19 k19
  have F20 := fun_mk (st := s_board_found_triangles) l20 c20 k20
  have F21 := fun_mk (st := s_board_triangles) l21 c21 k21
  have F22 := fun_mk (st := s_l_bag) l22 c22 k22
  have F23 := fun_mk (st := s_l_take) l23 c23 k23
  have F24 := fun_mk (st := s_l_made_of) l24 c24 k24
  have F25 := fun_mk (st := s_l_board) l25 c25 k25
  have F26 := fun_mk (st := s_board_look_gate) l26 c26 k26
  have F27 : FunD K "beside" "Board.beside" (defArgs s_board_beside) (defBody s_board_beside) (defScope s_board_beside) [] [("layer", .int 0)] f27 _ := ⟨⟨oc27, od27, .none, .ref D27, dc27, pm27, an27, cd27, ct27, sl27, rfl, l27, c27, .inl ⟨rfl, rfl⟩, .inr ⟨D27, rfl, fun q hq => by
    simp only [List.mem_cons, List.not_mem_nil, or_false] at hq
    rcases hq with rfl
    · exact ⟨_, d27_layer, ⟨_, rfl⟩⟩⟩⟩, k27⟩
  have F28 := fun_mk (st := s_l_near) l28 c28 k28
  have F29 := fun_mk (st := s_board_made_of) l29 c29 k29
  have F30 := fun_mk (st := s_l_way) l30 c30 k30
  have F31 := fun_mk (st := s_shared) l31 c31 k31
  have F32 := fun_mk (st := s_are_beside) l32 c32 k32
  have F33 := fun_mk (st := s_turned) l33 c33 k33
  have F34 := fun_mk (st := s_is_triangle) l34 c34 k34
  have F35 : FunD K "is_way" "is_way" (defArgs s_is_way) (defBody s_is_way) (defScope s_is_way) [] [("layer", .int 0)] f35 _ := ⟨⟨oc35, od35, .none, .ref D35, dc35, pm35, an35, cd35, ct35, sl35, rfl, l35, c35, .inl ⟨rfl, rfl⟩, .inr ⟨D35, rfl, fun q hq => by
    simp only [List.mem_cons, List.not_mem_nil, or_false] at hq
    rcases hq with rfl
    · exact ⟨_, d35_layer, ⟨_, rfl⟩⟩⟩⟩, k35⟩
  have F36 := fun_mk (st := s_without_turns) l36 c36 k36
  have F37 := fun_mk (st := s_without_ends) l37 c37 k37
  have F38 : FunD K "reduced" "reduced" (defArgs s_reduced) (defBody s_reduced) (defScope s_reduced) [] [("layer", .int 0)] f38 _ := ⟨⟨oc38, od38, .none, .ref D38, dc38, pm38, an38, cd38, ct38, sl38, rfl, l38, c38, .inl ⟨rfl, rfl⟩, .inr ⟨D38, rfl, fun q hq => by
    simp only [List.mem_cons, List.not_mem_nil, or_false] at hq
    rcases hq with rfl
    · exact ⟨_, d38_layer, ⟨_, rfl⟩⟩⟩⟩, k38⟩
  have F39 := fun_mk (st := s_l_spoiled) l39 c39 k39
  have F40 := fun_mk (st := s_l_least) l40 c40 k40
  have F41 := fun_mk (st := s_l_reduced) l41 c41 k41
  have F42 := fun_mk (st := s_law) l42 c42 k42
  refine ⟨PySem.W.fnOf "law" "law" (defArgs s_law) (defBody s_law) (defScope s_law) .none kV42 dc42 pm42 an42 cd42 ct42, cT, T_g, tg, tn, PySem.W.codeHd_of_K X tc, fun s v => .of_eq rfl, fun base _ _ TB => ?_⟩
  have E_NoBoard : Exc0 K mg "NoBoard" C_NoBoard := ⟨⟨"ValueError", _, _, XO.tlVE, PySem.F.excBase_ValueError, q_NoBoard⟩, PySem.W.mg_of X G aC_NoBoard, kc_NoBoard, eC_NoBoard, tC_NoBoard⟩
  have FX_NoPin := fun_mk (st := s_nopin_init) lI_NoPin cI_NoPin kI_NoPin
  have bX_NoPin := FX_NoPin.binds (ps := ["self", "pin"]) fun _ _ _ _ _ _ us hl => match us, hl with | [_, _], _ => rfl
  have E_NoPin : Exc1 l.prog w K mg base "NoPin" "pin" C_NoPin := ⟨⟨"IndexError", _, _, _, XO.tlIE, fI_NoPin, _, "self", "pin", PySem.F.excBase_IndexError, ⟨by decide +kernel, by decide +kernel, by decide +kernel⟩, ⟨⟨_, _, _, _, _, _, _, _, _, _, _, _, _, _, _, xL_NoPin, by decide +kernel⟩, XO.bt_IE, sa_NoPin, eC_NoPin, tC_NoPin, kc_NoPin⟩, iC_NoPin, tI_NoPin, xi_NoPin FX_NoPin, bX_NoPin⟩, nf_NoPin, PySem.W.mg_of X G aC_NoPin, ⟨ga_NoPin, gg_NoPin, eC_NoPin, hC_NoPin⟩⟩
  have FX_NoLayer := fun_mk (st := s_nolayer_init) lI_NoLayer cI_NoLayer kI_NoLayer
  have bX_NoLayer := FX_NoLayer.binds (ps := ["self", "layer"]) fun _ _ _ _ _ _ us hl => match us, hl with | [_, _], _ => rfl
  have E_NoLayer : Exc1 l.prog w K mg base "NoLayer" "layer" C_NoLayer := ⟨⟨"IndexError", _, _, _, XO.tlIE, fI_NoLayer, _, "self", "layer", PySem.F.excBase_IndexError, ⟨by decide +kernel, by decide +kernel, by decide +kernel⟩, ⟨⟨_, _, _, _, _, _, _, _, _, _, _, _, _, _, _, xL_NoLayer, by decide +kernel⟩, XO.bt_IE, sa_NoLayer, eC_NoLayer, tC_NoLayer, kc_NoLayer⟩, iC_NoLayer, tI_NoLayer, xi_NoLayer FX_NoLayer, bX_NoLayer⟩, nf_NoLayer, PySem.W.mg_of X G aC_NoLayer, ⟨ga_NoLayer, gg_NoLayer, eC_NoLayer, hC_NoLayer⟩⟩
  have FX_NoGate := fun_mk (st := s_nogate_init) lI_NoGate cI_NoGate kI_NoGate
  have bX_NoGate := FX_NoGate.binds (ps := ["self", "gate"]) fun _ _ _ _ _ _ us hl => match us, hl with | [_, _], _ => rfl
  have E_NoGate : Exc1 l.prog w K mg base "NoGate" "gate" C_NoGate := ⟨⟨"LookupError", _, _, _, XO.tlKE, fI_NoGate, _, "self", "gate", PySem.F.excBase_LookupError, ⟨by decide +kernel, by decide +kernel, by decide +kernel⟩, ⟨⟨_, _, _, _, _, _, _, _, _, _, _, _, _, _, _, xL_NoGate, by decide +kernel⟩, XO.bt_KE, sa_NoGate, eC_NoGate, tC_NoGate, kc_NoGate⟩, iC_NoGate, tI_NoGate, xi_NoGate FX_NoGate, bX_NoGate⟩, nf_NoGate, PySem.W.mg_of X G aC_NoGate, ⟨ga_NoGate, gg_NoGate, eC_NoGate, hC_NoGate⟩⟩
  have b1 := F1.binds (ps := ["thing"]) fun _ _ _ _ _ _ us hl => match us, hl with | [_], _ => rfl
  have G1 : Def l.prog w K mg base "is_whole" ["thing"] 1 (spI K P_is_whole) := ⟨f1, _, ok_is_whole F1 B, PySem.W.mg_of X G a1, k1, b1⟩
  have b2 := F2.binds (ps := ["thing", "least", "most"]) fun _ _ _ _ _ _ us hl => match us, hl with | [_, _, _], _ => rfl
  have G2 : Def l.prog w K mg base "is_within" ["thing", "least", "most"] 2 (spI K P_is_within) := ⟨f2, _, ok_is_within F2 B G1, PySem.W.mg_of X G a2, k2, b2⟩
  have b3 := F3.binds (ps := ["thing", "least", "most"]) fun _ _ _ _ _ _ us hl => match us, hl with | [_, _, _], _ => rfl
  have G3 : Def l.prog w K mg base "is_row" ["thing", "least", "most"] 1 (spI K P_is_row) := ⟨f3, _, ok_is_row F3 B, PySem.W.mg_of X G a3, k3, b3⟩
  have b4 := F4.binds (ps := ["thing", "many"]) fun _ _ _ _ _ _ us hl => match us, hl with | [_, _], _ => rfl
  have G4 : Def l.prog w K mg base "are_whole" ["thing", "many"] 2 (spI K P_are_whole) := ⟨f4, _, ok_are_whole F4 B G3 G1, PySem.W.mg_of X G a4, k4, b4⟩
  have b5 := F5.binds (ps := ["thing", "width", "height", "layers"]) fun _ _ _ _ _ _ us hl => match us, hl with | [_, _, _, _], _ => rfl
  have G5 : Def l.prog w K mg base "is_pin_row" ["thing", "width", "height", "layers"] 3 (spI K P_is_pin_row) := ⟨f5, _, ok_is_pin_row F5 B G4, PySem.W.mg_of X G a5, k5, b5⟩
  have b6 := F6.binds (ps := ["width", "height", "pins", "layers", "spacing"]) fun _ _ _ _ _ _ us hl => match us, hl with | [_, _, _, _, _], _ => rfl
  have G6 : Def l.prog w K mg base "are_board" ["width", "height", "pins", "layers", "spacing"] 4 (spI K P_are_board) := ⟨f6, _, ok_are_board F6 B V_MOST V_MOST_LAYERS V_MOST_PINS G5 G3 G2, PySem.W.mg_of X G a6, k6, b6⟩
  obtain ⟨g7, hb7⟩ := kbn_of (ps := ["self", "width", "height", "pins", "layers", "spacing"]) F7 4 ["layers", "spacing"] [] [(true, 0), (true, 1)] (by simp) (by simp) (fun D doc pm an cdv ct us mv ws h1 h2 h3 => match us, mv, ws, h1, h2, h3 with | [_, _, _, _], [], [_, _], _, _, _ => rfl)
  have M_Board : MkK l.prog w K mg base "Board" C_Board ["self", "width", "height", "pins", "layers", "spacing"] 3 ["layers", "spacing"] [(true, 0), (true, 1)] [] 6 (spX K (xn mg) (P_board_init C_Board)) := ⟨⟨f7, _, g7, ⟨mk_Board, a7, i7, kc_Board⟩, ok_board_init F7 B K_Board E_NoBoard G6, PySem.W.mg_of X G aC_Board, hb7⟩⟩
  have b8 := F8.binds (ps := ["self", "number"]) fun _ _ _ _ _ _ us hl => match us, hl with | [_, _], _ => rfl
  have G8 : Mth l.prog w K mg base C_Board "look_pin" ["self", "number"] 4 (spX K (xn mg) (P_board_look_pin C_Board)) := ⟨f8, _, ok_board_look_pin F8 B K_Board E_NoPin G2, K_Board.cls, ⟨a8, i8, k8⟩, b8⟩
  have b9 := F9.binds (ps := ["number"]) fun _ _ _ _ _ _ us hl => match us, hl with | [_], _ => rfl
  have G9 : Def l.prog w K mg base "sign_of" ["number"] 1 (spI K P_sign_of) := ⟨f9, _, ok_sign_of F9 B, PySem.W.mg_of X G a9, k9, b9⟩
  have b10 := F10.binds (ps := ["one", "other", "third"]) fun _ _ _ _ _ _ us hl => match us, hl with | [_, _, _], _ => rfl
  have G10 : Def l.prog w K mg base "side" ["one", "other", "third"] 2 (spI K P_side) := ⟨f10, _, ok_side F10 B G9, PySem.W.mg_of X G a10, k10, b10⟩
  have b11 := F11.binds (ps := ["one", "other"]) fun _ _ _ _ _ _ us hl => match us, hl with | [_, _], _ => rfl
  have G11 : Def l.prog w K mg base "apart" ["one", "other"] 1 (spI K P_apart) := ⟨f11, _, ok_apart F11 B, PySem.W.mg_of X G a11, k11, b11⟩
  have b12 := F12.binds (ps := ["one", "other", "third"]) fun _ _ _ _ _ _ us hl => match us, hl with | [_, _, _], _ => rfl
  have G12 : Def l.prog w K mg base "is_between" ["one", "other", "third"] 3 (spI K P_is_between) := ⟨f12, _, ok_is_between F12 B G10, PySem.W.mg_of X G a12, k12, b12⟩
  have b13 := F13.binds (ps := ["self", "number"]) fun _ _ _ _ _ _ us hl => match us, hl with | [_, _], _ => rfl
  have G13 : Mth l.prog w K mg base C_Board "look_layer" ["self", "number"] 4 (spX K (xn mg) (P_board_look_layer C_Board)) := ⟨f13, _, ok_board_look_layer F13 B K_Board E_NoLayer G2, K_Board.cls, ⟨a13, i13, k13⟩, b13⟩
  have b14 := F14.binds (ps := ["self", "layer"]) fun _ _ _ _ _ _ us hl => match us, hl with | [_, _], _ => rfl
  have G14 : Mth l.prog w K mg base C_Board "pins_on" ["self", "layer"] 5 (spX K (xn mg) (P_board_pins_on C_Board)) := ⟨f14, _, ok_board_pins_on F14 B K_Board V_CORNERS G13, K_Board.cls, ⟨a14, i14, k14⟩, b14⟩
  have b15 := F15.binds (ps := ["self", "one", "other", "pins"]) fun _ _ _ _ _ _ us hl => match us, hl with | [_, _, _, _], _ => rfl
  have G15 : Mth l.prog w K mg base C_Board "meets_a_pin" ["self", "one", "other", "pins"] 4 (spI K (P_board_meets_a_pin C_Board)) := ⟨f15, _, fn_lift (ok_board_meets_a_pin F15 B K_Board G12), K_Board.cls, ⟨a15, i15, k15⟩, b15⟩
  have b16 := F16.binds (ps := ["self", "one", "other", "gate"]) fun _ _ _ _ _ _ us hl => match us, hl with | [_, _, _, _], _ => rfl
  have G16 : Mth l.prog w K mg base C_Board "crosses_gate" ["self", "one", "other", "gate"] 3 (spI K (P_board_crosses_gate C_Board)) := ⟨f16, _, fn_lift (ok_board_crosses_gate F16 B K_Board G10), K_Board.cls, ⟨a16, i16, k16⟩, b16⟩
  have b17 := (F17.fn).binds (ps := ["self", "pins"]) fun _ _ _ _ _ _ us hl => match us, hl with | [_, _], _ => rfl
  have G17 : Mth l.prog w K mg base C_Board "found_gates" ["self", "pins"] 6 (spI K (P_board_found_gates C_Board T_g)) := ⟨f17, _, fn_lift (ok_board_found_gates F17 B TB K_Board G16 G15 G11), K_Board.cls, ⟨a17, i17, k17⟩, b17⟩
  have b18 := F18.binds (ps := ["self", "layer"]) fun _ _ _ _ _ _ us hl => match us, hl with | [_, _], _ => rfl
  have G18 : Mth l.prog w K mg base C_Board "gates" ["self", "layer"] 7 (spX K (xn mg) (P_board_gates C_Board T_g)) := ⟨f18, _, ok_board_gates F18 B K_Board G17 G13 G14, K_Board.cls, ⟨a18, i18, k18⟩, b18⟩
  have b19 := F19.binds (ps := ["self", "corners", "pins"]) fun _ _ _ _ _ _ us hl => match us, hl with | [_, _, _], _ => rfl
  have G19 : Mth l.prog w K mg base C_Board "is_empty" ["self", "corners", "pins"] 4 (spI K (P_board_is_empty C_Board)) := ⟨f19, _, fn_lift (ok_board_is_empty F19 B K_Board G10), K_Board.cls, ⟨a19, i19, k19⟩, b19⟩
  have b20 := F20.binds (ps := ["self", "layer"]) fun _ _ _ _ _ _ us hl => match us, hl with | [_, _], _ => rfl
  have G20 : Mth l.prog w K mg base C_Board "found_triangles" ["self", "layer"] 8 (spI K (P_board_found_triangles C_Board T_g)) := ⟨f20, _, fn_lift (ok_board_found_triangles F20 B K_Board G18 G19 G14), K_Board.cls, ⟨a20, i20, k20⟩, b20⟩
  have b21 := F21.binds (ps := ["self", "layer"]) fun _ _ _ _ _ _ us hl => match us, hl with | [_, _], _ => rfl
  have G21 : Mth l.prog w K mg base C_Board "triangles" ["self", "layer"] 9 (spX K (xn mg) (P_board_triangles C_Board T_g)) := ⟨f21, _, ok_board_triangles F21 B K_Board G20 G13, K_Board.cls, ⟨a21, i21, k21⟩, b21⟩
  have b22 := F22.binds (ps := ["_law_script", "_law_at"]) fun _ _ _ _ _ _ us hl => match us, hl with | [_, _], _ => rfl
  have G22 : Def l.prog w K mg base "_law_bag" ["_law_script", "_law_at"] 2 (spI K P_l_bag) := ⟨f22, _, ok_l_bag F22 B, PySem.W.mg_of X G a22, k22, b22⟩
  have b23 := F23.binds (ps := ["_law_bag_here", "_law_many"]) fun _ _ _ _ _ _ us hl => match us, hl with | [_, _], _ => rfl
  have G23 : Def l.prog w K mg base "_law_take" ["_law_bag_here", "_law_many"] 1 (spI K P_l_take) := ⟨f23, _, ok_l_take F23 B, PySem.W.mg_of X G a23, k23, b23⟩
  have b24 := F24.binds (ps := ["_law_bag_here", "_law_most"]) fun _ _ _ _ _ _ us hl => match us, hl with | [_, _], _ => rfl
  have G24 : Def l.prog w K mg base "_law_made_of" ["_law_bag_here", "_law_most"] 3 (spI K P_l_made_of) := ⟨f24, _, ok_l_made_of F24 B G23, PySem.W.mg_of X G a24, k24, b24⟩
  have b25 := F25.binds (ps := ["_law_made"]) fun _ _ _ _ _ _ us hl => match us, hl with | [_], _ => rfl
  have G25 : Def l.prog w K mg base "_law_board" ["_law_made"] 8 (spI K (P_l_board C_Board)) := ⟨f25, _, ok_l_board F25 B K_Board M_Board, PySem.W.mg_of X G a25, k25, b25⟩
  have b26 := F26.binds (ps := ["self", "gate", "layer"]) fun _ _ _ _ _ _ us hl => match us, hl with | [_, _, _], _ => rfl
  have G26 : Mth l.prog w K mg base C_Board "look_gate" ["self", "gate", "layer"] 8 (spX K (xn mg) (P_board_look_gate C_Board T_g)) := ⟨f26, _, ok_board_look_gate F26 B K_Board E_NoGate G18 G13 G4, K_Board.cls, ⟨a26, i26, k26⟩, b26⟩
  have O27 := ok_board_beside (P := l.prog) (w := w) (base := base) F27 B K_Board G26 G21
  obtain ⟨g27_0, hb27_0⟩ := kbn_of (ps := ["self", "gate", "layer"]) F27 2 ["layer"] [] [(true, 0)] (by simp) (by simp) (fun D doc pm an cdv ct us mv ws h1 h2 h3 => match us, mv, ws, h1, h2, h3 with | [_, _], [], [_], _, _, _ => rfl)
  have N_board_beside_1_layer : MthN l.prog w K mg base C_Board "beside" ["self", "gate", "layer"] 1 ["layer"] [(true, 0)] [] 10 (spX K (xn mg) (P_board_beside C_Board T_g)) := ⟨f27, _, g27_0, O27, K_Board.cls, ⟨a27, i27, k27⟩, hb27_0⟩
  have b28 := F28.binds (ps := ["_law_triangles"]) fun _ _ _ _ _ _ us hl => match us, hl with | [_], _ => rfl
  have G28 : Def l.prog w K mg base "_law_near" ["_law_triangles"] 2 (spI K P_l_near) := ⟨f28, _, ok_l_near F28 B, PySem.W.mg_of X G a28, k28, b28⟩
  have b29 := F29.binds (ps := ["self"]) fun _ _ _ _ _ _ us hl => match us, hl with | [_], _ => rfl
  have G29 : Mth l.prog w K mg base C_Board "made_of" ["self"] 1 (spI K (P_board_made_of C_Board)) := ⟨f29, _, fn_lift (ok_board_made_of F29 B K_Board), K_Board.cls, ⟨a29, i29, k29⟩, b29⟩
  have b30 := F30.binds (ps := ["_law_bag_here", "_law_near_here", "_law_most"]) fun _ _ _ _ _ _ us hl => match us, hl with | [_, _, _], _ => rfl
  have G30 : Def l.prog w K mg base "_law_way" ["_law_bag_here", "_law_near_here", "_law_most"] 2 (spI K P_l_way) := ⟨f30, _, ok_l_way F30 B G23, PySem.W.mg_of X G a30, k30, b30⟩
  have b31 := F31.binds (ps := ["one", "other"]) fun _ _ _ _ _ _ us hl => match us, hl with | [_, _], _ => rfl
  have G31 : Def l.prog w K mg base "shared" ["one", "other"] 1 (spI K P_shared) := ⟨f31, _, ok_shared F31 B, PySem.W.mg_of X G a31, k31, b31⟩
  have b32 := F32.binds (ps := ["one", "other"]) fun _ _ _ _ _ _ us hl => match us, hl with | [_, _], _ => rfl
  have G32 : Def l.prog w K mg base "are_beside" ["one", "other"] 2 (spI K P_are_beside) := ⟨f32, _, ok_are_beside F32 B G31, PySem.W.mg_of X G a32, k32, b32⟩
  have b33 := F33.binds (ps := ["way"]) fun _ _ _ _ _ _ us hl => match us, hl with | [_], _ => rfl
  have G33 : Def l.prog w K mg base "turned" ["way"] 1 (spI K P_turned) := ⟨f33, _, ok_turned F33 B, PySem.W.mg_of X G a33, k33, b33⟩
  have b34 := F34.binds (ps := ["board", "thing", "layer"]) fun _ _ _ _ _ _ us hl => match us, hl with | [_, _, _], _ => rfl
  have G34 : DefX l.prog w K mg base "is_triangle" ["board", "thing", "layer"] 10 (spX K (xn mg) (P_is_triangle C_Board T_g)) := ⟨f34, _, ok_is_triangle F34 B K_Board G21 G1, PySem.W.mg_of X G a34, k34, b34⟩
  have O35 := ok_is_way (P := l.prog) (w := w) (base := base) F35 B K_Board G14 G32 G34 G1
  obtain ⟨g35_0, hb35_0⟩ := kbn_of (ps := ["board", "thing", "layer"]) F35 2 ["layer"] [] [(true, 0)] (by simp) (by simp) (fun D doc pm an cdv ct us mv ws h1 h2 h3 => match us, mv, ws, h1, h2, h3 with | [_, _], [], [_], _, _, _ => rfl)
  have N_is_way_2_layer : DefN l.prog w K mg base "is_way" ["board", "thing", "layer"] 2 ["layer"] [(true, 0)] [] 11 (spX K (xn mg) (P_is_way C_Board T_g)) := ⟨f35, _, g35_0, O35, PySem.W.mg_of X G a35, k35, hb35_0⟩
  have b36 := F36.binds (ps := ["triangles"]) fun _ _ _ _ _ _ us hl => match us, hl with | [_], _ => rfl
  have G36 : Def l.prog w K mg base "without_turns" ["triangles"] 1 (spI K P_without_turns) := ⟨f36, _, ok_without_turns F36 B, PySem.W.mg_of X G a36, k36, b36⟩
  have b37 := F37.binds (ps := ["first", "triangles", "last"]) fun _ _ _ _ _ _ us hl => match us, hl with | [_, _, _], _ => rfl
  have G37 : Def l.prog w K mg base "without_ends" ["first", "triangles", "last"] 1 (spI K P_without_ends) := ⟨f37, _, ok_without_ends F37 B, PySem.W.mg_of X G a37, k37, b37⟩
  have O38 := ok_reduced (P := l.prog) (w := w) (base := base) F38 B K_Board G37 G36 N_board_beside_1_layer
  obtain ⟨g38_0, hb38_0⟩ := kbn_of (ps := ["board", "way", "layer"]) F38 2 ["layer"] [] [(true, 0)] (by simp) (by simp) (fun D doc pm an cdv ct us mv ws h1 h2 h3 => match us, mv, ws, h1, h2, h3 with | [_, _], [], [_], _, _, _ => rfl)
  have N_reduced_2_layer : DefN l.prog w K mg base "reduced" ["board", "way", "layer"] 2 ["layer"] [(true, 0)] [] 12 (spX K (xn mg) (P_reduced C_Board T_g)) := ⟨f38, _, g38_0, O38, PySem.W.mg_of X G a38, k38, hb38_0⟩
  have b39 := F39.binds (ps := ["_law_bag_here", "_law_near_here", "_law_way_here"]) fun _ _ _ _ _ _ us hl => match us, hl with | [_, _, _], _ => rfl
  have G39 : Def l.prog w K mg base "_law_spoiled" ["_law_bag_here", "_law_near_here", "_law_way_here"] 2 (spI K P_l_spoiled) := ⟨f39, _, ok_l_spoiled F39 B G23, PySem.W.mg_of X G a39, k39, b39⟩
  have b40 := F40.binds (ps := ["_law_triangles", "_law_first", "_law_last"]) fun _ _ _ _ _ _ us hl => match us, hl with | [_, _, _], _ => rfl
  have G40 : Def l.prog w K mg base "_law_least" ["_law_triangles", "_law_first", "_law_last"] 2 (spI K P_l_least) := ⟨f40, _, ok_l_least F40 B, PySem.W.mg_of X G a40, k40, b40⟩
  have b41 := F41.binds (ps := ["_law_triangles", "_law_way_here"]) fun _ _ _ _ _ _ us hl => match us, hl with | [_, _], _ => rfl
  have G41 : Def l.prog w K mg base "_law_reduced" ["_law_triangles", "_law_way_here"] 4 (spI K P_l_reduced) := ⟨f41, _, ok_l_reduced F41 B G40, PySem.W.mg_of X G a41, k41, b41⟩
  exact ok_law F42 B K_Board G29 G21 G22 G25 G24 G28 G41 G39 G23 G30 G33 N_is_way_2_layer N_reduced_2_layer
theorem walk {l : PySem.W.OpenLaw} {q : Program} {loose : List Str} {XP : (Str → Option Value) → Heap → Prop} {YP : World → Heap → Prop} {d : DefRec} {K : Params → PySem.W.Frag} (hn : l.most = some 63) (hdf : d.params.defaults = [])
    (hY : ∀ (w : World) (h : Heap), YP w h → (K w.params).In h)
    (F : ∀ (w : World) (mg : Str → Option Value) (fa : Addr) (h : Heap), YP w h → (K w.params).In h → h.Ns mainGlobals mg → mg d.name = some (.ref fa) → LawTab l w (K w.params) 13 "_law_script" Q_g mg fa h) :
    PySem.W.WalkO q loose XP YP l.row.toRowW d [] (fun f vs => PySem.call f vs) := Z.walk_tab hn hdf ⟨rfl, by decide, by decide⟩ hY F
end W
open PySem PySem.W PyProof.Rows in
set_option maxRecDepth 100000 in
set_option maxHeartbeats 0 in
theorem PySem.Challenge.cw_rubberroutes_k16_reduced_alike_holds : PySem.Challenge.rw_rubberroutes_k16_reduced_alike.Holds := by
  w_on; o_law; k_head; (case hw => w_witness2)
  k_fill
  refine W.walk (l := PySem.Challenge.rw_rubberroutes_k16_reduced_alike) rfl rfl (fun w h Y => by first | exact PySem.W.kIn_of Y | exact PySem.W.km_in_of Y) ?F
  case F =>
    intro w mg fa h Y KX G hmg
    refine' W.all_mk KX G hmg ?aC_Board ?pg_Board ?hd_Board ?po_Board ?sa_Board ?n_Board_wide ?n_Board_high ?n_Board_pin_rows ?n_Board_layer_count ?n_Board_apart_by ?n_Board_spots ?n_Board_kept_gates ?n_Board_kept_triangles ?mk_Board ?kc_Board ?aC_NoBoard ?kc_NoBoard ?eC_NoBoard ?tC_NoBoard ?q_NoBoard ?aC_NoPin ?kc_NoPin ?eC_NoPin ?tC_NoPin ?xL_NoPin ?sa_NoPin ?ga_NoPin ?gg_NoPin ?nf_NoPin ?hC_NoPin ?iC_NoPin ?tI_NoPin ?lI_NoPin ?cI_NoPin ?kI_NoPin ?aC_NoLayer ?kc_NoLayer ?eC_NoLayer ?tC_NoLayer ?xL_NoLayer ?sa_NoLayer ?ga_NoLayer ?gg_NoLayer ?nf_NoLayer ?hC_NoLayer ?iC_NoLayer ?tI_NoLayer ?lI_NoLayer ?cI_NoLayer ?kI_NoLayer ?aC_NoGate ?kc_NoGate ?eC_NoGate ?tC_NoGate ?xL_NoGate ?sa_NoGate ?ga_NoGate ?gg_NoGate ?nf_NoGate ?hC_NoGate ?iC_NoGate ?tI_NoGate ?lI_NoGate ?cI_NoGate ?kI_NoGate ?v_CORNERS ?v_MOST ?v_MOST_LAYERS ?v_MOST_PINS ?a1 ?l1 ?c1 ?k1 ?a2 ?l2 ?c2 ?k2 ?a3 ?l3 ?c3 ?k3 ?a4 ?l4 ?c4 ?k4 ?a5 ?l5 ?c5 ?k5 ?a6 ?l6 ?c6 ?k6 ?a7 ?i7 ?l7 ?c7 ?k7 ?d7_layers ?d7_spacing ?a8 ?i8 ?l8 ?c8 ?k8 ?a9 ?l9 ?c9 ?k9 ?a10 ?l10 ?c10 ?k10 ?a11 ?l11 ?c11 ?k11 ?a12 ?l12 ?c12 ?k12 ?a13 ?i13 ?l13 ?c13 ?k13 ?a14 ?i14 ?l14 ?c14 ?k14 ?a15 ?i15 ?l15 ?c15 ?k15 ?a16 ?i16 ?l16 ?c16 ?k16 ?a17 ?i17 ?l17 ?c17 ?k17 ?a18 ?i18 ?l18 ?c18 ?k18 ?a19 ?i19 ?l19 ?c19 ?k19 ?a20 ?i20 ?l20 ?c20 ?k20 ?a21 ?i21 ?l21 ?c21 ?k21 ?a22 ?l22 ?c22 ?k22 ?a23 ?l23 ?c23 ?k23 ?a24 ?l24 ?c24 ?k24 ?a25 ?l25 ?c25 ?k25 ?a26 ?i26 ?l26 ?c26 ?k26 ?a27 ?i27 ?l27 ?c27 ?k27 ?d27_layer ?a28 ?l28 ?c28 ?k28 ?a29 ?i29 ?l29 ?c29 ?k29 ?a30 ?l30 ?c30 ?k30 ?a31 ?l31 ?c31 ?k31 ?a32 ?l32 ?c32 ?k32 ?a33 ?l33 ?c33 ?k33 ?a34 ?l34 ?c34 ?k34 ?a35 ?l35 ?c35 ?k35 ?d35_layer ?a36 ?l36 ?c36 ?k36 ?a37 ?l37 ?c37 ?k37 ?a38 ?l38 ?c38 ?k38 ?d38_layer ?a39 ?l39 ?c39 ?k39 ?a40 ?l40 ?c40 ?k40 ?a41 ?l41 ?c41 ?k41 ?a42 ?l42 ?c42 ?k42 ?z_abs ?z_all ?z_any ?z_bool ?z_enumerate ?z_int ?z_isinstance ?z_len ?z_list ?z_max ?z_min ?z_range ?z_sorted ?z_tuple ?z_zip ?tt ?tg ?tn ?tc
    (case aC_Board => k_is)
    (case pg_Board => k_is)
    (case hd_Board => k_is)
    (case po_Board => k_is)
    (case sa_Board => k_is)
    (case n_Board_wide => k_is)
    (case n_Board_high => k_is)
    (case n_Board_pin_rows => k_is)
    (case n_Board_layer_count => k_is)
    (case n_Board_apart_by => k_is)
    (case n_Board_spots => k_is)
    (case n_Board_kept_gates => k_is)
    (case n_Board_kept_triangles => k_is)
    (case mk_Board => k_is)
    (case kc_Board => k_is)
    (case aC_NoBoard => k_is)
    (case kc_NoBoard => k_is)
    (case eC_NoBoard => k_is)
    (case tC_NoBoard => k_is)
    (case q_NoBoard => k_exc)
    (case aC_NoPin => k_is)
    (case kc_NoPin => k_is)
    (case eC_NoPin => k_is)
    (case tC_NoPin => k_is)
    (case xL_NoPin => k_is)
    (case sa_NoPin => k_is)
    (case ga_NoPin => k_is)
    (case gg_NoPin => k_is)
    (case nf_NoPin => k_is)
    (case hC_NoPin => k_is)
    (case iC_NoPin => k_is)
    (case tI_NoPin => k_is)
    (case lI_NoPin => k_is)
    (case cI_NoPin => k_is)
    (case kI_NoPin => k_is)
    (case aC_NoLayer => k_is)
    (case kc_NoLayer => k_is)
    (case eC_NoLayer => k_is)
    (case tC_NoLayer => k_is)
    (case xL_NoLayer => k_is)
    (case sa_NoLayer => k_is)
    (case ga_NoLayer => k_is)
    (case gg_NoLayer => k_is)
    (case nf_NoLayer => k_is)
    (case hC_NoLayer => k_is)
    (case iC_NoLayer => k_is)
    (case tI_NoLayer => k_is)
    (case lI_NoLayer => k_is)
    (case cI_NoLayer => k_is)
    (case kI_NoLayer => k_is)
    (case aC_NoGate => k_is)
    (case kc_NoGate => k_is)
    (case eC_NoGate => k_is)
    (case tC_NoGate => k_is)
    (case xL_NoGate => k_is)
    (case sa_NoGate => k_is)
    (case ga_NoGate => k_is)
    (case gg_NoGate => k_is)
    (case nf_NoGate => k_is)
    (case hC_NoGate => k_is)
    (case iC_NoGate => k_is)
    (case tI_NoGate => k_is)
    (case lI_NoGate => k_is)
    (case cI_NoGate => k_is)
    (case kI_NoGate => k_is)
    (case v_CORNERS => k_is)
    (case v_MOST => k_is)
    (case v_MOST_LAYERS => k_is)
    (case v_MOST_PINS => k_is)
    (case a1 => k_is)
    (case l1 => k_is)
    (case c1 => k_is)
    (case k1 => k_is)
    (case a2 => k_is)
    (case l2 => k_is)
    (case c2 => k_is)
    (case k2 => k_is)
    (case a3 => k_is)
    (case l3 => k_is)
    (case c3 => k_is)
    (case k3 => k_is)
    (case a4 => k_is)
    (case l4 => k_is)
    (case c4 => k_is)
    (case k4 => k_is)
    (case a5 => k_is)
    (case l5 => k_is)
    (case c5 => k_is)
    (case k5 => k_is)
    (case a6 => k_is)
    (case l6 => k_is)
    (case c6 => k_is)
    (case k6 => k_is)
    (case a7 => k_is)
    (case i7 => k_is)
    (case l7 => k_is)
    (case c7 => k_is)
    (case k7 => k_is)
    (case d7_layers => k_is)
    (case d7_spacing => k_is)
    (case a8 => k_is)
    (case i8 => k_is)
    (case l8 => k_is)
    (case c8 => k_is)
    (case k8 => k_is)
    (case a9 => k_is)
    (case l9 => k_is)
    (case c9 => k_is)
    (case k9 => k_is)
    (case a10 => k_is)
    (case l10 => k_is)
    (case c10 => k_is)
    (case k10 => k_is)
    (case a11 => k_is)
    (case l11 => k_is)
    (case c11 => k_is)
    (case k11 => k_is)
    (case a12 => k_is)
    (case l12 => k_is)
    (case c12 => k_is)
    (case k12 => k_is)
    (case a13 => k_is)
    (case i13 => k_is)
    (case l13 => k_is)
    (case c13 => k_is)
    (case k13 => k_is)
    (case a14 => k_is)
    (case i14 => k_is)
    (case l14 => k_is)
    (case c14 => k_is)
    (case k14 => k_is)
    (case a15 => k_is)
    (case i15 => k_is)
    (case l15 => k_is)
    (case c15 => k_is)
    (case k15 => k_is)
    (case a16 => k_is)
    (case i16 => k_is)
    (case l16 => k_is)
    (case c16 => k_is)
    (case k16 => k_is)
    (case a17 => k_is)
    (case i17 => k_is)
    (case l17 => k_is)
    (case c17 => k_is)
    (case k17 => k_is)
    (case a18 => k_is)
    (case i18 => k_is)
    (case l18 => k_is)
    (case c18 => k_is)
    (case k18 => k_is)
    (case a19 => k_is)
    (case i19 => k_is)
    (case l19 => k_is)
    (case c19 => k_is)
    (case k19 => k_is)
    (case a20 => k_is)
    (case i20 => k_is)
    (case l20 => k_is)
    (case c20 => k_is)
    (case k20 => k_is)
    (case a21 => k_is)
    (case i21 => k_is)
    (case l21 => k_is)
    (case c21 => k_is)
    (case k21 => k_is)
    (case a22 => k_is)
    (case l22 => k_is)
    (case c22 => k_is)
    (case k22 => k_is)
    (case a23 => k_is)
    (case l23 => k_is)
    (case c23 => k_is)
    (case k23 => k_is)
    (case a24 => k_is)
    (case l24 => k_is)
    (case c24 => k_is)
    (case k24 => k_is)
    (case a25 => k_is)
    (case l25 => k_is)
    (case c25 => k_is)
    (case k25 => k_is)
    (case a26 => k_is)
    (case i26 => k_is)
    (case l26 => k_is)
    (case c26 => k_is)
    (case k26 => k_is)
    (case a27 => k_is)
    (case i27 => k_is)
    (case l27 => k_is)
    (case c27 => k_is)
    (case k27 => k_is)
    (case d27_layer => k_is)
    (case a28 => k_is)
    (case l28 => k_is)
    (case c28 => k_is)
    (case k28 => k_is)
    (case a29 => k_is)
    (case i29 => k_is)
    (case l29 => k_is)
    (case c29 => k_is)
    (case k29 => k_is)
    (case a30 => k_is)
    (case l30 => k_is)
    (case c30 => k_is)
    (case k30 => k_is)
    (case a31 => k_is)
    (case l31 => k_is)
    (case c31 => k_is)
    (case k31 => k_is)
    (case a32 => k_is)
    (case l32 => k_is)
    (case c32 => k_is)
    (case k32 => k_is)
    (case a33 => k_is)
    (case l33 => k_is)
    (case c33 => k_is)
    (case k33 => k_is)
    (case a34 => k_is)
    (case l34 => k_is)
    (case c34 => k_is)
    (case k34 => k_is)
    (case a35 => k_is)
    (case l35 => k_is)
    (case c35 => k_is)
    (case k35 => k_is)
    (case d35_layer => k_is)
    (case a36 => k_is)
    (case l36 => k_is)
    (case c36 => k_is)
    (case k36 => k_is)
    (case a37 => k_is)
    (case l37 => k_is)
    (case c37 => k_is)
    (case k37 => k_is)
    (case a38 => k_is)
    (case l38 => k_is)
    (case c38 => k_is)
    (case k38 => k_is)
    (case d38_layer => k_is)
    (case a39 => k_is)
    (case l39 => k_is)
    (case c39 => k_is)
    (case k39 => k_is)
    (case a40 => k_is)
    (case l40 => k_is)
    (case c40 => k_is)
    (case k40 => k_is)
    (case a41 => k_is)
    (case l41 => k_is)
    (case c41 => k_is)
    (case k41 => k_is)
    (case a42 => k_is)
    (case l42 => k_is)
    (case c42 => k_is)
    (case k42 => k_is)
    (case z_abs => k_is)
    (case z_all => k_is)
    (case z_any => k_is)
    (case z_bool => k_is)
    (case z_enumerate => k_is)
    (case z_int => k_is)
    (case z_isinstance => k_is)
    (case z_len => k_is)
    (case z_list => k_is)
    (case z_max => k_is)
    (case z_min => k_is)
    (case z_range => k_is)
    (case z_sorted => k_is)
    (case z_tuple => k_is)
    (case z_zip => k_is)
    (case tt => exact rfl)
    (case tg => exact PySem.W.km_tabs_of Y _ (by decide))
    (case tn => exact rfl)
    (case tc => exact rfl)
