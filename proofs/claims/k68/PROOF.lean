import PyProof.Rows.All
import Wide.All
import OpenK.AllK
import Wide.FinOn
import HandS.ForMost
import HandS.Wide
import HandS.IsInst
import HandS.Deep
import HandS.Style
import HandS.Zip
import HandS.Defaults
import HandS.TryOnly
import HandS.Zip0
import KE.KDictZip
import KE.KItemsList
import HandS.ListItems
import HandS.TupAny
import HandS.ExcOwn
import HandS.Lambda
import HandS.ExcInit
import HandS.WordsExc
import HandS.MakeKwOnly
import HandS.ExcField
import HandS.HotCalls
import HandS.SetBool
import HandS.TupSets
import HandS.Flt
import KE.SortData
import HandS.SuiteRaise
import HandS.RaiseFrom
import PyProof.NsDelKeeps
import HandS.ExcIs
import KE.KTryMore
import HandS.Nested
import HandS.EndTab
import HandS.SortKw
import KE.SortKeyHeap
import KE.GoesEnumKw
import KE.DataCmp
import HandS.Conv
import HandS.Style
import KE.KNestM
import HandS.DictComp
import HandS.TryMany
import PyProof.StrOps2
import HandS.DictTup
import PyProof.TupleOfSeq
import KE.DataMinMax
import KE.GoesMore
import KE.GoesZip
import KE.GoesEnum
import HandS.TupMul
import HandS.ListItems
import KE.KDictSum
import KE.DataFind
import HandS.Text
import HandS.FStr
import HandS.More
import KE.KUnpackStar
import HandS.SetFor
import HandS.Strs
import PySem.Challenge.RW_rubberroutes_k68_texts_of_touched_and_li
set_option Elab.async false
set_option linter.all false
set_option maxRecDepth 100000
set_option maxHeartbeats 4000000
namespace Z
open PySem L2
inductive D where
  | non | bl (b : Bool) | int (i : Int) | str (s : Str) | ty (n : String) | tup (ds : List D) | rol (ds : List D) | ref (a : Addr)
inductive MO where
  | lst (ds : List D) | dK (kvs : List (Key × D)) | dT (kvs : List (List Key × D)) | ins (C dx : Addr) (fs : List (Str × D)) | xd (fs : List (Str × D)) | fT (od : Obj) (vs : List (List Key × V)) (kvs : List (List Key × D)) | fK (od : Obj) (vs : List (Key × V)) (kvs : List (Key × D)) | fTp (od : Obj) (ds : List D) | xo (od : Obj) (C : Addr) | tab (q : Str)
abbrev M := Addr → Option MO
def M.set (μ : M) (a : Addr) (m : MO) : M := fun b => if b = a then some m else μ b
theorem set_same {μ : M} {a : Addr} {m : MO} : μ.set a m a = some m := by unfold M.set; rw [if_pos rfl]
theorem set_ne {μ : M} {a b : Addr} {m : MO} (h : b ≠ a) : μ.set a m b = μ b := by unfold M.set; rw [if_neg h]
theorem set_set {μ : M} {a : Addr} {m m' : MO} : (μ.set a m).set a m' = μ.set a m' := by
  funext b; unfold M.set; split <;> rfl
inductive TupAt (K : PySem.W.Frag) (H : Hp) (a : Addr) (xs : List V) : Prop
  | inl (h : H a = some (.tup xs)) : TupAt K H a xs
def RolAt (K : PySem.W.Frag) (H : Hp) (a : Addr) (xs : List V) : Prop :=
  (∃ o, H a = some (.frz o (.lst xs))) ∨ ∃ (o : Obj) (its : Array Value) (n : Nat), K.lookup a = some o ∧ o.cls = .type "list" ∧ o.dict = none ∧ o.data = .seq its n ∧ its.size ≤ sizeLine ∧ Vals xs its.toList
theorem TupAt.sq {K : PySem.W.Frag} {H : Hp} {a : Addr} {xs : List V} (h : TupAt K H a xs) : SqT K H a xs := by
  cases h with
  | inl h => exact .inl (.inl h)
theorem RolAt.sq {K : PySem.W.Frag} {H : Hp} {a : Addr} {xs : List V} (h : RolAt K H a xs) : SqL K H a xs := by
  rcases h with ⟨o, h⟩ | h
  · exact .inl (.inr ⟨o, h⟩)
  · exact .inr h
mutual
inductive Rel (K : PySem.W.Frag) (H : Hp) : V → D → Prop
  | non : Rel K H .non .non
  | bl (b : Bool) : Rel K H (.bl b) (.bl b)
  | int (i : Int) : Rel K H (.int i) (.int i)
  | str (s : Str) : Rel K H (.str s) (.str s)
  | ty (n : String) : Rel K H (.ty n) (.ty n)
  | ref (a : Addr) : Rel K H (.ref a) (.ref a)
  | tup {a : Addr} {xs : List V} {ds : List D} : TupAt K H a xs → Rels K H xs ds → Rel K H (.ref a) (.tup ds)
  | rol {a : Addr} {xs : List V} {ds : List D} : RolAt K H a xs → Rels K H xs ds → Rel K H (.ref a) (.rol ds)
inductive Rels (K : PySem.W.Frag) (H : Hp) : List V → List D → Prop
  | nil : Rels K H [] []
  | cons {v : V} {vs : List V} {d : D} {ds : List D} : Rel K H v d → Rels K H vs ds → Rels K H (v :: vs) (d :: ds)
end
/-- field lists, pair lists -/
def RelKV {κ : Type} (K : PySem.W.Frag) (H : Hp) : List (κ × V) → List (κ × D) → Prop := Paired fun p q => p.1 = q.1 ∧ Rel K H p.2 q.2
def MRel (K : PySem.W.Frag) (H : Hp) (a : Addr) : MO → Prop
  | .lst ds => ∃ vs, H a = some (.lst vs) ∧ Rels K H vs ds
  | .dK kvs => ∃ vs, H a = some (.dK vs) ∧ RelKV K H vs kvs
  | .dT kvs => ∃ vs, H a = some (.dT vs) ∧ RelKV K H vs kvs
  | .ins C dx fs => ∃ vs, H a = some (.ins C dx vs) ∧ RelKV K H vs fs
  | .xd fs => ∃ vs, H a = some (.xd vs) ∧ RelKV K H vs fs
  | .fT od us kvs => ∃ vs, H a = some (.frz od (.dT vs)) ∧ RelKV K H vs kvs ∧ vs = us
  | .fK od us kvs => ∃ vs, H a = some (.frz od (.dK vs)) ∧ RelKV K H vs kvs ∧ vs = us
  | .fTp od ds => ∃ vs, H a = some (.frz od (.tup vs)) ∧ Rels K H vs ds ∧ od.dict = none
  | .xo od C => ∃ z : Addr, H a = some (.frz od (.own z)) ∧ od.cls = .ref C ∧ ∃ vs, od.data = .fields vs
  | .tab q => ∃ ps : Array Value, H a = some (.tbl ps) ∧ TriplesOk ps.toList ∧ ∀ (pos : Pos) (cv : Value), codeAmong pos ps.toList = some cv → ∃ c, cv = .ref c ∧ H c = some (LamX.CodeO c q)
def Con (K : PySem.W.Frag) (H : Hp) (μ : M) : Prop := ∀ a m, μ a = some m → MRel K H a m
abbrev T := List (Option D)
def Slots (K : PySem.W.Frag) (H : Hp) (τ : T) (σ : St) : Prop := τ.length = σ.length ∧ ∀ (i : Nat) (d : D), τ[i]? = some (some d) → ∃ v, σ[i]? = some (some v) ∧ Rel K H v d
/-- what is tracked outside of the store stays, and stays outside -/
def Fr (μ μ' : M) (H H' : Hp) : Prop := ∀ a o, μ a = none → H a = some o → H' a = some o ∧ μ' a = none
section
variable {K : PySem.W.Frag} {H H' H1 H2 : Hp} {μ μ' μ1 μ2 : M} {τ : T} {σ : St}
theorem Fr.refl : Fr μ μ H H := fun _ _ h e => ⟨e, h⟩
theorem Fr.trans (a : Fr μ μ1 H H1) (b : Fr μ1 μ2 H1 H2) : Fr μ μ2 H H2 := fun x o h e => let ⟨e1, h1⟩ := a x o h e; b x o h1 e1
theorem Con.tn (c : Con K H μ) {a : Addr} {xs : List V} (e : H a = some (.tup xs)) : μ a = none := by
  cases q : μ a with
  | none => rfl
  | some m =>
    have r := c a m q
    cases m <;> (obtain ⟨vs, h, _⟩ := r; rw [e] at h; cases h)
theorem Con.fn (c : Con K H μ) {a : Addr} {o : Obj} {u : List V} (e : H a = some (.frz o (.lst u))) : μ a = none := by
  cases q : μ a with
  | none => rfl
  | some m =>
    have r := c a m q
    cases m <;> (obtain ⟨vs, h, _⟩ := r; rw [e] at h; cases h)
theorem Con.free (c : Con K H μ) {a : Addr} (e : H a = none) : μ a = none := by
  cases q : μ a with
  | none => rfl
  | some m =>
    have r := c a m q
    cases m <;> (obtain ⟨vs, h, _⟩ := r; rw [e] at h; cases h)
/-- tuples and read-only lists stay -/
structure Tx (H H' : Hp) : Prop where
  t : ∀ a xs, H a = some (.tup xs) → H' a = some (.tup xs)
  l : ∀ a o xs, H a = some (.frz o (.lst xs)) → H' a = some (.frz o (.lst xs))
  c : ∀ a q, H a = some (LamX.CodeO a q) → H' a = some (LamX.CodeO a q)
theorem Con.cn (c : Con K H μ) {a : Addr} {q : Str} (e : H a = some (LamX.CodeO a q)) : μ a = none := by
  cases h : μ a with
  | none => rfl
  | some m =>
    have r := c a m h
    unfold LamX.CodeO at e
    cases m <;> (obtain ⟨vs, h, _⟩ := r; rw [e] at h; cases h)
theorem Tx.trans (a : Tx H H1) (b : Tx H1 H2) : Tx H H2 := ⟨fun x xs h => b.t x xs (a.t x xs h), fun x o xs h => b.l x o xs (a.l x o xs h), fun x q h => b.c x q (a.c x q h)⟩
theorem Fr.tx (f : Fr μ μ' H H') (c : Con K H μ) : Tx H H' := ⟨fun a xs e => (f a _ (c.tn e) e).1, fun a o xs e => (f a _ (c.fn e) e).1, fun a q e => (f a _ (c.cn e) e).1⟩
theorem TupAt.mono {a : Addr} {xs : List V} (t : Tx H H') (h : TupAt K H a xs) : TupAt K H' a xs := by
  cases h with
  | inl h => exact .inl (t.t _ _ h)
theorem RolAt.mono {a : Addr} {xs : List V} (t : Tx H H') (h : RolAt K H a xs) : RolAt K H' a xs := by
  rcases h with ⟨o, h⟩ | h
  · exact .inl ⟨o, t.l _ _ _ h⟩
  · exact .inr h
mutual
theorem Rel.mono (t : Tx H H') : ∀ (d : D) (v : V), Rel K H v d → Rel K H' v d
  | .non, _, .non => .non
  | .bl _, _, .bl b => .bl b
  | .int _, _, .int b => .int b
  | .str _, _, .str b => .str b
  | .ty _, _, .ty b => .ty b
  | .ref _, _, .ref b => .ref b
  | .tup ds, _, .tup h r => .tup (h.mono t) (Rels.mono t ds _ r)
  | .rol ds, _, .rol h r => .rol (h.mono t) (Rels.mono t ds _ r)
theorem Rels.mono (t : Tx H H') : ∀ (ds : List D) (vs : List V), Rels K H vs ds → Rels K H' vs ds
  | [], _, .nil => .nil
  | d :: ds, _, .cons a b => .cons (Rel.mono t d _ a) (Rels.mono t ds _ b)
end
theorem RelKV.mono {κ : Type} (t : Tx H H') : ∀ {xs : List (κ × V)} {ys : List (κ × D)}, RelKV K H xs ys → RelKV K H' xs ys
  | _, _, .nil => .nil
  | _, _, .cons a b => .cons ⟨a.1, Rel.mono t _ _ a.2⟩ (RelKV.mono t b)
theorem Slots.mono (t : Tx H H') (s : Slots K H τ σ) : Slots K H' τ σ := ⟨s.1, fun i d e => let ⟨v, h, r⟩ := s.2 i d e; ⟨v, h, Rel.mono t d v r⟩⟩
theorem Rels.length : ∀ {vs : List V} {ds : List D}, Rels K H vs ds → vs.length = ds.length
  | _, _, .nil => rfl
  | _, _, .cons _ b => by rw [List.length_cons, List.length_cons, Rels.length b]
theorem Rels.append : ∀ {vs ws : List V} {ds es : List D}, Rels K H vs ds → Rels K H ws es → Rels K H (vs ++ ws) (ds ++ es)
  | _, _, _, _, .nil, h => h
  | _, _, _, _, .cons a b, h => .cons a (Rels.append b h)
theorem Rels.get : ∀ {vs : List V} {ds : List D} {i : Nat} {d : D}, Rels K H vs ds → ds[i]? = some d → ∃ v, vs[i]? = some v ∧ Rel K H v d
  | _, _, i, d, .nil, e => by simp at e
  | _, _, 0, d, .cons a _, e => ⟨_, rfl, by simp at e; subst e; exact a⟩
  | _, _, i + 1, d, .cons _ b, e => by
    obtain ⟨v, h1, h2⟩ := Rels.get (i := i) (d := d) b (by simpa using e)
    exact ⟨v, by simpa using h1, h2⟩
theorem Rels.getV : ∀ {vs : List V} {ds : List D} {i : Nat} {v : V}, Rels K H vs ds → vs[i]? = some v → ∃ d, ds[i]? = some d ∧ Rel K H v d
  | _, _, i, d, .nil, e => by simp at e
  | _, _, 0, d, .cons a _, e => ⟨_, rfl, by simp at e; subst e; exact a⟩
  | _, _, i + 1, d, .cons _ b, e => by
    obtain ⟨v, h1, h2⟩ := Rels.getV (i := i) (v := d) b (by simpa using e)
    exact ⟨v, by simpa using h1, h2⟩
theorem Rels.set {v : V} {d : D} (r : Rel K H v d) : ∀ {vs : List V} {ds : List D} (i : Nat), Rels K H vs ds → Rels K H (vs.set i v) (ds.set i d)
  | _, _, _, .nil => .nil
  | _, _, 0, .cons _ b => .cons r b
  | _, _, i + 1, .cons a b => .cons a (Rels.set r i b)
theorem Rels.reverse : ∀ {vs : List V} {ds : List D}, Rels K H vs ds → Rels K H vs.reverse ds.reverse
  | _, _, .nil => .nil
  | _, _, .cons a b => by rw [List.reverse_cons, List.reverse_cons]; exact (Rels.reverse b).append (.cons a .nil)
theorem Rels.take : ∀ {vs : List V} {ds : List D} (n : Nat), Rels K H vs ds → Rels K H (vs.take n) (ds.take n)
  | _, _, 0, _ => .nil
  | _, _, _ + 1, .nil => .nil
  | _, _, n + 1, .cons a b => .cons a (Rels.take n b)
theorem Rels.drop : ∀ {vs : List V} {ds : List D} (n : Nat), Rels K H vs ds → Rels K H (vs.drop n) (ds.drop n)
  | _, _, 0, h => h
  | _, _, _ + 1, .nil => .nil
  | _, _, n + 1, .cons _ b => Rels.drop n b
theorem Slots.set {v : V} {d : D} (s : Slots K H τ σ) (r : Rel K H v d) (i : Nat) : Slots K H (τ.set i (some d)) (σ.set i (some v)) := by
  refine ⟨by rw [List.length_set, List.length_set]; exact s.1, fun j e h => ?_⟩
  by_cases hj : i = j
  · subst hj
    by_cases hi : i < τ.length
    · rw [List.getElem?_set_self hi] at h
      cases h
      exact ⟨v, by rw [List.getElem?_set_self (by rw [← s.1]; exact hi)], r⟩
    · rw [List.getElem?_eq_none (by rw [List.length_set]; omega)] at h; cases h
  · rw [List.getElem?_set_ne hj] at h
    obtain ⟨v', e', r'⟩ := s.2 j e h
    exact ⟨v', by rw [List.getElem?_set_ne hj]; exact e', r'⟩
/-- objects other than p are as they were: the store but p is borne again -/
theorem MRel.mono (t : Tx H H') {a : Addr} (e : H' a = H a) : ∀ {m : MO}, MRel K H a m → MRel K H' a m
  | .lst _, ⟨vs, h, r⟩ => ⟨vs, e.trans h, Rels.mono t _ _ r⟩
  | .dK _, ⟨vs, h, r⟩ => ⟨vs, e.trans h, RelKV.mono t r⟩
  | .dT _, ⟨vs, h, r⟩ => ⟨vs, e.trans h, RelKV.mono t r⟩
  | .ins _ _ _, ⟨vs, h, r⟩ => ⟨vs, e.trans h, RelKV.mono t r⟩
  | .xd _, ⟨vs, h, r⟩ => ⟨vs, e.trans h, RelKV.mono t r⟩
  | .fT _ _ _, ⟨vs, h, r, z⟩ => ⟨vs, e.trans h, RelKV.mono t r, z⟩
  | .fK _ _ _, ⟨vs, h, r, z⟩ => ⟨vs, e.trans h, RelKV.mono t r, z⟩
  | .fTp _ _, ⟨vs, h, r, z⟩ => ⟨vs, e.trans h, Rels.mono t _ _ r, z⟩
  | .xo _ _, ⟨u, h, r⟩ => ⟨u, e.trans h, r⟩
  | .tab _, ⟨ps, h, z, r⟩ => ⟨ps, e.trans h, z, fun pos cv q => let ⟨c, e1, e2⟩ := r pos cv q; ⟨c, e1, t.c _ _ e2⟩⟩
/-- a new untracked-by-the-store object -/
theorem tx_new {p : Addr} {o : HO} (n : H p = none) : Tx H (upd H p o) := ⟨fun a xs e => by rw [upd_ne (ne_of_none e n)]; exact e, fun a ob xs e => by rw [upd_ne (ne_of_none e n)]; exact e, fun a q e => by rw [upd_ne (ne_of_none e n)]; exact e⟩
theorem con_new {p : Addr} {o : HO} (n : H p = none) (c : Con K H μ) : Con K (upd H p o) μ := fun a m e => by
  have ha : a ≠ p := fun z => by subst z; rw [c.free n] at e; cases e
  exact (c a m e).mono (tx_new n) (upd_ne ha)
theorem fr_new {p : Addr} {o : HO} (n : H p = none) : Fr μ μ H (upd H p o) := fun a u h e => ⟨by rw [upd_ne (ne_of_none e n)]; exact e, h⟩
/-- .. and in the store -/
theorem con_put {p : Addr} {o : HO} {m : MO} (n : H p = none) (c : Con K H μ) (r : MRel K (upd H p o) p m) : Con K (upd H p o) (μ.set p m) := fun a m' e => by
  by_cases ha : a = p
  · subst ha; rw [set_same] at e; cases e; exact r
  · rw [set_ne ha] at e
    exact (c a m' e).mono (tx_new n) (upd_ne ha)
theorem fr_put {p : Addr} {o : HO} {m : MO} (n : H p = none) : Fr μ (μ.set p m) H (upd H p o) := fun a u h e => by
  have ha : a ≠ p := ne_of_none e n
  exact ⟨by rw [upd_ne ha]; exact e, by rw [set_ne ha]; exact h⟩
/-- an object of the store is changed -/
theorem tx_mut {p : Addr} {o : HO} {m : MO} (c : Con K H μ) (h : μ p = some m) : Tx H (upd H p o) :=
  ⟨fun a xs e => by rw [upd_ne (fun z => by subst z; rw [c.tn e] at h; cases h)]; exact e, fun a ob xs e => by rw [upd_ne (fun z => by subst z; rw [c.fn e] at h; cases h)]; exact e, fun a q e => by rw [upd_ne (fun z => by subst z; rw [c.cn e] at h; cases h)]; exact e⟩
theorem con_mut {p : Addr} {o : HO} {m m' : MO} (c : Con K H μ) (h : μ p = some m) (r : MRel K (upd H p o) p m') : Con K (upd H p o) (μ.set p m') := fun a u e => by
  by_cases ha : a = p
  · subst ha; rw [set_same] at e; cases e; exact r
  · rw [set_ne ha] at e
    exact (c a u e).mono (tx_mut c h) (upd_ne ha)
theorem fr_mut {p : Addr} {o : HO} {m m' : MO} (h : μ p = some m) : Fr μ (μ.set p m') H (upd H p o) := fun a u n e => by
  have ha : a ≠ p := fun z => by subst z; rw [n] at h; cases h
  exact ⟨by rw [upd_ne ha]; exact e, by rw [set_ne ha]; exact n⟩
/-- the store forgotten in part -/
def Sub (μ μ' : M) : Prop := ∀ a m, μ a = some m → μ' a = some m
theorem Sub.refl : Sub μ μ := fun _ _ h => h
theorem Sub.trans (a : Sub μ μ1) (b : Sub μ1 μ2) : Sub μ μ2 := fun x m h => b x m (a x m h)
theorem Sub.set {p : Addr} {m : MO} (h : μ p = none) : Sub μ (μ.set p m) := fun a m' e => by rw [set_ne (fun z => by subst z; rw [h] at e; cases e)]; exact e
theorem Con.sub (s : Sub μ μ') (c : Con K H μ') : Con K H μ := fun a m e => c a m (s a m e)
theorem Sub.none (s : Sub μ μ') {a : Addr} (h : μ' a = Option.none) : μ a = Option.none := by
  cases q : μ a with
  | none => rfl
  | some m => rw [s a m q] at h; cases h
theorem Fr.sub (f : Fr μ μ1 H H1) (s : Sub μ2 μ1) : Fr μ μ2 H H1 := fun a o n e => let ⟨e1, h1⟩ := f a o n e; ⟨e1, s.none h1⟩
end
def AE (K : PySem.W.Frag) (t : TE) (τ : T) (μ : M) (Φ : D → M → Prop) : Prop :=
  ∀ σ H, Slots K H τ σ → Con K H μ → ∀ Q : VK, (∀ d μ' v H', Fr μ μ' H H' → Con K H' μ' → Rel K H' v d → Φ d μ' → Q v H') → t σ H Q
def AA (K : PySem.W.Frag) (t : TA) (τ : T) (μ : M) (Φ : List D → M → Prop) : Prop :=
  ∀ σ H, Slots K H τ σ → Con K H μ → ∀ Q : List V → Hp → Prop, (∀ d μ' v H', Fr μ μ' H H' → Con K H' μ' → Rels K H' v d → Φ d μ' → Q v H') → t σ H Q
def AT (K : PySem.W.Frag) (t : TT) (τ : T) (μ : M) (Φ : Bool → M → Prop) : Prop :=
  ∀ σ H, Slots K H τ σ → Con K H μ → ∀ Q : Bool → Hp → Prop, (∀ b μ' H', Fr μ μ' H H' → Con K H' μ' → Φ b μ' → Q b H') → t σ H Q
structure AEnds where
  nx : T → M → Prop
  rt : D → M → Prop
  bk : T → M → Prop := fun _ _ => False
  ct : T → M → Prop := fun _ _ => False
  /-- what is wished of an exception; what the names of classes stand for; what holds where one is raised -/
  W : WX := fun _ _ _ _ => False
  cn : Str → Option Value := fun _ => none
  xs : Str → Option Addr → T → M → Prop := fun _ _ _ _ => False
/-- the concrete ends that follow from the abstract ones -/
structure EndsOk (K : PySem.W.Frag) (N : AEnds) (μ : M) (H : Hp) (E : Ends) : Prop where
  nx : ∀ τ' μ' σ' H', Fr μ μ' H H' → Con K H' μ' → Slots K H' τ' σ' → N.nx τ' μ' → E.nx σ' H'
  rt : ∀ d μ' v H', Fr μ μ' H H' → Con K H' μ' → Rel K H' v d → N.rt d μ' → E.rt v H'
  bk : ∀ τ' μ' σ' H', Fr μ μ' H H' → Con K H' μ' → Slots K H' τ' σ' → N.bk τ' μ' → E.bk σ' H'
  ct : ∀ τ' μ' σ' H', Fr μ μ' H H' → Con K H' μ' → Slots K H' τ' σ' → N.ct τ' μ' → E.ct σ' H'
  wx : ∀ x dx τ' μ' cls σ' H', N.cn x = some cls → Fr μ μ' H H' → Con K H' μ' → Slots K H' τ' σ' → N.xs x dx τ' μ' → N.W cls dx σ' H'
def AS (K : PySem.W.Frag) (t : TS) (τ : T) (μ : M) (N : AEnds) : Prop :=
  ∀ σ H, Slots K H τ σ → Con K H μ → ∀ E : Ends, EndsOk K N μ H E → t E σ H
/-- a target -/
def AG (K : PySem.W.Frag) (g : TG) (d : D) (τ : T) (μ : M) (Φ : T → M → Prop) : Prop :=
  ∀ σ H v, Slots K H τ σ → Con K H μ → Rel K H v d → ∀ Q : St → Hp → Prop, (∀ τ' μ' σ' H', Fr μ μ' H H' → Con K H' μ' → Slots K H' τ' σ' → Φ τ' μ' → Q σ' H') → g v σ H Q
def AGs (K : PySem.W.Frag) (g : TGs) (ds : List D) (τ : T) (μ : M) (Φ : T → M → Prop) : Prop :=
  ∀ σ H vs, Slots K H τ σ → Con K H μ → Rels K H vs ds → ∀ Q : St → Hp → Prop, (∀ τ' μ' σ' H', Fr μ μ' H H' → Con K H' μ' → Slots K H' τ' σ' → Φ τ' μ' → Q σ' H') → g vs σ H Q
/-- an operation on values -/
def RO (K : PySem.W.Frag) (r : R2) (d e : D) (μ : M) (Φ : D → M → Prop) : Prop :=
  ∀ H x y, Con K H μ → Rel K H x d → Rel K H y e → ∀ Q : VK, (∀ z μ' v H', Fr μ μ' H H' → Con K H' μ' → Rel K H' v z → Φ z μ' → Q v H') → r x y H Q
def RU (K : PySem.W.Frag) (r : V → Hp → VK → Prop) (d : D) (μ : M) (Φ : D → M → Prop) : Prop :=
  ∀ H x, Con K H μ → Rel K H x d → ∀ Q : VK, (∀ z μ' v H', Fr μ μ' H H' → Con K H' μ' → Rel K H' v z → Φ z μ' → Q v H') → r x H Q
def RC (K : PySem.W.Frag) (r : List V → Hp → VK → Prop) (ds : List D) (μ : M) (Φ : D → M → Prop) : Prop :=
  ∀ H xs, Con K H μ → Rels K H xs ds → ∀ Q : VK, (∀ z μ' v H', Fr μ μ' H H' → Con K H' μ' → Rel K H' v z → Φ z μ' → Q v H') → r xs H Q
section
variable {K : PySem.W.Frag} {τ : T} {μ : M} {Φ Ψ : D → M → Prop} {ta tb te : TE} {r : R2} {t u : TT} {x y z d e : D}
theorem AE.imp (h : AE K te τ μ Φ) (k : ∀ d μ', Φ d μ' → Ψ d μ') : AE K te τ μ Ψ := fun σ H s c Q q => h σ H s c Q fun d μ' v H' f c' r p => q d μ' v H' f c' r (k d μ' p)
theorem AT.imp {Φ Ψ : Bool → M → Prop} (h : AT K t τ μ Φ) (k : ∀ d μ', Φ d μ' → Ψ d μ') : AT K t τ μ Ψ := fun σ H s c Q q => h σ H s c Q fun d μ' H' f c' p => q d μ' H' f c' (k d μ' p)
theorem a_var {i : Nat} (h : τ[i]? = some (some d)) (q : Φ d μ) : AE K (tVar i) τ μ Φ := fun σ H s c Q k => by
  obtain ⟨v, e, r⟩ := s.2 i d h
  exact ⟨v, e, k d μ v H Fr.refl c r q⟩
theorem a_int {n : Int} (q : Φ (.int n) μ) : AE K (tC (.int n)) τ μ Φ := fun σ H s c Q k => k _ μ _ H Fr.refl c (.int n) q
theorem a_bl {n : Bool} (q : Φ (.bl n) μ) : AE K (tC (.bl n)) τ μ Φ := fun σ H s c Q k => k _ μ _ H Fr.refl c (.bl n) q
theorem a_str {n : Str} (q : Φ (.str n) μ) : AE K (tC (.str n)) τ μ Φ := fun σ H s c Q k => k _ μ _ H Fr.refl c (.str n) q
theorem a_non (q : Φ .non μ) : AE K (tC .non) τ μ Φ := fun σ H s c Q k => k _ μ _ H Fr.refl c .non q
theorem a_ty {n : String} (q : Φ (.ty n) μ) : AE K (tC (.ty n)) τ μ Φ := fun σ H s c Q k => k _ μ _ H Fr.refl c (.ty n) q
theorem a_op (h : AE K ta τ μ fun d μ1 => AE K tb τ μ1 fun e μ2 => RO K r d e μ2 Φ) : AE K (tOp r ta tb) τ μ Φ := fun σ H s c Q k =>
  h σ H s c _ fun d μ1 v H1 f1 c1 r1 p1 => p1 σ H1 (s.mono (f1.tx c)) c1 _ fun e μ2 u H2 f2 c2 r2 p2 =>
    p2 H2 v u c2 (Rel.mono (f2.tx c1) _ _ r1) r2 Q fun z μ' w H' f c' rz pz => k z μ' w H' ((f1.trans f2).trans f) c' rz pz
theorem a_un {r : V → Hp → VK → Prop} (h : AE K ta τ μ fun d μ1 => RU K r d μ1 Φ) : AE K (tUn r ta) τ μ Φ := fun σ H s c Q k =>
  h σ H s c _ fun d μ1 v H1 f1 c1 r1 p1 => p1 H1 v c1 r1 Q fun z μ' w H' f c' rz pz => k z μ' w H' (f1.trans f) c' rz pz
theorem aa_nil {Φ : List D → M → Prop} (q : Φ [] μ) : AA K tNil τ μ Φ := fun σ H s c Q k => k _ μ _ H Fr.refl c .nil q
theorem aa_cons {Φ : List D → M → Prop} {tr : TA} (h : AE K ta τ μ fun d μ1 => AA K tr τ μ1 fun ds μ2 => Φ (d :: ds) μ2) : AA K (tCons ta tr) τ μ Φ := fun σ H s c Q k =>
  h σ H s c _ fun d μ1 v H1 f1 c1 r1 p1 => p1 σ H1 (s.mono (f1.tx c)) c1 _ fun ds μ2 us H2 f2 c2 r2 p2 => k _ μ2 _ H2 (f1.trans f2) c2 (.cons (Rel.mono (f2.tx c1) _ _ r1) r2) p2
theorem a_tup {ta : TA} (h : AA K ta τ μ fun ds μ1 => ds.length ≤ sizeLine ∧ Φ (.tup ds) μ1) : AE K (tTup ta) τ μ Φ := fun σ H s c Q k =>
  h σ H s c _ fun ds μ1 vs H1 f1 c1 r1 ⟨hz, p1⟩ => ⟨by rw [r1.length]; exact hz, fun p hp => k _ μ1 _ _ (f1.trans (fr_new hp)) (con_new hp c1) (.tup (.inl upd_same) (Rels.mono (tx_new hp) _ _ r1)) p1⟩
theorem a_lst {ta : TA} (h : AA K ta τ μ fun ds μ1 => ds.length ≤ sizeLine ∧ ∀ p, μ1 p = none → Φ (.ref p) (μ1.set p (.lst ds))) : AE K (tLst ta) τ μ Φ := fun σ H s c Q k =>
  h σ H s c _ fun ds μ1 vs H1 f1 c1 r1 ⟨hz, p1⟩ => ⟨by rw [r1.length]; exact hz, fun p hp => k _ _ _ _ (f1.trans (fr_put hp)) (con_put (m := .lst ds) hp c1 ⟨vs, upd_same, Rels.mono (tx_new hp) _ _ r1⟩) (.ref p) (p1 p (c1.free hp))⟩
theorem a_cb {r : List V → Hp → VK → Prop} {ta : TA} (h : AA K ta τ μ fun ds μ1 => RC K r ds μ1 Φ) : AE K (tCB r ta) τ μ Φ := fun σ H s c Q k =>
  h σ H s c _ fun ds μ1 vs H1 f1 c1 r1 p1 => p1 H1 vs c1 r1 Q fun z μ' w H' f c' rz pz => k z μ' w H' (f1.trans f) c' rz pz
theorem a_if (h : AT K t τ μ fun b μ1 => if b = true then AE K ta τ μ1 Φ else AE K tb τ μ1 Φ) : AE K (tIf t ta tb) τ μ Φ := fun σ H s c Q k =>
  h σ H s c _ fun b μ1 H1 f1 c1 p1 => by
    cases b with
    | true => exact (show AE K ta τ μ1 Φ from p1) σ H1 (s.mono (f1.tx c)) c1 Q fun z μ' w H' f c' rz pz => k z μ' w H' (f1.trans f) c' rz pz
    | false => exact (show AE K tb τ μ1 Φ from p1) σ H1 (s.mono (f1.tx c)) c1 Q fun z μ' w H' f c' rz pz => k z μ' w H' (f1.trans f) c' rz pz
theorem a_andV (h : AE K ta τ μ fun d μ1 => ∃ b, d = .bl b ∧ if b = true then AE K tb τ μ1 Φ else Φ (.bl false) μ1) : AE K (tAndV ta tb) τ μ Φ := fun σ H s c Q k =>
  h σ H s c _ fun d μ1 v H1 f1 c1 r1 ⟨b, e, p1⟩ => by
    subst e
    cases r1
    refine ⟨b, rfl, ?_⟩
    cases b with
    | true => exact (show AE K tb τ μ1 Φ from p1) σ H1 (s.mono (f1.tx c)) c1 Q fun z μ' w H' f c' rz pz => k z μ' w H' (f1.trans f) c' rz pz
    | false => exact k _ μ1 _ H1 f1 c1 (.bl false) (show Φ (.bl false) μ1 from p1)
theorem a_orV (h : AE K ta τ μ fun d μ1 => ∃ b, d = .bl b ∧ if b = true then Φ (.bl true) μ1 else AE K tb τ μ1 Φ) : AE K (tOrV ta tb) τ μ Φ := fun σ H s c Q k =>
  h σ H s c _ fun d μ1 v H1 f1 c1 r1 ⟨b, e, p1⟩ => by
    subst e
    cases r1
    refine ⟨b, rfl, ?_⟩
    cases b with
    | true => exact k _ μ1 _ H1 f1 c1 (.bl true) (show Φ (.bl true) μ1 from p1)
    | false => exact (show AE K tb τ μ1 Φ from p1) σ H1 (s.mono (f1.tx c)) c1 Q fun z μ' w H' f c' rz pz => k z μ' w H' (f1.trans f) c' rz pz
theorem a_notV (h : AE K ta τ μ fun d μ1 => ∃ b, d = .bl b ∧ Φ (.bl (!b)) μ1) : AE K (tNotV ta) τ μ Φ := fun σ H s c Q k =>
  h σ H s c _ fun d μ1 v H1 f1 c1 r1 ⟨b, e, p1⟩ => by
    subst e
    cases r1
    exact ⟨b, rfl, k _ μ1 _ H1 f1 c1 (.bl _) p1⟩
variable {Θ : Bool → M → Prop}
theorem at_test (h : AE K te τ μ fun d μ1 => ∃ b, d = .bl b ∧ Θ b μ1) : AT K (tTest te) τ μ Θ := fun σ H s c Q k =>
  h σ H s c _ fun d μ1 v H1 f1 c1 r1 ⟨b, e, p1⟩ => by
    subst e
    cases r1
    exact ⟨b, rfl, k b μ1 H1 f1 c1 p1⟩
theorem at_B (h : AE K te τ μ fun d μ1 => ∃ b, d = .bl b ∧ Θ b μ1) : AT K (tB te) τ μ Θ := fun σ H s c Q k =>
  h σ H s c _ fun d μ1 v H1 f1 c1 r1 ⟨b, e, p1⟩ => by
    subst e
    cases r1
    exact ⟨b, rfl, k b μ1 H1 f1 c1 p1⟩
theorem at_and (h : AT K t τ μ fun b μ1 => if b = true then AT K u τ μ1 Θ else Θ false μ1) : AT K (tAnd t u) τ μ Θ := fun σ H s c Q k =>
  h σ H s c _ fun b μ1 H1 f1 c1 p1 => by
    cases b with
    | true => exact (show AT K u τ μ1 Θ from p1) σ H1 (s.mono (f1.tx c)) c1 Q fun z μ' H' f c' pz => k z μ' H' (f1.trans f) c' pz
    | false => exact k false μ1 H1 f1 c1 (show Θ false μ1 from p1)
theorem at_or (h : AT K t τ μ fun b μ1 => if b = true then Θ true μ1 else AT K u τ μ1 Θ) : AT K (tOr t u) τ μ Θ := fun σ H s c Q k =>
  h σ H s c _ fun b μ1 H1 f1 c1 p1 => by
    cases b with
    | true => exact k true μ1 H1 f1 c1 (show Θ true μ1 from p1)
    | false => exact (show AT K u τ μ1 Θ from p1) σ H1 (s.mono (f1.tx c)) c1 Q fun z μ' H' f c' pz => k z μ' H' (f1.trans f) c' pz
theorem at_not (h : AT K t τ μ fun b μ1 => Θ (!b) μ1) : AT K (tNot t) τ μ Θ := fun σ H s c Q k => h σ H s c _ fun b μ1 H1 f1 c1 p1 => k (!b) μ1 H1 f1 c1 p1
end
end Z
namespace Z
open PySem L2
section
variable {K : PySem.W.Frag} {τ : T} {μ μ1 μ2 : M} {H H1 H2 : Hp} {σ : L2.St} {Φ Ψ : D → M → Prop} {ta tb tc te : TE} {r r' : R2} {t u : TT} {x y z d e : D} {N : AEnds} {ts us : TS} {g : TG} {D0 E : Ends}
theorem EndsOk.step {μ' : M} {H' : Hp} (k : EndsOk K N μ H E) (f : Fr μ μ' H H') : EndsOk K N μ' H' E :=
  ⟨fun a b c d' f' => k.nx a b c d' (f.trans f'), fun a b c d' f' => k.rt a b c d' (f.trans f'), fun a b c d' f' => k.bk a b c d' (f.trans f'), fun a b c d' f' => k.ct a b c d' (f.trans f'), fun x1 x2 x3 x4 x5 x6 x7 x8 f' => k.wx x1 x2 x3 x4 x5 x6 x7 x8 (f.trans f')⟩
theorem s_seq (h : AS K ts τ μ { N with nx := fun τ' μ' => AS K us τ' μ' N }) : AS K (tSeq ts us) τ μ N := fun σ H s c E k =>
  h σ H s c _ ⟨fun τ' μ' σ' H' f c' s' p => p σ' H' s' c' E (k.step f), k.rt, k.bk, k.ct, k.wx⟩
theorem s_next (h : N.nx τ μ) : AS K tNext τ μ N := fun σ H s c E k => k.nx τ μ σ H Fr.refl c s h
theorem s_drop (h : AE K te τ μ fun _ μ' => N.nx τ μ') : AS K (tDrop te) τ μ N := fun σ H s c E k =>
  h σ H s c _ fun d μ' v H' f c' r p => k.nx τ μ' σ H' f c' (s.mono (f.tx c)) p
theorem s_ret (h : AE K te τ μ N.rt) : AS K (tRet te) τ μ N := fun σ H s c E k => h σ H s c _ fun d μ' v H' f c' r p => k.rt d μ' v H' f c' r p
theorem s_retN (h : N.rt .non μ) : AS K tRetN τ μ N := fun σ H s c E k => k.rt .non μ .non H Fr.refl c .non h
theorem s_if (h : AT K t τ μ fun b μ' => if b = true then AS K ts τ μ' N else AS K us τ μ' N) : AS K (tIfS t ts us) τ μ N := fun σ H s c E k =>
  h σ H s c _ fun b μ' H' f c' p => by
    cases b with
    | true => exact (show AS K ts τ μ' N from p) σ H' (s.mono (f.tx c)) c' E (k.step f)
    | false => exact (show AS K us τ μ' N from p) σ H' (s.mono (f.tx c)) c' E (k.step f)
theorem s_asg (h : AE K te τ μ fun d μ' => AG K g d τ μ' N.nx) : AS K (tAsg te g) τ μ N := fun σ H s c E k =>
  h σ H s c _ fun d μ' v H' f c' r p => p σ H' v (s.mono (f.tx c)) c' r _ fun τ2 μ2 σ2 H2 f2 c2 s2 q => k.nx τ2 μ2 σ2 H2 (f.trans f2) c2 s2 q
theorem g_name {i : Nat} {Θ : T → M → Prop} (h : Θ (τ.set i (some d)) μ) : AG K (gName i) d τ μ Θ := fun σ H v s c r Q k => k _ μ _ H Fr.refl c (s.set r i) h
theorem gs_nil {Θ : T → M → Prop} (h : Θ τ μ) : AGs K gNil [] τ μ Θ := fun σ H vs s c r Q k => by
  cases r
  exact ⟨rfl, k τ μ σ H Fr.refl c s h⟩
theorem gs_cons {gs : TGs} {ds : List D} {Θ : T → M → Prop} (h : AG K g d τ μ fun τ' μ' => AGs K gs ds τ' μ' Θ) : AGs K (gCons g gs) (d :: ds) τ μ Θ := fun σ H vs s c r Q k => by
  cases r with
  | cons r1 r2 =>
    rename_i v vs'
    exact ⟨v, vs', rfl, h σ H v s c r1 _ fun τ' μ' σ' H' f c' s' p => p σ' H' vs' s' c' (Rels.mono (f.tx c) _ _ r2) Q fun τ2 μ2 σ2 H2 f2 c2 s2 q => k τ2 μ2 σ2 H2 (f.trans f2) c2 s2 q⟩
theorem g_tup {n : Nat} {gs : TGs} {ds : List D} {Θ : T → M → Prop} (hn : ds.length = n) (h : AGs K gs ds τ μ Θ) : AG K (gTup K n gs) (.tup ds) τ μ Θ := fun σ H v s c r Q k => by
  cases r with
  | tup ht hr => exact ⟨_, _, rfl, ht.sq, by rw [hr.length]; exact hn, h σ H _ s c hr Q k⟩
/-- o[i] = v -/
def ASet (K : PySem.W.Frag) (t : TSet) (o i d : D) (μ : M) (Θ : M → Prop) : Prop :=
  ∀ H a b v, Con K H μ → Rel K H a o → Rel K H b i → Rel K H v d → ∀ Q : Hp → Prop, (∀ μ' H', Fr μ μ' H H' → Con K H' μ' → Θ μ' → Q H') → t a b v H Q
theorem g_sub {to ti : TE} {tset : TSet} {Θ : T → M → Prop} (h : AE K to τ μ fun o μ1 => AE K ti τ μ1 fun i μ2 => ASet K tset o i d μ2 fun μ3 => Θ τ μ3) : AG K (gSub to ti tset) d τ μ Θ := fun σ H v s c r Q k =>
  h σ H s c _ fun o μ1 a H1 f1 c1 r1 p1 => p1 σ H1 (s.mono (f1.tx c)) c1 _ fun i μ2 b H2 f2 c2 r2 p2 =>
    p2 H2 a b v c2 (Rel.mono (f2.tx c1) _ _ r1) r2 (Rel.mono ((f1.trans f2).tx c) _ _ r) _ fun μ3 H3 f3 c3 p3 => k τ μ3 σ H3 ((f1.trans f2).trans f3) c3 (s.mono (((f1.trans f2).trans f3).tx c)) p3
theorem s_par {i j : Nat} {ta : TA} (h : AA K ta τ μ fun ds μ' => ∃ d e, ds = [d, e] ∧ N.nx ((τ.set i (some d)).set j (some e)) μ') : AS K (tPar i j ta) τ μ N := fun σ H s c E k =>
  h σ H s c _ fun ds μ' vs H' f c' r ⟨d, e, q, p⟩ => by
    subst q
    cases r with
    | cons r1 r2 =>
      cases r2 with
      | cons r2 r3 =>
        cases r3
        exact ⟨_, _, rfl, k.nx _ μ' _ H' f c' (((s.mono (f.tx c)).set r1 i).set r2 j) p⟩
/-- a op= b, by values -/
theorem s_aug {i : Nat} {ti : TIp} (hx : τ[i]? = some (some d)) (h : AE K te τ μ fun e μ1 => RO K ti d e μ1 fun z μ2 => N.nx (τ.set i (some z)) μ2) : AS K (tAug i te ti) τ μ N := fun σ H s c E k => by
  obtain ⟨v, e1, r1⟩ := s.2 i d hx
  exact ⟨v, e1, h σ H s c _ fun e μ1 u H1 f1 c1 r2 p1 => p1 H1 v u c1 (Rel.mono (f1.tx c) _ _ r1) r2 _ fun z μ2 w H2 f2 c2 rz p2 =>
    k.nx _ μ2 _ H2 (f1.trans f2) c2 ((s.mono ((f1.trans f2).tx c)).set rz i) p2⟩
theorem AS.imp {nx' bk' ct' : T → M → Prop} {rt' : D → M → Prop} (h : AS K ts τ μ N) (h1 : ∀ a b, N.nx a b → nx' a b) (h2 : ∀ a b, N.rt a b → rt' a b) (h3 : ∀ a b, N.bk a b → bk' a b) (h4 : ∀ a b, N.ct a b → ct' a b) : AS K ts τ μ { N with nx := nx', rt := rt', bk := bk', ct := ct' } := fun σ H s c E q =>
  h σ H s c E ⟨fun a b c' d' f x y p => q.nx a b c' d' f x y (h1 _ _ p), fun a b c' d' f x y p => q.rt a b c' d' f x y (h2 _ _ p), fun a b c' d' f x y p => q.bk a b c' d' f x y (h3 _ _ p), fun a b c' d' f x y p => q.ct a b c' d' f x y (h4 _ _ p), q.wx⟩
theorem s_while {tt : TT} {tb : TS} (W : Nat → T → M → Prop) (m0 : Nat) (h0 : W m0 τ μ)
    (hs : ∀ m τ' μ', W m τ' μ' → AT K tt τ' μ' fun b μ1 => if b = true then AS K tb τ' μ1 { N with nx := fun τ2 μ2 => ∃ m', m' < m ∧ W m' τ2 μ2, ct := fun τ2 μ2 => ∃ m', m' < m ∧ W m' τ2 μ2, bk := N.nx } else N.nx τ' μ1) :
    AS K (tWhile tt tb) τ μ N := fun σ H s c E k =>
  ⟨fun m σ' H' => ∃ τ' μ', Fr μ μ' H H' ∧ Con K H' μ' ∧ Slots K H' τ' σ' ∧ W m τ' μ', ⟨m0, τ, μ, Fr.refl, c, s, h0⟩, fun m σ' H' ⟨τ', μ', f, c', s', w⟩ =>
    hs m τ' μ' w σ' H' s' c' _ fun b μ1 H1 f1 c1 p => by
      cases b with
      | true =>
        refine ⟨fun σ2 H2 => ∃ m', m' < m ∧ ∃ τ' μ', Fr μ μ' H H2 ∧ Con K H2 μ' ∧ Slots K H2 τ' σ2 ∧ W m' τ' μ', fun σ2 H2 q => q, ?_⟩
        refine (show AS K tb τ' μ1 _ from p) σ' H1 (s'.mono (f1.tx c')) c1 _ ⟨fun τ2 μ2 σ2 H2 f2 c2 s2 ⟨m', hm, w'⟩ => ⟨m', hm, τ2, μ2, (f.trans f1).trans f2, c2, s2, w'⟩, fun d' μ2 v H2 f2 => k.rt d' μ2 v H2 ((f.trans f1).trans f2), fun τ2 μ2 σ2 H2 f2 c2 s2 q => k.nx τ2 μ2 σ2 H2 ((f.trans f1).trans f2) c2 s2 q, fun τ2 μ2 σ2 H2 f2 c2 s2 ⟨m', hm, w'⟩ => ⟨m', hm, τ2, μ2, (f.trans f1).trans f2, c2, s2, w'⟩, fun x1 x2 x3 x4 x5 x6 x7 x8 f' => k.wx x1 x2 x3 x4 x5 x6 x7 x8 ((f.trans f1).trans f')⟩
      | false => exact k.nx τ' μ1 σ' H1 (f.trans f1) c1 (s'.mono (f1.tx c')) (show N.nx τ' μ1 from p)⟩
/-- the ends of a turn -/
def turnE (N : AEnds) (P : T → M → Prop) : AEnds := { N with nx := P, ct := P, bk := N.nx }
theorem turn_ok {μ0 : M} {H0 : Hp} {P : T → M → Prop} {Pc : L2.St → Hp → Prop} (k : EndsOk K N μ0 H0 E) (f : Fr μ0 μ H0 H) (hp : ∀ τ' μ' σ' H', Fr μ0 μ' H0 H' → Con K H' μ' → Slots K H' τ' σ' → P τ' μ' → Pc σ' H') :
    EndsOk K (turnE N P) μ H { E with nx := Pc, ct := Pc, bk := E.nx } :=
  ⟨fun τ' μ' σ' H' f' c s p => hp τ' μ' σ' H' (f.trans f') c s p, fun d' μ' v H' f' => k.rt d' μ' v H' (f.trans f'), fun τ' μ' σ' H' f' => k.nx τ' μ' σ' H' (f.trans f'), fun τ' μ' σ' H' f' c s p => hp τ' μ' σ' H' (f.trans f') c s p, fun x1 x2 x3 x4 x5 x6 x7 x8 f' => k.wx x1 x2 x3 x4 x5 x6 x7 x8 (f.trans f')⟩
/-- the list a is set aside while it is walked -/
def M.del (μ : M) (a : Addr) : M := fun b => if b = a then none else μ b
theorem del_same {a : Addr} : μ.del a a = none := by unfold M.del; rw [if_pos rfl]
theorem del_ne {a b : Addr} (h : b ≠ a) : μ.del a b = μ b := by unfold M.del; rw [if_neg h]
theorem del_sub {a : Addr} : Sub (μ.del a) μ := fun b m e => by
  by_cases h : b = a
  · subst h; rw [del_same] at e; cases e
  · rw [del_ne h] at e; exact e
theorem del_set {a : Addr} {m : MO} (h : μ a = some m) : (μ.del a).set a m = μ := by
  funext b
  by_cases hb : b = a
  · subst hb; rw [set_same, h]
  · rw [set_ne hb, del_ne hb]
theorem fr_back {μ0 μ' : M} {H0 H' : Hp} {a : Addr} {m m' : MO} (ha : μ1 a = some m) (f1 : Fr μ0 μ1 H0 H1) (f : Fr (μ1.del a) μ' H1 H') : Fr μ0 (μ'.set a m') H0 H' := fun x o n e => by
  obtain ⟨e1, n1⟩ := f1 x o n e
  have hx : x ≠ a := fun z => by subst z; rw [n1] at ha; cases ha
  obtain ⟨e2, n2⟩ := f x o (by rw [del_ne hx]; exact n1) e1
  exact ⟨e2, by rw [set_ne hx]; exact n2⟩
theorem con_back {μ' : M} {a : Addr} {m : MO} (c : Con K H μ') (r : MRel K H a m) : Con K H (μ'.set a m) := fun x u e => by
  by_cases hx : x = a
  · subst hx; rw [set_same] at e; cases e; exact r
  · rw [set_ne hx] at e; exact c x u e
/-- for over a range -/
theorem s_forN {wi : TI} {lo : Int} {n : Nat} {tb : TS} (P : Nat → T → M → Prop) (hw : ∀ σ H, Slots K H τ σ → Con K H μ → ∀ R : It → Hp → Prop, (∀ μ1 H1, Fr μ μ1 H H1 → Con K H1 μ1 → P 0 τ μ1 → R (Itr lo n) H1) → wi σ H R)
    (hs : ∀ (i : Nat) τ' μ', i < n → P i τ' μ' → AG K g (.int (lo + i)) τ' μ' fun τ2 μ2 => AS K tb τ2 μ2 (turnE N (P (i + 1)))) (hd : ∀ τ' μ', P n τ' μ' → N.nx τ' μ') : AS K (tFor wi g tb) τ μ N := fun σ H s c E k =>
  hw σ H s c _ fun μ1 H1 f1 c1 p0 => by
    refine for_range (lo := lo) (n := n) (fun i σ' H' => ∃ τ' μ', Fr μ μ' H H' ∧ Con K H' μ' ∧ Slots K H' τ' σ' ∧ P i τ' μ') ⟨τ, μ1, f1, c1, s.mono (f1.tx c), p0⟩ ?_ ?_
    · rintro i σ' H' hi ⟨τ', μ', f, c', s', p⟩
      refine hs i τ' μ' hi p σ' H' _ s' c' (.int _) _ fun τ2 μ2 σ2 H2 f2 c2 s2 q => ?_
      exact q σ2 H2 s2 c2 _ (turn_ok (k.step f) f2 fun τ3 μ3 σ3 H3 f3 c3 s3 p3 => ⟨τ3, μ3, f.trans f3, c3, s3, p3⟩)
    · rintro σ' H' ⟨τ', μ', f, c', s', p⟩
      exact k.nx τ' μ' σ' H' f c' s' (hd τ' μ' p)
theorem s_for1 {ta : TA} {tb : TS} (n : Int) (P : Nat → T → M → Prop) (h : AA K ta τ μ fun ds μ1 => ds = [.int n] ∧ -(2 ^ 62) ≤ n ∧ n < 2 ^ 62 ∧ P 0 τ μ1)
    (hs : ∀ (i : Nat) τ' μ', (i : Int) < n → P i τ' μ' → AG K g (.int i) τ' μ' fun τ2 μ2 => AS K tb τ2 μ2 (turnE N (P (i + 1)))) (hd : ∀ τ' μ', P n.toNat τ' μ' → N.nx τ' μ') : AS K (tFor (iRng1 ta) g tb) τ μ N := by
  refine s_forN (lo := 0) (n := n.toNat) P (fun σ H s c R k => h σ H s c _ fun ds μ1 vs H1 f1 c1 r1 ⟨e, h1, h2, p⟩ => ?_) (fun i τ' μ' hi p => ?_) hd
  · subst e
    cases r1 with
    | cons r rr =>
      cases r
      cases rr
      exact ⟨n, rfl, h1, h2, k μ1 H1 f1 c1 p⟩
  · rw [Int.zero_add]
    exact hs i τ' μ' (by omega) p
end
end Z
namespace Z
open PySem L2
def seqD (μ : M) : D → Option (List D)
  | .tup ds => some ds
  | .rol ds => some ds
  | .ref a => match μ a with
    | some (.lst ds) => some ds
    | _ => none
  | _ => none
section
variable {K : PySem.W.Frag} {τ : T} {μ μ1 μ2 : M} {H H1 H2 : Hp} {σ : L2.St} {Φ Ψ : D → M → Prop} {ta tb tc te : TE} {r r' : R2} {t u : TT} {x y z d e : D} {N : AEnds} {ts us : TS}
theorem seq_of {v : V} {ds : List D} (c : Con K H μ) (r : Rel K H v d) (h : seqD μ d = some ds) : ∃ a xs, v = .ref a ∧ (SqL K H a xs ∨ SqT K H a xs) ∧ Rels K H xs ds := by
  cases r with
  | tup ht hr => cases h; exact ⟨_, _, rfl, .inr ht.sq, hr⟩
  | rol ht hr => cases h; exact ⟨_, _, rfl, .inl ht.sq, hr⟩
  | ref a =>
    unfold seqD at h
    simp only at h
    split at h
    · rename_i ds' e
      cases h
      obtain ⟨xs, h1, h2⟩ := c _ _ e
      exact ⟨_, xs, rfl, .inl (SqL.of h1), h2⟩
    · cases h
  | non => cases h
  | bl => cases h
  | int => cases h
  | str => cases h
  | ty => cases h
theorem ro_i {f : Int → Int → Int} {i j : Int} (q : Φ (.int (f i j)) μ) : RO K (rI0 fun i j => V.int (f i j)) (.int i) (.int j) μ Φ := fun H x y c r1 r2 Q k => by
  cases r1; cases r2
  exact ⟨i, j, rfl, rfl, k _ μ _ H Fr.refl c (.int _) q⟩
theorem ro_b {f : Int → Int → Bool} {i j : Int} (q : Φ (.bl (f i j)) μ) : RO K (rI0 fun i j => V.bl (f i j)) (.int i) (.int j) μ Φ := fun H x y c r1 r2 Q k => by
  cases r1; cases r2
  exact ⟨i, j, rfl, rfl, k _ μ _ H Fr.refl c (.bl _) q⟩
theorem ro_c {C : Int → Int → Prop} {f : Int → Int → Int} {i j : Int} (hc : C i j) (q : Φ (.int (f i j)) μ) : RO K (rI C fun i j => V.int (f i j)) (.int i) (.int j) μ Φ := fun H x y c r1 r2 Q k => by
  cases r1; cases r2
  exact ⟨i, j, rfl, rfl, hc, k _ μ _ H Fr.refl c (.int _) q⟩
theorem ru_i {f : Int → Int} {i : Int} (q : Φ (.int (f i)) μ) : RU K (rU fun i => V.int (f i)) (.int i) μ Φ := fun H x c r1 Q k => by
  cases r1
  exact ⟨i, rfl, k _ μ _ H Fr.refl c (.int _) q⟩
theorem at_len {xs : List V} {ds : List D} {i : Int} {d : D} (r : Rels K H xs ds) (h : atI ds i = some d) : ∃ v, atI xs i = some v ∧ Rel K H v d := by
  unfold atI at h ⊢
  rw [r.length]
  cases e : ixN ds.length i with
  | none => rw [e] at h; cases h
  | some j =>
    rw [e] at h
    exact r.get h
theorem ro_ix {ds : List D} {i : Int} (hs : seqD μ d = some ds) (hi : atI ds i = some e) (q : Φ e μ) : RO K (rIx K) d (.int i) μ Φ := fun H x y c r1 r2 Q k => by
  cases r2
  obtain ⟨a, xs, rfl, hq, hr⟩ := seq_of c r1 hs
  obtain ⟨v, hv, rv⟩ := at_len hr hi
  rcases hq with hq | hq
  · exact .inl ⟨a, xs, i, v, rfl, rfl, hq, hv, k e μ v H Fr.refl c rv q⟩
  · exact .inr (.inl ⟨a, xs, i, v, rfl, rfl, hq, hv, k e μ v H Fr.refl c rv q⟩)
theorem ro_ixS {s : Str} {i : Int} {n : Nat} (hz : s.length ≤ sizeLine) (hi : atI s.cps.toList i = some n) (q : Φ (.str ⟨#[n]⟩) μ) : RO K (rIx K) (.str s) (.int i) μ Φ := fun H x y c r1 r2 Q k => by
  cases r1; cases r2
  exact .inr (.inr ⟨s, i, n, rfl, rfl, hz, hi, k _ μ _ H Fr.refl c (.str _) q⟩)
theorem set_lst {a : Addr} {ds : List D} {i : Int} {j : Nat} {Θ : M → Prop} (h : μ a = some (.lst ds)) (hi : ixN ds.length i = some j) (q : Θ (μ.set a (.lst (ds.set j d)))) : ASet K rSetL (.ref a) (.int i) d μ Θ := fun H x y v c r1 r2 r3 Q k => by
  cases r1; cases r2
  obtain ⟨xs, hx, hr⟩ := c a _ h
  exact ⟨a, xs, i, j, rfl, rfl, hx, by rw [hr.length]; exact hi, k _ _ (fr_mut h) (con_mut (m' := .lst (ds.set j d)) c h ⟨_, upd_same, Rels.mono (tx_mut c h) _ _ (Rels.set r3 j hr)⟩) q⟩
mutual
def D.py : D → PyData
  | .bl b => .bool b
  | .int i => .int i
  | .str s => .str s
  | .tup ds => .tuple (D.pys ds)
  | _ => .none
def D.pys : List D → List PyData
  | [] => []
  | d :: ds => D.py d :: D.pys ds
end
mutual
/-- None, truths, ints, texts and tuples of them -/
def D.plain : D → Bool
  | .non => true
  | .bl _ => true
  | .int _ => true
  | .str _ => true
  | .tup ds => D.plains ds
  | _ => false
def D.plains : List D → Bool
  | [] => true
  | d :: ds => D.plain d && D.plains ds
end
mutual
theorem Rel.dp : ∀ (d : D) (v : V), Rel K H v d → D.plain d = true → Dp K H v (D.py d)
  | .non, _, .non, _ => by simp only [D.py]; exact .non
  | .bl _, _, .bl b, _ => by simp only [D.py]; exact .bl b
  | .int _, _, .int b, _ => by simp only [D.py]; exact .int b
  | .str _, _, .str b, _ => by simp only [D.py]; exact .str b
  | .tup ds, _, .tup h r, p => by simp only [D.py]; exact .tup h.sq (Rels.dp ds _ r (by simpa only [D.plain] using p))
  | .ty _, _, _, p => by simp [D.plain] at p
  | .ref _, _, _, p => by simp [D.plain] at p
  | .rol _, _, _, p => by simp [D.plain] at p
theorem Rels.dp : ∀ (ds : List D) (vs : List V), Rels K H vs ds → D.plains ds = true → DpAll K H vs (D.pys ds)
  | [], _, .nil, _ => by simp only [D.pys]; exact .nil
  | d :: ds, _, .cons a b, p => by
    simp only [D.plains, Bool.and_eq_true] at p
    simp only [D.pys]
    exact .cons (Rel.dp d _ a p.1) (Rels.dp ds _ b p.2)
end
/-- plain and not too deep -/
def D.ok (d : D) : Bool := D.plain d && SeqAt.shaped (D.py d)
def D.eqv (d e : D) : Bool := PyData.eqv (D.py d) (D.py e)
theorem ro_eqD (h1 : D.ok d = true) (h2 : D.ok e = true) (q : Φ (.bl (D.eqv d e)) μ) : RO K (rEqD K) d e μ Φ := fun H x y c r1 r2 Q k => by
  unfold D.ok at h1 h2
  rw [Bool.and_eq_true] at h1 h2
  exact ⟨_, _, Rel.dp _ _ r1 h1.1, Rel.dp _ _ r2 h2.1, h1.2, h2.2, k _ μ _ H Fr.refl c (.bl _) q⟩
theorem ro_neD (h1 : D.ok d = true) (h2 : D.ok e = true) (q : Φ (.bl (!D.eqv d e)) μ) : RO K (rNeD K) d e μ Φ := fun H x y c r1 r2 Q k => by
  unfold D.ok at h1 h2
  rw [Bool.and_eq_true] at h1 h2
  exact ⟨_, _, Rel.dp _ _ r1 h1.1, Rel.dp _ _ r2 h2.1, h1.2, h2.2, k _ μ _ H Fr.refl c (.bl _) q⟩
theorem ro_eqI {i j : Int} (q : Φ (.bl (decide (i = j))) μ) : RO K rEq (.int i) (.int j) μ Φ := fun H x y c r1 r2 Q k => by
  cases r1; cases r2
  refine ⟨rfl, ?_⟩
  have e : decide (V.int i = V.int j) = decide (i = j) := by simp
  rw [e]
  exact k _ μ _ H Fr.refl c (.bl _) q
theorem ro_neI {i j : Int} (q : Φ (.bl (!decide (i = j))) μ) : RO K rNe (.int i) (.int j) μ Φ := fun H x y c r1 r2 Q k => by
  cases r1; cases r2
  refine ⟨rfl, ?_⟩
  have e : decide (V.int i = V.int j) = decide (i = j) := by simp
  rw [e]
  exact k _ μ _ H Fr.refl c (.bl _) q
theorem ro_eqB {i j : Bool} (q : Φ (.bl (decide (i = j))) μ) : RO K rEq (.bl i) (.bl j) μ Φ := fun H x y c r1 r2 Q k => by
  cases r1; cases r2
  refine ⟨rfl, ?_⟩
  have e : decide (V.bl i = V.bl j) = decide (i = j) := by simp
  rw [e]
  exact k _ μ _ H Fr.refl c (.bl _) q
theorem ro_neB {i j : Bool} (q : Φ (.bl (!decide (i = j))) μ) : RO K rNe (.bl i) (.bl j) μ Φ := fun H x y c r1 r2 Q k => by
  cases r1; cases r2
  refine ⟨rfl, ?_⟩
  have e : decide (V.bl i = V.bl j) = decide (i = j) := by simp
  rw [e]
  exact k _ μ _ H Fr.refl c (.bl _) q
theorem ro_eqS {i j : Str} (q : Φ (.bl (decide (i = j))) μ) : RO K rEq (.str i) (.str j) μ Φ := fun H x y c r1 r2 Q k => by
  cases r1; cases r2
  refine ⟨rfl, ?_⟩
  have e : decide (V.str i = V.str j) = decide (i = j) := by simp
  rw [e]
  exact k _ μ _ H Fr.refl c (.bl _) q
theorem rc_abs {i : Int} (q : Φ (.int (if i < 0 then -i else i)) μ) : RC K (fun xs H Q => ∃ i, xs = [V.int i] ∧ Q (.int (if i < 0 then -i else i)) H) [.int i] μ Φ := fun H xs c r1 Q k => by
  cases r1 with
  | cons a b => cases a; cases b; exact ⟨i, rfl, k _ μ _ H Fr.refl c (.int _) q⟩
theorem rc_max {i j : Int} (q : Φ (.int (if j > i then j else i)) μ) : RC K (fun xs H Q => ∃ i j, xs = [V.int i, V.int j] ∧ Q (.int (if j > i then j else i)) H) [.int i, .int j] μ Φ := fun H xs c r1 Q k => by
  cases r1 with
  | cons a b => cases a; cases b with
    | cons a b => cases a; cases b; exact ⟨i, j, rfl, k _ μ _ H Fr.refl c (.int _) q⟩
theorem rc_min {i j : Int} (q : Φ (.int (if j < i then j else i)) μ) : RC K (fun xs H Q => ∃ i j, xs = [V.int i, V.int j] ∧ Q (.int (if j < i then j else i)) H) [.int i, .int j] μ Φ := fun H xs c r1 Q k => by
  cases r1 with
  | cons a b => cases a; cases b with
    | cons a b => cases a; cases b; exact ⟨i, j, rfl, k _ μ _ H Fr.refl c (.int _) q⟩
theorem rc_intB {b : Bool} (q : Φ (.int (if b then 1 else 0)) μ) : RC K (fun xs H Q => (∃ i, xs = [V.int i] ∧ Q (.int i) H) ∨ ∃ k, xs = [V.bl k] ∧ Q (.int (if k then 1 else 0)) H) [.bl b] μ Φ := fun H xs c r1 Q k => by
  cases r1 with
  | cons a b => cases a; cases b; exact .inr ⟨_, rfl, k _ μ _ H Fr.refl c (.int _) q⟩
theorem rc_intI {b : Int} (q : Φ (.int b) μ) : RC K (fun xs H Q => (∃ i, xs = [V.int i] ∧ Q (.int i) H) ∨ ∃ k, xs = [V.bl k] ∧ Q (.int (if k then 1 else 0)) H) [.int b] μ Φ := fun H xs c r1 Q k => by
  cases r1 with
  | cons a b => cases a; cases b; exact .inl ⟨_, rfl, k _ μ _ H Fr.refl c (.int _) q⟩
theorem rc_len {ds : List D} (h : seqD μ d = some ds) (q : Φ (.int ds.length) μ) : RC K (fun xs H Q => ∃ x n, xs = [x] ∧ LenV K x H n ∧ Q (.int n) H) [d] μ Φ := fun H xs c r1 Q k => by
  cases r1 with
  | cons a b =>
    cases b
    obtain ⟨p, xs, rfl, hq, hr⟩ := seq_of c a h
    refine ⟨_, ds.length, rfl, ?_, k _ μ _ H Fr.refl c (.int _) q⟩
    rcases hq with hq | hq
    · exact .inl ⟨xs, hq, hr.length.symm⟩
    · exact .inr ⟨xs, hq, hr.length.symm⟩
theorem rc_lenS {s : Str} (h : s.length ≤ sizeLine) (q : Φ (.int s.length) μ) : RC K (fun xs H Q => ∃ x n, xs = [x] ∧ LenV K x H n ∧ Q (.int n) H) [.str s] μ Φ := fun H xs c r1 Q k => by
  cases r1 with
  | cons a b => cases a; cases b; exact ⟨_, _, rfl, ⟨h, rfl⟩, k _ μ _ H Fr.refl c (.int _) q⟩
theorem rc_tuple {ds : List D} (h : seqD μ d = some ds) (q : Φ (.tup ds) μ) : RC K (fun xs H Q => ∃ p ys, xs = [V.ref p] ∧ ((SqL K H p ys ∧ ∀ l, H l = none → Q (.ref l) (upd H l (.tup ys))) ∨ (SqT K H p ys ∧ Q (.ref p) H))) [d] μ Φ := fun H xs c r1 Q k => by
  cases r1 with
  | cons a b =>
    cases b
    cases a with
    | tup ht hr =>
      cases h
      exact ⟨_, _, rfl, .inr ⟨ht.sq, k _ μ _ H Fr.refl c (.tup ht hr) q⟩⟩
    | rol ht hr =>
      cases h
      exact ⟨_, _, rfl, .inl ⟨ht.sq, fun l hl => k _ μ _ _ (fr_new hl) (con_new hl c) (.tup (.inl upd_same) (Rels.mono (tx_new hl) _ _ hr)) q⟩⟩
    | ref p =>
      unfold seqD at h
      simp only at h
      split at h
      · rename_i ds' e
        cases h
        obtain ⟨xs, hx, hr⟩ := c _ _ e
        exact ⟨_, xs, rfl, .inl ⟨SqL.of hx, fun l hl => k _ μ _ _ (fr_new hl) (con_new hl c) (.tup (.inl upd_same) (Rels.mono (tx_new hl) _ _ hr)) q⟩⟩
      · cases h
    | non => cases h
    | bl => cases h
    | int => cases h
    | str => cases h
    | ty => cases h
theorem rels_bl : ∀ {xs : List V} {bs : List Bool}, Rels K H xs (bs.map D.bl) → xs = bs.map V.bl
  | [], [], .nil => rfl
  | _ :: _, _ :: _, .cons a b => by cases a; rw [rels_bl b]; rfl
theorem rc_all {a : Addr} {bs : List Bool} (h : μ a = some (.lst (bs.map D.bl))) (q : Φ (.bl (bs.all id)) μ) : RC K (rAll K) [.ref a] μ Φ := fun H xs c r1 Q k => by
  cases r1 with
  | cons r b =>
    cases r; cases b
    obtain ⟨xs, hx, hr⟩ := c _ _ h
    have e := rels_bl hr
    subst e
    exact ⟨a, bs, rfl, SqL.of hx, k _ μ _ H Fr.refl c (.bl _) q⟩
theorem m_append {to : TE} {a : Addr} {ds : List D} (h : AE K to τ μ fun o μ1 => o = .ref a ∧ (∃ es, μ1 a = some (.lst es)) ∧ AE K te τ μ1 fun d μ2 => μ2 a = some (.lst ds) ∧ ds.length < sizeLine ∧ Φ .non (μ2.set a (.lst (ds ++ [d])))) :
    AE K (tBM K "list" rAppend to (tCons te tNil)) τ μ Φ := fun σ H s c Q k =>
  h σ H s c _ fun o μ1 v H1 f1 c1 r1 ⟨e, ⟨es, he⟩, p1⟩ => by
    subst e
    cases r1
    obtain ⟨xs, hx, hr⟩ := c1 a _ he
    refine ⟨.inl ⟨rfl, xs, SqL.of hx⟩, p1 σ H1 (s.mono (f1.tx c)) c1 _ fun d μ2 u H2 f2 c2 r2 ⟨h2, hz, q⟩ => ?_⟩
    obtain ⟨ys, hy, hr2⟩ := c2 a _ h2
    exact ⟨a, ys, u, rfl, rfl, hy, by rw [hr2.length]; exact hz, k _ _ _ _ ((f1.trans f2).trans (fr_mut h2)) (con_mut (m' := .lst (ds ++ [d])) c2 h2 ⟨_, upd_same, Rels.mono (tx_mut c2 h2) _ _ (hr2.append (.cons r2 .nil))⟩) .non q⟩
end
end Z
namespace Z
open PySem L2
/-- a promise by what it asks and gives over the store: P args store wish -/
abbrev PT3 := List D → M → (D → M → Prop) → Prop
def spI (K : PySem.W.Frag) (P : PT3) : Sp := fun vs H Q _ => ∃ ds μ Φ, Rels K H vs ds ∧ Z.Con K H μ ∧ P ds μ Φ ∧ ∀ d μ' v H', Fr μ μ' H H' → Z.Con K H' μ' → Rel K H' v d → Φ d μ' → Q v H'
def startD (n : Nat) (ds : List D) : T := ds.map some ++ List.replicate (n - ds.length) none
section
variable {K : PySem.W.Frag} {τ : T} {μ μ1 μ2 : M} {H H1 H2 : Hp} {σ : L2.St} {Φ Ψ : D → M → Prop} {ta tb tc te : TE} {r r' : R2} {t u : TT} {x y z d e : D} {N : AEnds} {ts us : TS} {P : PT3} {E : XK}
theorem slots_start {Ns : List Str} : ∀ {vs : List V} {ds : List D}, Rels K H vs ds → Slots K H (startD Ns.length ds) (L2.start Ns vs) := by
  intro vs ds r
  have hl := r.length
  refine ⟨by unfold startD L2.start; simp only [List.length_append, List.length_map, List.length_replicate]; omega, fun i d e => ?_⟩
  unfold startD at e
  by_cases hi : i < ds.length
  · rw [List.getElem?_append_left (by rw [List.length_map]; exact hi), List.getElem?_map] at e
    cases q : ds[i]? with
    | none => rw [q] at e; cases e
    | some d' =>
      rw [q] at e
      have e2 : d' = d := Option.some.inj (Option.some.inj e)
      subst e2
      obtain ⟨v, h1, h2⟩ := r.get q
      refine ⟨v, ?_, h2⟩
      unfold L2.start
      rw [List.getElem?_append_left (by rw [List.length_map]; omega), List.getElem?_map, h1]
      rfl
  · rw [List.getElem?_append_right (by rw [List.length_map]; omega), List.getElem?_replicate] at e
    split at e <;> cases e
theorem spI_len {vs : List V} {Q : VK} {n : Nat} (h : spI K P vs H Q E) (hn : ∀ ds μ Φ, P ds μ Φ → ds.length = n) : vs.length = n := by
  obtain ⟨ds, μ, Φ, r, _, p, _⟩ := h
  rw [r.length]; exact hn _ _ _ p
/-- a body keeps its promise -/
theorem body_ok {Ns : List Str} {vs : List V} {Q : VK} (h : spI K P vs H Q E) (hb : ∀ ds μ Φ, P ds μ Φ → AS K ts (startD Ns.length ds) μ { nx := fun _ μ' => Φ .non μ', rt := Φ }) :
    ts { nx := fun _ H' => Q .non H', rt := Q } (L2.start Ns vs) H := by
  obtain ⟨ds, μ, Φ, r, c, p, k⟩ := h
  exact hb ds μ Φ p _ H (slots_start r) c _ ⟨fun _ μ' _ H' f c' _ q => k .non μ' .non H' f c' .non q, fun d μ' v H' f c' r' q => k d μ' v H' f c' r' q, fun _ _ _ _ _ _ _ q => q.elim, fun _ _ _ _ _ _ _ q => q.elim, fun _ _ _ _ _ _ _ _ _ _ _ q => q.elim⟩
/-- a call -/
theorem a_call {ta : TA} (h : AA K ta τ μ fun ds μ1 => P ds μ1 Φ) : AE K (tCall (spI K P) [] E ta) τ μ Φ := fun σ H s c Q k =>
  h σ H s c _ fun ds μ1 vs H1 f1 c1 r1 p => by
    show spI K P (vs ++ []) H1 Q E
    rw [List.append_nil]
    exact ⟨ds, μ1, Φ, r1, c1, p, fun d μ' v H' f c' r q => k d μ' v H' (f1.trans f) c' r q⟩
end
end Z
namespace Z
open PySem L2
def sets {α : Type} : List (Option α) → List Nat → List α → List (Option α)
  | l, j :: js, d :: ds => sets (l.set j (some d)) js ds
  | l, _, _ => l
theorem wipe_at (σ : L2.St) (i : Nat) : ∀ vs : List Nat, (wipe σ vs)[i]? = if i ∈ vs then (σ[i]?).map fun _ => none else σ[i]?
  | [] => by simp [wipe]
  | v :: vs => by
    have ih := wipe_at σ i vs
    unfold wipe
    by_cases h : v = i
    · subst h
      rw [if_pos (List.mem_cons_self)]
      by_cases hl : v < (wipe σ vs).length
      · rw [List.getElem?_set_self hl]
        rw [wipe_length] at hl
        rw [List.getElem?_eq_getElem hl]
        rfl
      · rw [List.getElem?_eq_none (by rw [List.length_set]; omega)]
        rw [wipe_length] at hl
        rw [List.getElem?_eq_none (by omega)]
        rfl
    · rw [List.getElem?_set_ne h, ih]
      have e : (i ∈ v :: vs) = (i ∈ vs) := by
        rw [List.mem_cons]
        exact propext ⟨fun q => q.elim (fun z => absurd z.symm h) id, .inr⟩
      simp only [e]
theorem wipe_set {σ : L2.St} {j : Nat} {x : Option V} {vs : List Nat} (h : j ∈ vs) : wipe (σ.set j x) vs = wipe σ vs := by
  apply List.ext_getElem?
  intro i
  rw [wipe_at, wipe_at]
  by_cases hi : i ∈ vs
  · rw [if_pos hi, if_pos hi]
    by_cases e : j = i
    · subst e
      by_cases hl : j < σ.length
      · rw [List.getElem?_set_self hl, List.getElem?_eq_getElem hl]; rfl
      · rw [List.getElem?_eq_none (by rw [List.length_set]; omega), List.getElem?_eq_none (by omega)]
    · rw [List.getElem?_set_ne e]
  · rw [if_neg hi, if_neg hi, List.getElem?_set_ne (fun z => hi (by rw [← z]; exact h))]
theorem wipe_wipe {σ : L2.St} {vs : List Nat} : wipe (wipe σ vs) vs = wipe σ vs := by
  apply List.ext_getElem?
  intro i
  rw [wipe_at]
  by_cases hi : i ∈ vs
  · rw [if_pos hi, wipe_at, if_pos hi]
    cases σ[i]? <;> rfl
  · rw [if_neg hi]
theorem wipe_sets {vs : List Nat} : ∀ {σ : L2.St} {js : List Nat} {xs : List V}, (∀ j ∈ js, j ∈ vs) → wipe (sets σ js xs) vs = wipe σ vs
  | σ, [], xs, _ => by unfold sets; rfl
  | σ, j :: js, [], _ => by unfold sets; rfl
  | σ, j :: js, x :: xs, h => by
    unfold sets
    rw [wipe_sets (fun k hk => h k (List.mem_cons_of_mem _ hk)), wipe_set (h j List.mem_cons_self)]
section
variable {K : PySem.W.Frag} {τ : T} {μ μ1 μ2 : M} {H H1 H2 H' : Hp} {σ : L2.St} {Φ Ψ : D → M → Prop} {ta tb tc te : TE} {r r' : R2} {tt : TT} {x y z d e : D} {N : AEnds} {ts us : TS}
theorem slots_sets : ∀ {js : List Nat} {ds : List D} {vs : List V} {τ : T} {σ : L2.St}, Rels K H vs ds → Slots K H τ σ → Slots K H (sets τ js ds) (sets σ js vs)
  | [], _, _, _, _, _, s => by unfold sets; exact s
  | j :: js, _, _, _, _, .nil, s => by unfold sets; exact s
  | j :: js, _, _, _, _, .cons a b, s => by unfold sets; exact slots_sets b (s.set a j)
/-- the slots of a block: all of vs are stored by the target -/
theorem slots_block {js : List Nat} {ds : List D} {vs : List V} (s : Slots K H τ σ) (r : Rels K H vs ds) (hl : ds.length = js.length) : Slots K H (sets τ js ds) (sets (wipe σ js) js vs) := by
  -- a slot that js stores does not hang on what stood there
  have same : ∀ (js0 : List Nat) (js : List Nat) (vs : List V) (σ σ' : L2.St), σ.length = σ'.length → js.length = vs.length → (∀ i, i ∉ js → i ∉ js0 → σ[i]? = σ'[i]?) → (∀ i, i ∈ js0 → i ∉ js → σ[i]? = σ'[i]?) → sets σ js vs = sets σ' js vs := by
    intro js0 js
    induction js with
    | nil =>
      intro vs σ σ' hL _ h1 h2
      unfold sets
      apply List.ext_getElem?
      intro i
      by_cases hi : i ∈ js0
      · exact h2 i hi (by simp)
      · exact h1 i (by simp) hi
    | cons j js ih =>
      intro vs σ σ' hL hV h1 h2
      cases vs with
      | nil => simp at hV
      | cons v vs =>
        unfold sets
        refine ih vs _ _ (by simp [hL]) (by simpa using hV) (fun i hi hi0 => ?_) (fun i hi0 hi => ?_)
        · by_cases e : j = i
          · subst e
            by_cases hl : j < σ.length
            · rw [List.getElem?_set_self hl, List.getElem?_set_self (by omega)]
            · rw [List.getElem?_eq_none (by simp; omega), List.getElem?_eq_none (by simp; omega)]
          · rw [List.getElem?_set_ne e, List.getElem?_set_ne e]
            exact h1 i (by simp [hi]; exact fun z => e z.symm) hi0
        · by_cases e : j = i
          · subst e
            by_cases hl : j < σ.length
            · rw [List.getElem?_set_self hl, List.getElem?_set_self (by omega)]
            · rw [List.getElem?_eq_none (by simp; omega), List.getElem?_eq_none (by simp; omega)]
          · rw [List.getElem?_set_ne e, List.getElem?_set_ne e]
            exact h2 i hi0 (by simp [hi]; exact fun z => e z.symm)
  have e : sets (wipe σ js) js vs = sets σ js vs := by
    refine same [] js vs _ _ (by rw [wipe_length]) (by rw [r.length, hl]) (fun i hi _ => ?_) (fun i hi _ => by simp at hi)
    rw [wipe_at, if_neg hi]
  rw [e]
  exact slots_sets r s
/-- how a target takes an item apart -/
def TgOk (K : PySem.W.Frag) (g : TG) (js : List Nat) (dec : D → List D → Prop) : Prop :=
  ∀ d ds v σ H, dec d ds → Rel K H v d → ∀ Q : L2.St → Hp → Prop, (∀ vs, Rels K H vs ds → Q (sets σ js vs) H) → g v σ H Q
theorem tg_name {j : Nat} : TgOk K (gName j) [j] fun d ds => ds = [d] := fun d ds v σ H h r Q q => by
  subst h
  exact q [v] (.cons r .nil)
theorem tg_2 {i j : Nat} : TgOk K (gTup K 2 (gCons (gName i) (gCons (gName j) gNil))) [i, j] fun d ds => d = .tup ds ∧ ds.length = 2 := fun d ds v σ H h r Q q => by
  obtain ⟨e, hl⟩ := h
  subst e
  cases r with
  | @tup a xs _ ht hr =>
    have hx := hr.length
    match xs, hx.trans hl with
    | [x, y], _ => exact ⟨a, _, rfl, ht.sq, rfl, x, _, rfl, y, _, rfl, rfl, q _ hr⟩
theorem tg_3 {i j k : Nat} : TgOk K (gTup K 3 (gCons (gName i) (gCons (gName j) (gCons (gName k) gNil)))) [i, j, k] fun d ds => d = .tup ds ∧ ds.length = 3 := fun d ds v σ H h r Q q => by
  obtain ⟨e, hl⟩ := h
  subst e
  cases r with
  | @tup a xs _ ht hr =>
    have hx := hr.length
    match xs, hx.trans hl with
    | [x, y, z], _ => exact ⟨a, _, rfl, ht.sq, rfl, x, _, rfl, y, _, rfl, z, _, rfl, rfl, q _ hr⟩
theorem tg_4 {i j k l : Nat} : TgOk K (gTup K 4 (gCons (gName i) (gCons (gName j) (gCons (gName k) (gCons (gName l) gNil))))) [i, j, k, l] fun d ds => d = .tup ds ∧ ds.length = 4 := fun d ds v σ H h r Q q => by
  obtain ⟨e, hl⟩ := h
  subst e
  cases r with
  | @tup a xs _ ht hr =>
    have hx := hr.length
    match xs, hx.trans hl with
    | [x, y, z, w], _ => exact ⟨a, _, rfl, ht.sq, rfl, x, _, rfl, y, _, rfl, z, _, rfl, w, _, rfl, rfl, q _ hr⟩
/-- what a turn of a comprehension must show -/
def LcTurn (K : PySem.W.Frag) (τ : T) (tt : TT) (te : TE) (js : List Nat) (dec : D → List D → Prop) (x : D) (acc : List D) (μ : M) (P : List D → M → Prop) : Prop :=
  ∃ xs, dec x xs ∧ xs.length = js.length ∧ AT K tt (sets τ js xs) μ fun b μ1 => if b = true then AE K te (sets τ js xs) μ1 fun y μ2 => acc.length < sizeLine ∧ P (acc ++ [y]) μ2 else P acc μ1
/-- the list that is made is at Dl, outside of the store -/
structure LcAt (K : PySem.W.Frag) (Dl : Addr) (μ0 : M) (H0 : Hp) (acc : List D) (μ' : M) (H' : Hp) : Prop where
  fr : Fr μ0 μ' H0 H'
  con : Z.Con K H' μ'
  no : μ' Dl = none
  at_ : ∃ vs, H' Dl = some (.lst vs) ∧ Rels K H' vs acc
theorem upd_out {Dl : Addr} {vs : List V} {o : HO} (c : Z.Con K H μ) (no : μ Dl = none) (h : H Dl = some (.lst vs)) (ho : ∀ xs, o ≠ .tup xs) : Tx H (upd H Dl o) ∧ Z.Con K (upd H Dl o) μ := by
  have t : Tx H (upd H Dl o) := ⟨fun a xs e => by rw [upd_ne (fun z => by subst z; rw [h] at e; cases e)]; exact e, fun a ob xs e => by rw [upd_ne (fun z => by subst z; rw [h] at e; cases e)]; exact e,
    fun a q e => by rw [upd_ne (fun z => by subst z; rw [h] at e; unfold LamX.CodeO at e; cases e)]; exact e⟩
  exact ⟨t, fun a m e => (c a m e).mono t (upd_ne (fun z => by subst z; rw [no] at e; cases e))⟩
theorem lc_step {g : TG} {js : List Nat} {dec : D → List D → Prop} {Dl : Addr} {μ0 μ' : M} {H0 : Hp} {acc : List D} {P : List D → M → Prop} {Nx : Hp → Prop} {v : V} (hD : H0 Dl = none) (hg : TgOk K g js dec) (s : Slots K H0 τ σ) (c0 : Z.Con K H0 μ0) (L : LcAt K Dl μ0 H0 acc μ' H') (rx : Rel K H' v x) (ht : LcTurn K τ tt te js dec x acc μ' P)
    (hn : ∀ acc2 μ2 H2, LcAt K Dl μ0 H0 acc2 μ2 H2 → P acc2 μ2 → Nx H2) :
    g v (wipe σ js) H' fun σ2 H2 => wipe σ2 js = wipe σ js ∧ tt σ2 H2 fun b H3 => if b = true then te σ2 H3 fun y H4 => ∃ acc, H4 Dl = some (.lst acc) ∧ acc.length < sizeLine ∧ Nx (upd H4 Dl (.lst (acc ++ [y]))) else Nx H3 := by
  obtain ⟨xs, hd, hl, ht⟩ := ht
  obtain ⟨vs0, hv0, hr0⟩ := L.at_
  refine hg x xs v _ H' hd rx _ fun vs hvs => ⟨by rw [wipe_sets (fun _ h => h), wipe_wipe], ?_⟩
  have s' : Slots K H' (sets τ js xs) (sets (wipe σ js) js vs) := slots_block (s.mono (L.fr.tx c0)) hvs hl
  refine ht _ H' s' L.con _ fun b μ1 H1 f1 c1 p => ?_
  have n1 : μ1 Dl = none := (f1 Dl _ L.no hv0).2
  have h1 : H1 Dl = some (.lst vs0) := (f1 Dl _ L.no hv0).1
  cases b with
  | false => exact hn acc μ1 H1 ⟨L.fr.trans f1, c1, n1, vs0, h1, Rels.mono (f1.tx L.con) _ _ hr0⟩ p
  | true =>
    refine (show AE K te _ μ1 _ from p) _ H1 (s'.mono (f1.tx L.con)) c1 _ fun y μ2 w H2 f2 c2 r2 ⟨hz, p2⟩ => ?_
    have n2 : μ2 Dl = none := (f2 Dl _ n1 h1).2
    have h2 : H2 Dl = some (.lst vs0) := (f2 Dl _ n1 h1).1
    have hr2 : Rels K H2 vs0 acc := Rels.mono ((f1.trans f2).tx L.con) _ _ hr0
    obtain ⟨t3, c3⟩ := upd_out (o := .lst (vs0 ++ [w])) c2 n2 h2 (fun _ z => by cases z)
    refine ⟨vs0, h2, by rw [hr0.length]; exact hz, hn _ μ2 _ ⟨fun a o n e => ?_, c3, n2, _, upd_same, Rels.mono t3 _ _ (hr2.append (.cons r2 .nil))⟩ p2⟩
    have f := (L.fr.trans f1).trans f2
    obtain ⟨e2, m2⟩ := f a o n e
    exact ⟨by rw [upd_ne (ne_of_none e hD)]; exact e2, m2⟩
theorem lc_start {Dl : Addr} (c : Z.Con K H μ) (hD : H Dl = none) : LcAt K Dl μ H [] μ (upd H Dl (.lst [])) :=
  ⟨fr_new hD, con_new hD c, c.free hD, [], upd_same, .nil⟩
/-- pure elements: a filter and a map -/
theorem at_yes {Θ : Bool → M → Prop} (h : Θ true μ) : AT K tYes τ μ Θ := fun σ H s c Q k => k true μ H Fr.refl c h
end
end Z
namespace Z
open PySem L2
section
variable {K : PySem.W.Frag} {τ : T} {μ μ1 μ2 : M} {H H1 H2 H' : Hp} {σ : L2.St} {Φ Ψ : D → M → Prop} {ta tb tc te : TE} {r r' : R2} {tt : TT} {x y z d e : D} {N : AEnds} {ts us : TS}
theorem s_par3 {i j l : Nat} {ta : TA} (h : AA K ta τ μ fun ds μ' => ∃ d e w, ds = [d, e, w] ∧ N.nx (((τ.set i (some d)).set j (some e)).set l (some w)) μ') : AS K (tPar3 i j l ta) τ μ N := fun σ H s c E k =>
  h σ H s c _ fun ds μ' vs H' f c' r ⟨d, e, w, q, p⟩ => by
    subst q
    cases r with
    | cons r1 r2 =>
      cases r2 with
      | cons r2 r3 =>
        cases r3 with
        | cons r3 r4 =>
          cases r4
          exact ⟨_, _, _, rfl, k.nx _ μ' _ H' f c' ((((s.mono (f.tx c)).set r1 i).set r2 j).set r3 l) p⟩
def tyn (μ : M) : D → Option String
  | .non => some "NoneType"
  | .bl _ => some "bool"
  | .int _ => some "int"
  | .str _ => some "str"
  | .tup _ => some "tuple"
  | .rol _ => some "list"
  | .ref a => match μ a with
    | some (.lst _) => some "list"
    | some (.dK _) => some "dict"
    | some (.dT _) => some "dict"
    | _ => none
  | .ty _ => none
theorem tyx_of {v : V} {n : String} (c : Z.Con K H μ) (r : Rel K H v d) (h : tyn μ d = some n) : TyX K H v (.type n) := by
  cases r with
  | non => cases h; exact .base .non
  | bl => cases h; exact .base (.bl _)
  | int => cases h; exact .base (.int _)
  | str => cases h; exact .base (.str _)
  | ty => cases h
  | tup ht hr =>
    cases h
    cases ht with
    | inl ht => exact .base (.tup ht)
  | rol ht hr =>
    cases h
    rcases ht with ⟨o, ht⟩ | ⟨o, its, m, h1, h2, _⟩
    · exact .base (.frz ht)
    · exact .kList h1 h2
  | ref a =>
    unfold tyn at h
    simp only at h
    split at h
    · rename_i e; cases h; obtain ⟨xs, hx, _⟩ := c _ _ e; exact .base (.lst hx)
    · rename_i e; cases h; obtain ⟨xs, hx, _⟩ := c _ _ e; exact .base (.dK hx)
    · rename_i e; cases h; obtain ⟨xs, hx, _⟩ := c _ _ e; exact .base (.dT hx)
    · cases h
theorem rc_isi {n m : String} {b : Bool} (h : tyn μ d = some n) (hk : kitB n m = some b) (q : Φ (.bl b) μ) : RC K (rIsi K) [d, .ty m] μ Φ := fun H xs c r1 Q k => by
  cases r1 with
  | cons a r2 =>
    cases r2 with
    | cons a2 r3 =>
      cases a2; cases r3
      exact ⟨_, _, .type n, .type m, b, rfl, .ty m, tyx_of c a h, kit_ty hk, k _ μ _ H Fr.refl c (.bl _) q⟩
theorem a_chain (h : AE K ta τ μ fun d μ1 => AE K tb τ μ1 fun e μ2 => RO K r d e μ2 fun z μ3 => ∃ b, z = .bl b ∧ if b = true then AE K tc τ μ3 fun w μ4 => RO K r' e w μ4 Φ else Φ (.bl false) μ3) : AE K (tChain r r' ta tb tc) τ μ Φ := fun σ H s c Q k =>
  h σ H s c _ fun d μ1 v H1 f1 c1 r1 p1 => p1 σ H1 (s.mono (f1.tx c)) c1 _ fun e μ2 u H2 f2 c2 r2 p2 =>
    p2 H2 v u c2 (Rel.mono (f2.tx c1) _ _ r1) r2 _ fun z μ3 w H3 f3 c3 rz ⟨b, ez, p3⟩ => by
      subst ez
      cases rz
      refine ⟨b, rfl, ?_⟩
      cases b with
      | false => exact k _ μ3 _ H3 ((f1.trans f2).trans f3) c3 (.bl false) (show Φ (.bl false) μ3 from p3)
      | true =>
        exact (show AE K tc τ μ3 _ from p3) σ H3 (s.mono (((f1.trans f2).trans f3).tx c)) c3 _ fun w μ4 w' H4 f4 c4 r4 p4 =>
          p4 H4 u w' c4 (Rel.mono ((f3.trans f4).tx c2) _ _ r2) r4 Q fun z μ5 o H5 f5 c5 rz pz => k z μ5 o H5 ((((f1.trans f2).trans f3).trans f4).trans f5) c5 rz pz
def rInS (K : PySem.W.Frag) (neg : Bool) : R2 := fun x y H Q => ∃ d ds, Dp K H x d ∧ (Dp K H y (.list ds) ∨ Dp K H y (.tuple ds)) ∧ SeqAt.shaped d = true ∧ SeqAt.shaped (.list ds) = true ∧ Q (.bl (if neg then !ds.any fun z => PyData.eqv z d else ds.any fun z => PyData.eqv z d)) H
theorem seq_dp {v : V} {ds : List D} (c : Z.Con K H μ) (r : Rel K H v d) (h : seqD μ d = some ds) (hp : D.plains ds = true) : Dp K H v (.list (D.pys ds)) ∨ Dp K H v (.tuple (D.pys ds)) := by
  cases r with
  | tup ht hr => cases h; exact .inr (.tup ht.sq (Rels.dp _ _ hr hp))
  | rol ht hr => cases h; exact .inl (.lst ht.sq (Rels.dp _ _ hr hp))
  | ref a =>
    unfold seqD at h
    simp only at h
    split at h
    · rename_i ds' e
      cases h
      obtain ⟨xs, h1, h2⟩ := c _ _ e
      exact .inl (.lst (SqL.of h1) (Rels.dp _ _ h2 hp))
    · cases h
  | non => cases h
  | bl => cases h
  | int => cases h
  | str => cases h
  | ty => cases h
def inD (d : D) (ds : List D) : Bool := ds.any fun z => D.eqv z d
theorem inD_pys (d : D) : ∀ ds : List D, (D.pys ds).any (fun z => PyData.eqv z (D.py d)) = inD d ds
  | [] => by simp [D.pys, inD]
  | x :: ds => by
    have ih := inD_pys d ds
    unfold inD at ih ⊢
    simp only [D.pys, List.any_cons, ih]
    rfl
theorem ro_inS {neg : Bool} {ds : List D} (hs : seqD μ e = some ds) (h1 : D.ok d = true) (h2 : D.ok (.tup ds) = true) (q : Φ (.bl (if neg then !inD d ds else inD d ds)) μ) : RO K (rInS K neg) d e μ Φ := fun H x y c r1 r2 Q k => by
  unfold D.ok at h1 h2
  rw [Bool.and_eq_true] at h1 h2
  have p2 : D.plains ds = true := by simpa only [D.plain] using h2.1
  refine ⟨_, D.pys ds, Rel.dp _ _ r1 h1.1, seq_dp c r2 hs p2, h1.2, ?_, ?_⟩
  · have h3 := h2.2
    simp only [D.py] at h3
    exact h3
  · rw [inD_pys]
    exact k _ μ _ H Fr.refl c (.bl _) q
end
/-- a def of the text with its promise -/
structure Def (P : Program) (w : World) (K : PySem.W.Frag) (mg : Str → Option Value) (base : Heap) (x : Str) (ps : List Str) (k : Nat) (sp : Sp) : Prop where
  ex : ∃ f fd, FnOk P w K mg base CX0 k f fd ps sp ∧ mg x = some (.ref f) ∧ PySem.W.keepIn K (.ref f) = true ∧ Binds K fd ps []
section
variable {X : Cx} {k : Nat} {ps : List Str} {sp : Sp} {x : Str} {p pos : Pos} {e : Expr} {es : List Expr} {t : TA}
theorem pe_def (G : Def X.prog X.w X.K X.mg X.base x ps k sp) (hr : Room k X.A) (hg : Gl X x)
    (ha : PA X (e :: es) t) (hdb : (x == ("__debug__" : Str)) = false := by decide) (he : starEach (e :: es) X.env = (false, eval e X.env) :: starEach es X.env := by rfl) (hpl : (backTo pos (starEach es X.env)).any (·.1) = false := by rfl) :
    PE X (.Call (.Name x p) (e :: es) [] pos) (tCall sp [] E0 t) := by
  obtain ⟨f, fd, F, hm, hk, hb⟩ := G.ex
  exact pe_call F hr hg hm hk hb .nil pass0 ha hdb he hpl
end
end Z
namespace Z
open PySem L2
theorem seq_ref {μ : M} {a : Addr} {ds : List D} (h : μ a = some (.lst ds)) : seqD μ (.ref a) = some ds := by
  show (match μ a with | some (.lst ds) => some ds | _ => none) = some ds
  rw [h]
def Sz (n : Nat) (x : Int) : Prop := x.natAbs < 2 ^ n
instance {n : Nat} {x : Int} : Decidable (Sz n x) := inferInstanceAs (Decidable (x.natAbs < 2 ^ n))
theorem sz_mono {a b : Nat} {x : Int} (h : Sz a x) (l : a ≤ b) : Sz b x := Nat.lt_of_lt_of_le h (Nat.pow_le_pow_right (by decide) l)
theorem sz_add {a b : Nat} {x y : Int} (h : Sz a x) (k : Sz b y) : Sz (max a b + 1) (x + y) := by
  have h1 : x.natAbs < 2 ^ (max a b) := Nat.lt_of_lt_of_le h (Nat.pow_le_pow_right (by decide) (Nat.le_max_left _ _))
  have h2 : y.natAbs < 2 ^ (max a b) := Nat.lt_of_lt_of_le k (Nat.pow_le_pow_right (by decide) (Nat.le_max_right _ _))
  have h3 := Int.natAbs_add_le x y
  unfold Sz
  rw [Nat.pow_succ]
  omega
theorem sz_neg {a : Nat} {x : Int} (h : Sz a x) : Sz a (-x) := by
  unfold Sz
  rw [Int.natAbs_neg]
  exact h
theorem sz_sub {a b : Nat} {x y : Int} (h : Sz a x) (k : Sz b y) : Sz (max a b + 1) (x - y) := by
  rw [Int.sub_eq_add_neg]
  exact sz_add h (sz_neg k)
theorem sz_mul {a b : Nat} {x y : Int} (h : Sz a x) (k : Sz b y) : Sz (a + b) (x * y) := wide_lt h k
theorem sz_mod {a : Nat} {x y : Int} (hy : 0 < y) (k : Sz a y) : Sz a (x % y) := by
  have h1 := Int.emod_nonneg x (by omega : y ≠ 0)
  have h2 := Int.emod_lt_of_pos x hy
  have k' : y.natAbs < 2 ^ a := k
  unfold Sz
  omega
theorem sz_lt {a : Nat} {x y : Int} (h0 : 0 ≤ x) (h1 : x < y) (k : Sz a y) : Sz a x := by
  have k' : y.natAbs < 2 ^ a := k
  unfold Sz
  omega
theorem sz_b {b : Bool} : Sz 1 (if b then 1 else 0) := by cases b <;> decide
theorem sz_128 {x : Int} (h : decide (x.natAbs < 2 ^ 128) = true) : Sz 128 x := of_decide_eq_true h
theorem sz_2 {x : Int} (h : decide (x.natAbs < 2 ^ 2) = true) : Sz 2 x := of_decide_eq_true h
theorem sz_8 {x : Int} (h : decide (x.natAbs < 2 ^ 8) = true) : Sz 8 x := of_decide_eq_true h
theorem sz_32 {x : Int} (h : decide (x.natAbs < 2 ^ 32) = true) : Sz 32 x := of_decide_eq_true h
theorem hu65_of {k : Nat} {A : Around} (hr : Room k A) : A.units + 65 < cLine := by have := hr.un; omega
theorem mulw_of {a b : Nat} {x y : Int} (h : Sz a x) (k : Sz b y) (l : (a + 1) + (b + 1) ≤ 1000000) : CMulW x y :=
  wide_mul (a := a + 1) (b := b + 1) (sz_mono h (Nat.le_succ a)) (sz_mono k (Nat.le_succ b)) (Nat.succ_pos _) (Nat.succ_pos _) l
theorem divw_of {b : Nat} {x y : Int} (h : 0 < y) (k : Sz b y) (l : b + 1 ≤ 9000) : CDivW x y := wide_div (b := b + 1) h (sz_mono k (Nat.le_succ b)) (Nat.succ_pos _) l
abbrev pt (x y : Int) : D := .tup [.int x, .int y]
section
variable {X : Cx} {K : PySem.W.Frag}
theorem ix_seqK (h : X.K = K) : IxR X (rIx K) := by subst h; exact ix_seq
theorem op_neDK (h : X.K = K) (hu : X.A.units + 64 < cLine) : OpR X (compareOp .NotEq) (rNeD K) := by subst h; exact op_neD hu
theorem call_isiK1 (h : X.K = K) : CallR X (.builtin "isinstance") (rIsi K) := by subst h; exact call_isi
theorem call_lenK (h : X.K = K) : CallR X (.builtin "len") (fun xs H Q => ∃ x n, xs = [x] ∧ LenV K x H n ∧ Q (.int n) H) := by subst h; exact call_len
theorem cr_allK (h : X.K = K) (hc : X.calm = true) : CallR X (.builtin "all") (rAll K) := by subst h; exact cr_all hc
theorem call_tupleK (h : X.K = K) : CallR X (.type "tuple") (fun xs H Q => ∃ p ys, xs = [V.ref p] ∧ ((SqL K H p ys ∧ ∀ l, H l = none → Q (.ref l) (upd H l (.tup ys))) ∨ (SqT K H p ys ∧ Q (.ref p) H))) := by subst h; exact call_tuple_of
theorem pi_listK {tg l : Expr} {tl : TE} (h : X.K = K) (hl : PE X l tl) : PI X tg l (iList K tl) := by subst h; exact pi_list hl
theorem pi_tupK {tg l : Expr} {tl : TE} (h : X.K = K) (hl : PE X l tl) : PI X tg l (iTup K tl) := by subst h; exact pi_tup hl
end
end Z
namespace Z
open PySem L2
def P_law : PT3 := fun ds μ Φ => ∃ ns : List Int, ds = [.rol (ns.map D.int)] ∧ ns.length ≤ 63 ∧ ∀ μ', Φ (.bl true) μ'
theorem rels_map {K : PySem.W.Frag} {H : Hp} : ∀ ns : List Int, Rels K H (ns.map V.int) (ns.map D.int)
  | [] => .nil
  | n :: ns => .cons (.int n) (rels_map ns)
theorem law_start {K : PySem.W.Frag} {H : Hp} {a : Addr} {ns : List Int} (hl : ns.length ≤ 63) (hO : Only H) (hS : SqL K H a (ns.map V.int)) : spI K P_law [.ref a] H (fun v _ => v = .bl true) fun _ _ _ => False := by
  have hr : RolAt K H a (ns.map V.int) := by
    rcases hS with (h | ⟨o, h⟩) | h
    · rcases hO a with e | ⟨o, xs, e⟩
      · rw [e] at h; cases h
      · rw [e] at h; cases h
    · exact .inl ⟨o, h⟩
    · exact .inr h
  refine ⟨[.rol (ns.map D.int)], fun _ => none, fun d _ => d = .bl true, .cons (.rol hr (rels_map ns)) .nil, fun a m e => (by cases e), ⟨ns, rfl, hl, fun _ => rfl⟩, fun d μ' v H' f c r e => ?_⟩
  subst e
  cases r
  rfl
theorem len_law (ds : List D) (μ : M) (Φ : D → M → Prop) (h : P_law ds μ Φ) : ds.length = 1 := by
  obtain ⟨ns, rfl, _⟩ := h
  rfl
/-- a bag: what its second number is -/
def BgOk (m : Int) : Prop := 0 ≤ m ∧ m < 2147483648
def P_l_bag : PT3 := fun ds μ Φ => ∃ (ns : List Int) (k : Int), ds = [.rol (ns.map D.int), .int k] ∧ 0 ≤ k ∧ k ≤ 1000 ∧ ∀ p c m, μ p = none → BgOk m → Φ (.ref p) (μ.set p (.lst [.int c, .int m]))
theorem len_l_bag (ds : List D) (μ : M) (Φ : D → M → Prop) (h : P_l_bag ds μ Φ) : ds.length = 2 := by
  obtain ⟨_, _, rfl, _⟩ := h
  rfl
def P_l_take : PT3 := fun ds μ Φ => ∃ (b : Addr) (n c m : Int), ds = [.ref b, .int n] ∧ μ b = some (.lst [.int c, .int m]) ∧ BgOk m ∧ 0 < n ∧ Sz 4000 n ∧ ∀ d c' m', 0 ≤ d → d < n → Sz 4000 d → BgOk m' → Φ (.int d) (μ.set b (.lst [.int c', .int m']))
theorem len_l_take (ds : List D) (μ : M) (Φ : D → M → Prop) (h : P_l_take ds μ Φ) : ds.length = 2 := by
  obtain ⟨_, _, _, _, rfl, _⟩ := h
  rfl
theorem iteNT {A B : Prop} (h : B) : if (!true) = true then A else B := h
theorem iteNF {A B : Prop} (h : A) : if (!false) = true then A else B := h
/-- an if whose test is a comparison -/
theorem ite_d {p : Prop} [Decidable p] {A B : Prop} (h1 : p → A) (h2 : ¬ p → B) : if decide p = true then A else B := by
  by_cases h : p
  · rw [if_pos (decide_eq_true h)]; exact h1 h
  · rw [if_neg (by simpa using h)]; exact h2 h
theorem map_get {ns : List Int} {k : Int} (h0 : 0 ≤ k) (h1 : k < ns.length) : ∃ z, atI (ns.map D.int) k = some (.int z) := by
  obtain ⟨j, rfl⟩ := Int.eq_ofNat_of_zero_le h0
  have hj : j < ns.length := by omega
  exact ⟨ns[j], atI_nat (by rw [List.getElem?_map, List.getElem?_eq_getElem hj]; rfl)⟩
/-- an if, then a word of what holds behind it -/
theorem if_cut {K : PySem.W.Frag} {τ : T} {μ : M} {N : AEnds} {t1 t2 : TS} {b : Bool} (M0 : T → M → Prop) (h1 : b = true → AS K t1 τ μ { N with nx := M0 }) (h2 : b = false → AS K t2 τ μ { N with nx := M0 }) (k : ∀ τ' μ', M0 τ' μ' → N.nx τ' μ') :
    if b = true then AS K t1 τ μ N else AS K t2 τ μ N := by
  cases b with
  | true => rw [if_pos rfl]; exact (h1 rfl).imp k (fun _ _ h => h) (fun _ _ h => h) fun _ _ h => h
  | false => rw [if_neg Bool.false_ne_true]; exact (h2 rfl).imp k (fun _ _ h => h) (fun _ _ h => h) fun _ _ h => h
section
variable {K : PySem.W.Frag} {τ : T} {μ μ1 μ2 : M} {Φ : D → M → Prop} {tl te : TE} {tt : TT}
theorem sets1 {j : Nat} {x : D} : sets τ [j] [x] = τ.set j (some x) := rfl
theorem filt_step {f : D → D} {p : D → Bool} {ds : List D} {i : Nat} {x : D} (h : ds[i]? = some x) : (ds.take (i + 1)).filter p = (ds.take i).filter p ++ (if p x = true then [x] else []) := by
  rw [List.take_add_one, h, List.filter_append]
  congr 1
  simp only [Option.toList_some, List.filter_cons, List.filter_nil]
theorem lc_pure_turn {j : Nat} (f : D → D) (p : D → Bool) {ds : List D} {i : Nat} {x : D} (hz : ds.length < sizeLine) (hx : ds[i]? = some x)
    (ht : AT K tt (τ.set j (some x)) μ1 fun b μ2 => b = p x ∧ μ2 = μ1) (he : p x = true → AE K te (τ.set j (some x)) μ1 fun y μ2 => y = f x ∧ μ2 = μ1) :
    LcTurn K τ tt te [j] (fun d ds => ds = [d]) x (((ds.take i).filter p).map f) μ1 fun acc μ' => μ' = μ1 ∧ acc = ((ds.take (i + 1)).filter p).map f := by
  refine ⟨[x], rfl, rfl, ?_⟩
  rw [sets1]
  refine ht.imp fun b μ' ⟨e1, e2⟩ => ?_
  subst e2
  rw [filt_step (f := f) hx]
  cases b with
  | true =>
    rw [if_pos rfl]
    refine (he e1.symm).imp fun y μ' ⟨e3, e4⟩ => ?_
    subst e4
    refine ⟨?_, rfl, ?_⟩
    · rw [List.length_map]
      have h1 := List.length_filter_le p (ds.take i)
      have h2 : (ds.take i).length ≤ ds.length := by rw [List.length_take]; omega
      omega
    · rw [if_pos e1.symm, List.map_append, e3]
      rfl
  | false =>
    rw [if_neg Bool.false_ne_true]
    refine ⟨rfl, ?_⟩
    rw [if_neg (by rw [← e1]; exact Bool.false_ne_true), List.append_nil]
end
end Z
namespace Z
open PySem L2
/-- J yields xs in turn while G stands; what is at out is not in the store meanwhile -/
structure WalkD (K : PySem.W.Frag) (J : It) (xs : List D) (out : Addr → Prop) (G : Hp → Prop) : Prop where
  keep : ∀ H H' μ μ', Z.Con K H μ → (∀ a, out a → μ a = none) → G H → Fr μ μ' H H' → G H'
  oo : ∀ H a, G H → out a → ∃ o, H a = some o
  go : ∀ i H, i < xs.length → G H → J.go i H
  stop : ∀ i H, xs.length ≤ i → G H → J.stop i H
  yld : ∀ i H v H', i < xs.length → G H → J.yld i H v H' → ∃ x, xs[i]? = some x ∧ Rel K H' v x ∧ (H' = H ∨ ∃ T vs, H T = none ∧ H' = upd H T (.tup vs))
/-- how the store is put together again -/
structure Back (K : PySem.W.Frag) (μ μw : M) (H H1 : Hp) (back : M → M) : Prop where
  fr : ∀ μ' H', Fr μw μ' H1 H' → Fr μ (back μ') H H'
  con : ∀ μ' H', Fr μw μ' H1 H' → Z.Con K H' μ' → Z.Con K H' (back μ')
  nw : ∀ μ' p, H1 p = none → μ' p = none → back μ' p = none
  old : ∀ b o, μ b = none → H b = some o → H1 b = some o
/-- a source: what follows is told of the items, the store while it is walked, the way back -/
def AI (K : PySem.W.Frag) (wi : TI) (τ : T) (μ : M) (Ψ : List D → M → (M → M) → Prop) : Prop :=
  ∀ σ H, Slots K H τ σ → Z.Con K H μ → ∀ R : It → Hp → Prop,
    (∀ J xs out G H1 μw back, Tx H H1 → Z.Con K H1 μw → WalkD K J xs out G → G H1 → (∀ a, out a → μw a = none) → Back K μ μw H H1 back → Ψ xs μw back → R J H1) → wi σ H R
section
variable {K : PySem.W.Frag} {τ : T} {μ μ1 μ2 : M} {H H1 H2 H' : Hp} {σ : L2.St} {Φ : D → M → Prop} {ta tl te : TE} {tt : TT} {N : AEnds} {ts tb : TS} {g : TG} {wi : TI}
def turnB (N : AEnds) (back : M → M) (P : T → M → Prop) : AEnds := { nx := P, ct := P, rt := fun d μ' => N.rt d (back μ'), bk := fun τ' μ' => N.nx τ' (back μ'), W := N.W, cn := N.cn, xs := fun x dx τ' μ' => N.xs x dx τ' (back μ') }
/-- behind one yield -/
theorem yld_ok {T0 : Addr} {vs : List V} (c : Z.Con K H μ) (h : H T0 = none) : Fr μ μ H (upd H T0 (.tup vs)) ∧ Z.Con K (upd H T0 (.tup vs)) μ := ⟨fr_new h, con_new h c⟩
theorem s_for (h : AI K wi τ μ fun xs μw back => ∃ P : Nat → T → M → Prop, P 0 τ μw ∧ (∀ (i : Nat) x τ' μ', xs[i]? = some x → P i τ' μ' → AG K g x τ' μ' fun τ2 μ2 => AS K tb τ2 μ2 (turnB N back (P (i + 1)))) ∧ ∀ τ' μ', P xs.length τ' μ' → N.nx τ' (back μ')) :
    AS K (tFor wi g tb) τ μ N := fun σ H s c E k => by
  refine h σ H s c _ fun J xs out G H1 μw back tx c1 W g1 o1 B ⟨P, p0, hs, hd⟩ => ?_
  refine ⟨fun i m σ' H' => m = xs.length - i ∧ i ≤ xs.length ∧ ∃ τ' μ', Fr μw μ' H1 H' ∧ Z.Con K H' μ' ∧ Slots K H' τ' σ' ∧ P i τ' μ', ⟨xs.length, by omega, Nat.zero_le _, τ, μw, Fr.refl, c1, s.mono tx, p0⟩, ?_⟩
  rintro i m σ' H' ⟨rfl, hi, τ', μ', f, c', s', p⟩
  have gH : G H' := W.keep _ _ _ _ c1 o1 g1 f
  by_cases hlt : i < xs.length
  · refine .inr ⟨W.go i H' hlt gH, fun σ2 H2 => ∃ τ2 μ2, Fr μw μ2 H1 H2 ∧ Z.Con K H2 μ2 ∧ Slots K H2 τ2 σ2 ∧ P (i + 1) τ2 μ2, fun σ2 H2 ⟨τ2, μ2, f2, c2, s2, p2⟩ => ⟨xs.length - (i + 1), by omega, rfl, hlt, τ2, μ2, f2, c2, s2, p2⟩, fun v H2 y => ?_⟩
    obtain ⟨x, hx, rx, hH⟩ := W.yld i H' v H2 hlt gH y
    have fy : Fr μ' μ' H' H2 ∧ Z.Con K H2 μ' := by
      rcases hH with e | ⟨T0, vs, hT, e⟩
      · rw [e]; exact ⟨Fr.refl, c'⟩
      · rw [e]; exact yld_ok c' hT
    refine hs i x τ' μ' hx p σ' H2 v (s'.mono (fy.1.tx c')) fy.2 rx _ fun τ3 μ3 σ3 H3 f3 c3 s3 q => ?_
    have fa := (f.trans fy.1).trans f3
    refine q σ3 H3 s3 c3 _ ⟨fun τ4 μ4 σ4 H4 f4 c4 s4 p4 => ⟨τ4, μ4, fa.trans f4, c4, s4, p4⟩, fun d4 μ4 v4 H4 f4 c4 r4 p4 => ?_, fun τ4 μ4 σ4 H4 f4 c4 s4 p4 => ?_, fun τ4 μ4 σ4 H4 f4 c4 s4 p4 => ⟨τ4, μ4, fa.trans f4, c4, s4, p4⟩, fun x1 x2 x3 x4 x5 x6 x7 x8 f' c' s' p' => k.wx x1 x2 x3 _ x5 x6 x7 x8 (B.fr _ _ (fa.trans f')) (B.con _ _ (fa.trans f') c') s' p'⟩
    · exact k.rt d4 (back μ4) v4 H4 (B.fr _ _ (fa.trans f4)) (B.con _ _ (fa.trans f4) c4) r4 p4
    · exact k.nx τ4 (back μ4) σ4 H4 (B.fr _ _ (fa.trans f4)) (B.con _ _ (fa.trans f4) c4) s4 p4
  · have e : i = xs.length := by omega
    subst e
    exact .inl ⟨W.stop _ H' (Nat.le_refl _) gH, k.nx τ' (back μ') σ' H' (B.fr _ _ f) (B.con _ _ f c') s' (hd τ' μ' p)⟩
theorem a_lc {js : List Nat} {dec : D → List D → Prop} (hg : TgOk K g js dec)
    (h : AI K wi τ μ fun xs μw back => ∃ P : Nat → List D → M → Prop, P 0 [] μw ∧ (∀ (i : Nat) x acc μ', xs[i]? = some x → P i acc μ' → LcTurn K τ tt te js dec x acc μ' (P (i + 1))) ∧ ∀ acc μ', P xs.length acc μ' → ∀ p, back μ' p = none → Φ (.ref p) ((back μ').set p (.lst acc))) :
    AE K (tLc wi g tt te js) τ μ Φ := fun σ H s c Q k => by
  refine h σ H s c _ fun J xs out G H1 μw back tx c1 W g1 o1 B ⟨P, p0, hs, hd⟩ Dl hD => ?_
  have s1 := s.mono tx
  refine ⟨fun i m H' => m = xs.length - i ∧ i ≤ xs.length ∧ ∃ acc μ', LcAt K Dl μw H1 acc μ' H' ∧ P i acc μ', ⟨xs.length, by omega, Nat.zero_le _, [], μw, lc_start c1 hD, p0⟩, ?_⟩
  rintro i m H' ⟨rfl, hi, acc, μ', L, p⟩
  have gH : G H' := W.keep _ _ _ _ c1 o1 g1 L.fr
  by_cases hlt : i < xs.length
  · refine .inr ⟨W.go i H' hlt gH, fun H2 => ∃ acc2 μ2, LcAt K Dl μw H1 acc2 μ2 H2 ∧ P (i + 1) acc2 μ2, fun H2 ⟨acc2, μ2, L2, p2⟩ => ⟨xs.length - (i + 1), by omega, rfl, hlt, acc2, μ2, L2, p2⟩, fun v H2 y => ?_⟩
    obtain ⟨x, hx, rx, hH⟩ := W.yld i H' v H2 hlt gH y
    have L2 : LcAt K Dl μw H1 acc μ' H2 := by
      rcases hH with e | ⟨T0, vs, hT, e⟩
      · rw [e]; exact L
      · obtain ⟨f2, c2⟩ := yld_ok (vs := vs) L.con hT
        obtain ⟨ws, hw, hr⟩ := L.at_
        rw [e]
        exact ⟨L.fr.trans f2, c2, L.no, ws, by rw [upd_ne (fun z => by rw [z, hT] at hw; cases hw)]; exact hw, Rels.mono (tx_new hT) _ _ hr⟩
    exact lc_step hD hg s1 c1 L2 rx (hs i x acc μ' hx p) fun acc2 μ2 H3 L3 p3 => ⟨acc2, μ2, L3, p3⟩
  · have e : i = xs.length := by omega
    subst e
    obtain ⟨vs, hv, hr⟩ := L.at_
    refine .inl ⟨W.stop _ H' (Nat.le_refl _) gH, ?_⟩
    have hbn : back μ' Dl = none := B.nw _ _ hD L.no
    have fb := B.fr _ _ L.fr
    have cb := B.con _ _ L.fr L.con
    refine k _ _ _ H' (fun b o n e => ?_) (con_back (m := .lst acc) cb ⟨vs, hv, hr⟩) (.ref Dl) (hd acc μ' p Dl hbn)
    obtain ⟨e2, n2⟩ := fb b o n e
    have hb : b ≠ Dl := fun z => by
      have e3 := B.old b o n e
      rw [z, hD] at e3; cases e3
    exact ⟨e2, by rw [set_ne hb]; exact n2⟩
theorem back_id (f : Fr μ μ1 H H1) : Back K μ μ1 H H1 id := ⟨fun _ _ g => f.trans g, fun _ _ _ c => c, fun _ _ _ h => h, fun b o n e => (f b o n e).1⟩
/-- a list set aside -/
theorem back_set {a : Addr} {vs : List V} {ds : List D} (c1 : Z.Con K H1 μ1) (hl : μ1 a = some (.lst ds)) (hx : H1 a = some (.lst vs)) (hr : Rels K H1 vs ds) (f : Fr μ μ1 H H1) : Back K μ (μ1.del a) H H1 (fun μ' => μ'.set a (.lst ds)) where
  fr := fun μ' H' g => fr_back hl f g
  con := fun μ' H' g c => con_back (m := .lst ds) c ⟨vs, (g a _ del_same hx).1, Rels.mono (g.tx (c1.sub del_sub)) _ _ hr⟩
  nw := fun μ' p hp n => by
    rw [set_ne (fun z => by rw [z, hx] at hp; cases hp)]
    exact n
  old := fun b o n e => (f b o n e).1
theorem walk_T {a : Addr} {vs : List V} {ds : List D} (hr : Rels K H1 vs ds) : WalkD K (Itt K a) ds (fun _ => False) (fun H' => TupAt K H' a vs ∧ Rels K H' vs ds) where
  keep := fun H H' μ μ' c _ g f => ⟨g.1.mono (f.tx c), Rels.mono (f.tx c) _ _ g.2⟩
  oo := fun _ _ _ h => h.elim
  go := fun i H' hi g => by
    have hv : i < vs.length := by rw [hr.length]; exact hi
    exact ⟨vs, vs[i], g.1.sq, List.getElem?_eq_getElem hv⟩
  stop := fun i H' hi g => ⟨vs, g.1.sq, by rw [hr.length]; exact hi⟩
  yld := fun i H' v H2 hi g y => by
    obtain ⟨e, q⟩ := y
    obtain ⟨x, h1, h2⟩ := g.2.getV (q vs g.1.sq)
    subst e
    exact ⟨x, h1, h2, .inl rfl⟩
theorem walk_L {a : Addr} {vs : List V} {ds : List D} (hr : Rels K H1 vs ds) : WalkD K (Itl K a) ds (fun b => b = a) (fun H' => H' a = some (.lst vs) ∧ Rels K H' vs ds) where
  keep := fun H H' μ μ' c o g f => ⟨(f a _ (o a rfl) g.1).1, Rels.mono (f.tx c) _ _ g.2⟩
  oo := fun _ b g h => by subst h; exact ⟨_, g.1⟩
  go := fun i H' hi g => by
    have hv : i < vs.length := by rw [hr.length]; exact hi
    exact ⟨vs, vs[i], SqL.of g.1, List.getElem?_eq_getElem hv⟩
  stop := fun i H' hi g => ⟨vs, SqL.of g.1, by rw [hr.length]; exact hi⟩
  yld := fun i H' v H2 hi g y => by
    obtain ⟨e, q⟩ := y
    obtain ⟨x, h1, h2⟩ := g.2.getV (q vs (SqL.of g.1))
    subst e
    exact ⟨x, h1, h2, .inl rfl⟩
theorem walk_N {lo : Int} {n : Nat} : WalkD K (Itr lo n) ((List.range n).map fun (i : Nat) => D.int (lo + i)) (fun _ => False) (fun _ => True) where
  keep := fun _ _ _ _ _ _ _ _ => trivial
  oo := fun _ _ _ h => h.elim
  go := fun i H' hi _ => by
    have h : i < n := by simpa using hi
    exact h
  stop := fun i H' hi _ => by
    have h : n ≤ i := by simpa using hi
    exact h
  yld := fun i H' v H2 hi _ y => by
    obtain ⟨e, e2⟩ := y
    have h : i < n := by simpa using hi
    subst e e2
    exact ⟨.int (lo + i), by simp [h], .int _, .inl rfl⟩
variable {Ψ : List D → M → (M → M) → Prop}
theorem ai_T (h : AE K tl τ μ fun d μ1 => ∃ ds, d = .tup ds ∧ Ψ ds μ1 id) : AI K (iTup K tl) τ μ Ψ := fun σ H s c R k => h σ H s c _ fun d μ1 v H1 f1 c1 r1 ⟨ds, e, q⟩ => by
  subst e
  cases r1 with
  | @tup a xs _ ha hr => exact ⟨a, rfl, ⟨xs, ha.sq⟩, k _ ds _ _ H1 μ1 id (f1.tx c) c1 (walk_T hr) ⟨ha, hr⟩ (fun _ z => z.elim) (back_id f1) q⟩
theorem ai_L (h : AE K tl τ μ fun d μ1 => ∃ a ds, d = .ref a ∧ μ1 a = some (.lst ds) ∧ Ψ ds (μ1.del a) (fun μ' => μ'.set a (.lst ds))) : AI K (iList K tl) τ μ Ψ := fun σ H s c R k => h σ H s c _ fun d μ1 v H1 f1 c1 r1 ⟨a, ds, e, hl, q⟩ => by
  subst e
  cases r1
  obtain ⟨xs, hx, hr⟩ := c1 a _ hl
  exact ⟨a, rfl, ⟨xs, SqL.of hx⟩, k _ ds _ _ H1 (μ1.del a) _ (f1.tx c) (c1.sub del_sub) (walk_L hr) ⟨hx, hr⟩ (fun b z => by rw [z]; exact del_same) (back_set c1 hl hx hr f1) q⟩
theorem ai_1 {ta : TA} (h : AA K ta τ μ fun ds μ1 => ∃ n : Int, ds = [.int n] ∧ -(2 ^ 62) ≤ n ∧ n < 2 ^ 62 ∧ Ψ ((List.range n.toNat).map fun (i : Nat) => D.int (0 + i)) μ1 id) : AI K (iRng1 ta) τ μ Ψ := fun σ H s c R k => h σ H s c _ fun ds μ1 vs H1 f1 c1 r1 ⟨n, e, h1, h2, q⟩ => by
  subst e
  cases r1 with
  | cons r rr =>
    cases r
    cases rr
    exact ⟨n, rfl, h1, h2, k _ _ _ _ H1 μ1 id (f1.tx c) c1 walk_N trivial (fun _ z => z.elim) (back_id f1) q⟩
/-- a comprehension whose turns leave nothing, one name as target -/
theorem a_lc1 {j : Nat} (f : D → D) (p : D → Bool) (h : AI K wi τ μ fun xs μw back => xs.length < sizeLine ∧ (∀ x ∈ xs, AT K tt (τ.set j (some x)) μw fun b μ2 => b = p x ∧ μ2 = μw) ∧ (∀ x ∈ xs, p x = true → AE K te (τ.set j (some x)) μw fun y μ2 => y = f x ∧ μ2 = μw) ∧ ∀ q, back μw q = none → Φ (.ref q) ((back μw).set q (.lst ((xs.filter p).map f)))) :
    AE K (tLc wi (gName j) tt te [j]) τ μ Φ := a_lc tg_name (fun σ H s c R k => h σ H s c R fun J xs out G H1 μw back tx c1 W g1 o1 B ⟨hz, ht, he, q⟩ => k J xs out G H1 μw back tx c1 W g1 o1 B (by
  refine ⟨fun i acc μ' => μ' = μw ∧ acc = ((xs.take i).filter p).map f, ⟨rfl, rfl⟩, ?_, ?_⟩
  · rintro i x acc μ' hx ⟨rfl, rfl⟩
    exact lc_pure_turn f p hz hx (ht x (List.mem_of_getElem? hx)) (he x (List.mem_of_getElem? hx))
  · rintro acc μ' ⟨rfl, rfl⟩ a ha
    rw [List.take_length]
    exact q a ha))
end
end Z
namespace Z
open PySem L2
def Up (Φ : D → M → Prop) : D → M → Prop := fun d μ' => ∃ μ2, Sub μ2 μ' ∧ Φ d μ2
theorem up_of {Φ : D → M → Prop} {d : D} {μ2 μ' : M} (s : Sub μ2 μ') (h : Φ d μ2) : Up Φ d μ' := ⟨μ2, s, h⟩
theorem up {Φ : D → M → Prop} {d : D} {μ' : M} (h : Φ d μ') : Up Φ d μ' := ⟨μ', Sub.refl, h⟩
theorem body_okU {K : PySem.W.Frag} {H : Hp} {ts : TS} {P : PT3} {E : XK} {Ns : List Str} {vs : List V} {Q : VK} (h : spI K P vs H Q E) (hb : ∀ ds μ Φ, P ds μ Φ → AS K ts (startD Ns.length ds) μ { nx := fun _ μ' => Up Φ .non μ', rt := Up Φ }) :
    ts { nx := fun _ H' => Q .non H', rt := Q } (L2.start Ns vs) H := by
  obtain ⟨ds, μ, Φ, r, c, p, k⟩ := h
  refine hb ds μ Φ p _ H (slots_start r) c _ ⟨fun _ μ' _ H' f c' _ q => ?_, fun d μ' v H' f c' r' q => ?_, fun _ _ _ _ _ _ _ q => q.elim, fun _ _ _ _ _ _ _ q => q.elim, fun _ _ _ _ _ _ _ _ _ _ _ q => q.elim⟩
  · obtain ⟨μ2, sb, q⟩ := q
    exact k .non μ2 .non H' (f.sub sb) (c'.sub sb) .non q
  · obtain ⟨μ2, sb, q⟩ := q
    exact k d μ2 v H' (f.sub sb) (c'.sub sb) r' q
def SubB (b : Addr) (μ μ' : M) : Prop := ∀ a m, a ≠ b → μ a = some m → μ' a = some m
section
variable {μ μ' : M} {b l : Addr} {X Y : MO}
theorem sb_refl : SubB b μ μ := fun _ _ _ h => h
theorem sb_self (h : SubB b μ μ') : SubB b μ (μ'.set b Y) := fun a m n e => by rw [set_ne n]; exact h a m n e
theorem sb_new (h : SubB b μ μ') (hn : μ' l = none) : SubB b μ (μ'.set l Y) := fun a m n e => by
  have h2 := h a m n e
  rw [set_ne (fun z => by rw [z, hn] at h2; cases h2)]
  exact h2
theorem sb_sub (h : SubB b μ μ') : Sub (μ.set b X) (μ'.set b X) := fun a m e => by
  by_cases ha : a = b
  · subst ha; rw [set_same] at e ⊢; exact e
  · rw [set_ne ha] at e ⊢; exact h a m ha e
theorem sub_new (h : Sub μ μ') (hn : μ' l = none) : Sub μ (μ'.set l Y) := fun a m e => by
  have h2 := h a m e
  rw [set_ne (fun z => by rw [z, hn] at h2; cases h2)]
  exact h2
/-- a list of one's own, changed again -/
theorem sub_own (h : Sub μ μ') (hn : μ l = none) : Sub μ (μ'.set l Y) := fun a m e => by
  rw [set_ne (fun z => by rw [z, hn] at e; cases e)]
  exact h a m e
theorem none_ne {m : MO} (h : (μ.set b m) l = none) : l ≠ b := fun z => by subst z; rw [set_same] at h; cases h
theorem none_back {m : MO} (h : (μ.set b m) l = none) : μ l = none := by
  have n := none_ne h
  rw [set_ne n] at h
  exact h
end
abbrev Fq := Int × Int
abbrev Pl := Fq × Fq
end Z
namespace Z
open PySem L2
section
variable {K : PySem.W.Frag} {μ μ' : M} {Φ : D → M → Prop} {b l : Addr} {X : MO}
theorem ro_isB {a b : Bool} (q : Φ (.bl (decide (a = b))) μ) : RO K rIsB (.bl a) (.bl b) μ Φ := fun H x y c r1 r2 Q k => by
  cases r1; cases r2
  exact ⟨a, b, rfl, rfl, k _ μ _ H Fr.refl c (.bl _) q⟩
theorem ro_notB {a b : Bool} (q : Φ (.bl (!decide (a = b))) μ) : RO K rNotB (.bl a) (.bl b) μ Φ := fun H x y c r1 r2 Q k => by
  cases r1; cases r2
  exact ⟨a, b, rfl, rfl, k _ μ _ H Fr.refl c (.bl _) q⟩
theorem sb_end (h : SubB b μ μ') (e : μ' b = some X) : Sub (μ.set b X) μ' := fun a m q => by
  by_cases ha : a = b
  · subst ha; rw [set_same] at q; rw [e]; exact q
  · rw [set_ne ha] at q; exact h a m ha q
theorem sb_trans {μ2 : M} (h : SubB b μ μ') (k : SubB b μ' μ2) : SubB b μ μ2 := fun a m n e => k a m n (h a m n e)
end
structure Gd (n : Nat) (p : Fq) : Prop where
  pos : 0 < p.2
  s1 : Sz n p.1
  s2 : Sz n p.2
structure GdP (n : Nat) (p : Pl) : Prop where
  x : Gd n p.1
  y : Gd n p.2
theorem Gd.mono {n m : Nat} {p : Fq} (h : Gd n p) (l : n ≤ m) : Gd m p := ⟨h.pos, sz_mono h.s1 l, sz_mono h.s2 l⟩
theorem GdP.mono {n m : Nat} {p : Pl} (h : GdP n p) (l : n ≤ m) : GdP m p := ⟨h.x.mono l, h.y.mono l⟩
end Z
namespace Z
open PySem L2
def AO (K : PySem.W.Frag) (to : TO) (τ : T) (μ : M) (Θ : Option Int → M → Prop) : Prop :=
  ∀ σ H, Slots K H τ σ → Z.Con K H μ → ∀ R : Option Int → Hp → Prop, (∀ o μ' H', Fr μ μ' H H' → Z.Con K H' μ' → Θ o μ' → R o H') → to σ H R
/-- what a slice of d answers -/
def RS (K : PySem.W.Frag) (r : V → Option Int → Option Int → Hp → VK → Prop) (d : D) (lo hi : Option Int) (μ : M) (Φ : D → M → Prop) : Prop :=
  ∀ H x, Z.Con K H μ → Rel K H x d → ∀ Q : VK, (∀ z μ' v H', Fr μ μ' H H' → Z.Con K H' μ' → Rel K H' v z → Φ z μ' → Q v H') → r x lo hi H Q
def cutD (ds : List D) (lo hi : Option Int) : List D := (ds.drop (HT.sIx ds.length 0 lo)).take (HT.sIx ds.length ds.length hi - HT.sIx ds.length 0 lo)
section
variable {K : PySem.W.Frag} {τ : T} {μ μ1 μ2 : M} {H H1 H2 H' : Hp} {σ : L2.St} {Φ : D → M → Prop} {ta tl te : TE} {to tp : TO} {Θ : Option Int → M → Prop} {d e : D}
theorem ao_no (h : Θ none μ) : AO K tNoPart τ μ Θ := fun σ H s c R k => k none μ H Fr.refl c h
theorem ao_pt (h : AE K te τ μ fun d μ1 => ∃ i, d = .int i ∧ Θ (some i) μ1) : AO K (tPart te) τ μ Θ := fun σ H s c R k => h σ H s c _ fun d μ1 v H1 f1 c1 r1 ⟨i, e, q⟩ => by
  subst e
  cases r1
  exact ⟨i, rfl, k (some i) μ1 H1 f1 c1 q⟩
theorem a_sl {r : V → Option Int → Option Int → Hp → VK → Prop} (h : AE K te τ μ fun d μ1 => AO K to τ μ1 fun lo μ2 => AO K tp τ μ2 fun hi μ3 => RS K r d lo hi μ3 Φ) : AE K (L2.tSl r te to tp) τ μ Φ := fun σ H s c Q k =>
  h σ H s c _ fun d μ1 v H1 f1 c1 r1 p1 => p1 σ H1 (s.mono (f1.tx c)) c1 _ fun lo μ2 H2 f2 c2 p2 => p2 σ H2 (s.mono ((f1.trans f2).tx c)) c2 _ fun hi μ3 H3 f3 c3 p3 =>
    p3 H3 v c3 (Rel.mono ((f2.trans f3).tx c1) _ _ r1) Q fun z μ' w H' f c' rz pz => k z μ' w H' (((f1.trans f2).trans f3).trans f) c' rz pz
theorem Rels.cut {vs : List V} {ds : List D} (lo hi : Option Int) (r : Rels K H vs ds) : Rels K H (cutV vs lo hi) (cutD ds lo hi) := by
  unfold cutV cutD
  rw [r.length]
  exact (r.drop _).take _
theorem rs_ref {a : Addr} {ds : List D} {lo hi : Option Int} (h : μ a = some (.lst ds)) (q : ∀ p, μ p = none → Φ (.ref p) (μ.set p (.lst (cutD ds lo hi)))) : RS K (rSlL K) (.ref a) lo hi μ Φ := fun H x c r Q k => by
  cases r
  obtain ⟨xs, hx, hr⟩ := c a _ h
  exact ⟨a, xs, rfl, SqL.of hx, fun p hp => k _ _ _ _ (fr_put hp) (con_put (m := .lst (cutD ds lo hi)) hp c ⟨_, upd_same, Rels.mono (tx_new hp) _ _ (hr.cut lo hi)⟩) (.ref p) (q p (c.free hp))⟩
theorem rs_rol {ds : List D} {lo hi : Option Int} (q : ∀ p, μ p = none → Φ (.ref p) (μ.set p (.lst (cutD ds lo hi)))) : RS K (rSlL K) (.rol ds) lo hi μ Φ := fun H x c r Q k => by
  cases r with
  | @rol a xs _ ht hr => exact ⟨a, xs, rfl, ht.sq, fun p hp => k _ _ _ _ (fr_put hp) (con_put (m := .lst (cutD ds lo hi)) hp c ⟨_, upd_same, Rels.mono (tx_new hp) _ _ (hr.cut lo hi)⟩) (.ref p) (q p (c.free hp))⟩
/-- two lists of the store, put together -/
theorem ro_cat {a b : Addr} {ds es : List D} (h1 : μ a = some (.lst ds)) (h2 : μ b = some (.lst es)) (hz : ds.length + es.length ≤ sizeLine) (q : ∀ p, μ p = none → Φ (.ref p) (μ.set p (.lst (ds ++ es)))) : RO K rCat (.ref a) (.ref b) μ Φ := fun H x y c r1 r2 Q k => by
  cases r1
  cases r2
  obtain ⟨xs, hx, hr⟩ := c a _ h1
  obtain ⟨ys, hy, hr2⟩ := c b _ h2
  exact ⟨a, b, xs, ys, rfl, rfl, hx, hy, by rw [hr.length, hr2.length]; exact hz, fun p hp => k _ _ _ _ (fr_put hp) (con_put (m := .lst (ds ++ es)) hp c ⟨_, upd_same, Rels.mono (tx_new hp) _ _ (hr.append hr2)⟩) (.ref p) (q p (c.free hp))⟩
end
end Z
namespace ZL
open PySem PySem.Spec PyProof.Rows PySem.Calls PySem.W
section
variable {prog : Program} {w : World} {A : Around} {E : Value → Shared → Prop} {s : Shared} {z TI TO T S i1 i2 l1 l2 : Addr} {xs ys : Array Value}
/-- how the zip stands ahead of turn k, while a list S takes its pairs -/
def ZSt (h : Heap) (z TI TO i1 i2 l1 l2 S : Addr) (xs ys : Array Value) (k : Nat) : Prop :=
  (IsPair h TI (.ref i1) (.ref i2) ∧ h.IsTupleIter i1 l1 k ∧ h.IsTupleIter i2 l2 k ∧ h.IsTuple l1 xs ∧ h.IsTuple l2 ys) ∧
  ((IsZip h z TI TO .none ∧ ∃ u v, IsPair h TO u v) ∨ ∃ T f oT, IsZipHeld h z TI TO T f ∧ h.get? T = some oT ∧ T ≠ z ∧ T ≠ i1 ∧ T ≠ i2 ∧ T ≠ S)
structure Off (S z TI TO i1 i2 l1 l2 : Addr) : Prop where
  sz : S ≠ z
  sTI : S ≠ TI
  sTO : S ≠ TO
  s1 : S ≠ i1
  s2 : S ≠ i2
  sl1 : S ≠ l1
  sl2 : S ≠ l2
theorem ZSt.keep {h h' : Heap} {k : Nat} (O : Off S z TI TO i1 i2 l1 l2) (st : ZSt h z TI TO i1 i2 l1 l2 S xs ys k) (hk : ∀ b o, b ≠ S → h.get? b = some o → h'.get? b = some o) : ZSt h' z TI TO i1 i2 l1 l2 S xs ys k := by
  obtain ⟨⟨a1, a2, a3, ⟨o4, a4, b4⟩, ⟨o5, a5, b5⟩⟩, q⟩ := st
  refine ⟨⟨hk _ _ O.sTI.symm a1, a2.at fun o e => hk _ _ O.s1.symm e, a3.at fun o e => hk _ _ O.s2.symm e, ⟨o4, hk _ _ O.sl1.symm a4, b4⟩, ⟨o5, hk _ _ O.sl2.symm a5, b5⟩⟩, ?_⟩
  rcases q with ⟨q1, u, v, q2⟩ | ⟨T, f, oT, q1, q2, n1, n2, n3, n4⟩
  · exact .inl ⟨hk _ _ O.sz.symm q1, u, v, hk _ _ O.sTO.symm q2⟩
  · exact .inr ⟨T, f, oT, hk _ _ O.sz.symm q1, hk _ _ n4 q2, n1, n2, n3, n4⟩
end
end ZL
namespace Z
open PySem L2
end Z
namespace Z
open PySem L2
section
variable {K : PySem.W.Frag} {τ : T} {μ μ1 μ2 : M} {H H1 H2 H' : Hp} {σ : L2.St} {Φ : D → M → Prop} {ta tl te : TE} {tt tt1 : TT} {g g1 : TG} {wi wi1 : TI} {d e : D}
theorem cutD_all {ds : List D} {lo hi : Option Int} (h : HT.sIx ds.length 0 lo = 0 ∧ HT.sIx ds.length ds.length hi = ds.length) : cutD ds lo hi = ds := by
  unfold cutD
  rw [h.1, h.2]
  simp
theorem rs_tupA {ds : List D} {lo hi : Option Int} (q : Φ (.tup (cutD ds lo hi)) μ) : RS K (rSlA K) (.tup ds) lo hi μ Φ := fun H x c r Q k => by
  cases r with
  | @tup a xs _ ht hr =>
    refine ⟨a, xs, rfl, ht.sq, fun hw => ?_, fun hw p hp => k _ μ _ _ (fr_new hp) (con_new hp c) (.tup (.inl upd_same) (Rels.mono (tx_new hp) _ _ (hr.cut lo hi))) q⟩
    rw [hr.length] at hw
    rw [cutD_all hw] at q
    exact k _ μ _ _ Fr.refl c (.tup ht hr) q
theorem ro_catA {ds es : List D} (hz : ds.length + es.length ≤ sizeLine) (q : Φ (.tup (ds ++ es)) μ) : RO K (rCatA K) (.tup ds) (.tup es) μ Φ := fun H x y c r1 r2 Q k => by
  cases r1 with
  | @tup a xs _ ht hr =>
    cases r2 with
    | @tup b ys _ ht2 hr2 =>
      refine ⟨a, b, xs, ys, rfl, rfl, ht.sq, ht2.sq, by rw [hr.length, hr2.length]; exact hz, fun z => ?_, fun _ z => ?_, fun _ _ p hp => ?_⟩
      · subst z; cases hr; exact k _ μ _ _ Fr.refl c (.tup ht2 hr2) q
      · subst z; cases hr2; rw [List.append_nil] at q; exact k _ μ _ _ Fr.refl c (.tup ht hr) q
      · exact k _ μ _ _ (fr_new hp) (con_new hp c) (.tup (.inl upd_same) (Rels.mono (tx_new hp) _ _ (hr.append hr2))) q
variable {Ψ : List D → M → (M → M) → Prop}
end
end Z
namespace Z
open PySem L2
/-- plain, and n deep at most -/
structure OkN (n : Nat) (d : D) : Prop where
  p : D.plain d = true
  l : (D.py d).canLay0 = true
  d : (D.py d).depth ≤ n
theorem OkN.mono {n m : Nat} {d : D} (h : OkN n d) (l : n ≤ m) : OkN m d := ⟨h.p, h.l, Nat.le_trans h.d l⟩
theorem OkN.ok {n : Nat} {d : D} (h : OkN n d) (l : n ≤ 64) : D.ok d = true := by
  unfold D.ok SeqAt.shaped
  rw [h.p, h.l, decide_eq_true (Nat.le_trans h.d l)]
  rfl
theorem okn_int {i : Int} : OkN 0 (.int i) := ⟨by simp only [D.plain], by simp only [D.py, PyData.canLay0], by simp only [D.py, PyData.depth]; exact Nat.le_refl _⟩
theorem okn_all {n : Nat} : ∀ {ds : List D}, (∀ x ∈ ds, OkN n x) → D.plains ds = true ∧ PyData.canLayAll0 (D.pys ds) = true ∧ PyData.depthAll (D.pys ds) ≤ n
  | [], _ => ⟨by simp only [D.plains], by simp only [D.pys, PyData.canLayAll0], by simp only [D.pys, PyData.depthAll]; exact Nat.zero_le _⟩
  | x :: ds, h => by
    obtain ⟨h1, h2, h3⟩ := okn_all (ds := ds) fun y hy => h y (List.mem_cons_of_mem _ hy)
    have hx := h x List.mem_cons_self
    refine ⟨by simp only [D.plains, hx.p, h1, Bool.and_self], by simp only [D.pys, PyData.canLayAll0, hx.l, h2, Bool.and_self], ?_⟩
    simp only [D.pys, PyData.depthAll]
    exact Nat.max_le.mpr ⟨hx.d, h3⟩
theorem okn_tup {n : Nat} {ds : List D} (h : ∀ x ∈ ds, OkN n x) : OkN (n + 1) (.tup ds) := by
  obtain ⟨h1, h2, h3⟩ := okn_all h
  exact ⟨by simp only [D.plain]; exact h1, by simp only [D.py, PyData.canLay0]; exact h2, by simp only [D.py, PyData.depth]; omega⟩
theorem eqv_self {n : Nat} {d : D} (h : OkN n d) : D.eqv d d = true := SeqAt.eqv_refl _ h.l
end Z
namespace Z
open PySem L2
section
variable {K : PySem.W.Frag} {μ μ' : M} {Φ : D → M → Prop} {a b l : Addr} {X Y : MO}
theorem set_del {p : Addr} {m : MO} (h : μ p = none) : (μ.set p m).del p = μ := by
  funext x
  by_cases hx : x = p
  · subst hx; rw [del_same, h]
  · rw [del_ne hx, set_ne hx]
end
end Z
namespace PySem.HandSPX
open PySem PySem.Spec PySem.Calls
end PySem.HandSPX
namespace XO
open PySem PySem.Spec PyProof.Rows L2
open Builtin Builtin.ObjectAttr
abbrev tlVE : List Value := [.type "ValueError", .type "Exception", .type "BaseException", .type "object"]
end XO
namespace Z
open PySem L2
/-- o.m(..) where it may let an exception out -/
def tMethX (C : Addr) (m : Str) (sp : Sp) (E : L2.St → XK) (ta : TE) (t : TA) : TE := fun σ H Q => ta σ H fun x H1 => ∃ a dx fs, x = .ref a ∧ H1 a = some (.ins C dx fs) ∧ fs.lookup m = none ∧ t σ H1 fun vs H2 => sp (x :: vs) H2 Q (E σ)
abbrev XW := Str → Option Addr → M → Prop
/-- P args store wish out -/
abbrev PT4 := List D → M → (D → M → Prop) → XW → Prop
def spX (K : PySem.W.Frag) (cn : Str → Option Value) (P : PT4) : Sp := fun vs H Q E => ∃ ds μ Φ Ξ, Rels K H vs ds ∧ Z.Con K H μ ∧ P ds μ Φ Ξ ∧ (∀ d μ' v H', Fr μ μ' H H' → Z.Con K H' μ' → Rel K H' v d → Φ d μ' → Q v H') ∧
  ∀ x dx μ' cls H', cn x = some cls → Fr μ μ' H H' → Z.Con K H' μ' → Ξ x dx μ' → E cls dx H'
section
variable {K : PySem.W.Frag} {τ : T} {μ μ1 μ2 : M} {H H1 H2 : Hp} {σ : L2.St} {Φ Ψ : D → M → Prop} {ta tb tc te : TE} {t u : TT} {x y z d e : D} {N : AEnds} {ts us : TS} {P : PT4} {P3 : PT3} {E : XK} {g : TG} {cn : Str → Option Value}
theorem spX_len {vs : List V} {Q : VK} {n : Nat} (h : spX K cn P vs H Q E) (hn : ∀ ds μ Φ Ξ, P ds μ Φ Ξ → ds.length = n) : vs.length = n := by
  obtain ⟨ds, μ, Φ, Ξ, r, _, p, _⟩ := h
  rw [r.length]; exact hn _ _ _ _ p
abbrev endX (cn : Str → Option Value) (E : XK) (Φ : D → M → Prop) (Ξ : XW) : AEnds := { nx := fun _ μ' => Φ .non μ', rt := Φ, W := fun cls d _ H => E cls d H, cn := cn, xs := fun x dx _ μ' => Ξ x dx μ' }
/-- what a def has made for itself is forgotten at its end -/
abbrev UpX (Ξ : XW) : XW := fun x dx μ' => ∃ μ2, Sub μ2 μ' ∧ Ξ x dx μ2
/-- a call that lets nothing out here -/
theorem a_callX {ta : TA} (h : AA K ta τ μ fun ds μ1 => P ds μ1 Φ fun _ _ _ => False) : AE K (tCall (spX K cn P) [] E ta) τ μ Φ := fun σ H s c Q k =>
  h σ H s c _ fun ds μ1 vs H1 f1 c1 r1 p => by
    show spX K cn P (vs ++ []) H1 Q E
    rw [List.append_nil]
    exact ⟨ds, μ1, Φ, _, r1, c1, p, fun d μ' v H' f c' r q => k d μ' v H' (f1.trans f) c' r q, fun _ _ _ _ _ _ _ _ q => q.elim⟩
def AEX (K : PySem.W.Frag) (t : TE) (τ : T) (μ : M) (N : AEnds) (Φ : D → M → Prop) : Prop :=
  ∀ σ H, Slots K H τ σ → Con K H μ → ∀ Q : VK, (∀ d μ' v H', Fr μ μ' H H' → Con K H' μ' → Rel K H' v d → Φ d μ' → Q v H') →
    (∀ x dx μ' cls H', N.cn x = some cls → Fr μ μ' H H' → Con K H' μ' → N.xs x dx τ μ' → N.W cls dx σ H') → t σ H Q
theorem x_of {E' : Ends} (k : EndsOk K N μ H E') (s : Slots K H τ σ) (c : Con K H μ) : ∀ x dx μ' cls H', N.cn x = some cls → Fr μ μ' H H' → Con K H' μ' → N.xs x dx τ μ' → N.W cls dx σ H' :=
  fun x dx μ' cls H' e f c' q => k.wx x dx τ μ' cls σ H' e f c' (s.mono (f.tx c)) q
theorem s_dropX (h : AEX K te τ μ N fun _ μ' => N.nx τ μ') : AS K (tDrop te) τ μ N := fun σ H s c E k =>
  h σ H s c _ (fun d μ' v H' f c' r p => k.nx τ μ' σ H' f c' (s.mono (f.tx c)) p) (x_of k s c)
theorem s_retX (h : AEX K te τ μ N N.rt) : AS K (tRet te) τ μ N := fun σ H s c E k => h σ H s c _ (fun d μ' v H' f c' r p => k.rt d μ' v H' f c' r p) (x_of k s c)
theorem s_asgX (h : AEX K te τ μ N fun d μ' => AG K g d τ μ' N.nx) : AS K (tAsg te g) τ μ N := fun σ H s c E k =>
  h σ H s c _ (fun d μ' v H' f c' r p => p σ H' v (s.mono (f.tx c)) c' r _ fun τ2 μ2 σ2 H2 f2 c2 s2 q => k.nx τ2 μ2 σ2 H2 (f.trans f2) c2 s2 q) (x_of k s c)
theorem x_call {ta : TA} (h : AA K ta τ μ fun ds μ1 => P ds μ1 Φ fun x dx μ' => N.xs x dx τ μ') : AEX K (tCallS (spX K N.cn P) (WE N.W) ta) τ μ N Φ := fun σ H s c Q k kx =>
  h σ H s c _ fun ds μ1 vs H1 f1 c1 r1 p => ⟨ds, μ1, Φ, _, r1, c1, p, fun d μ' v H' f c' r q => k d μ' v H' (f1.trans f) c' r q, fun x dx μ' cls H' e f c' q => kx x dx μ' cls H' e (f1.trans f) c' q⟩
theorem look_none {H1 : Hp} {m : Str} : ∀ {vs : List (Str × V)} {fs : List (Str × D)}, RelKV K H1 vs fs → fs.lookup m = none → vs.lookup m = none := by
  intro vs fs r
  induction r with
  | nil => intro _; rfl
  | cons a _ ih =>
    rename_i p q ps qs _
    obtain ⟨e1, _⟩ := a
    intro h
    rw [List.lookup_cons] at h ⊢
    rw [e1]
    split at h
    · cases h
    · exact ih h
/-- o.m(..), what the instance is made of kept -/
theorem a_methX {C : Addr} {m : Str} {ta : TA} (h : AE K te τ μ fun o μ1 => ∃ a dx fs, o = .ref a ∧ μ1 a = some (.ins C dx fs) ∧ fs.lookup m = none ∧ AA K ta τ μ1 fun ds μ2 => P (o :: ds) μ2 Φ fun _ _ _ => False) :
    AE K (tMeth C m (spX K cn P) [] E te ta) τ μ Φ := fun σ H s c Q k =>
  h σ H s c _ fun o μ1 v H1 f1 c1 r1 ⟨a, dx, fs, e, ha, hm, p1⟩ => by
    subst e
    cases r1
    obtain ⟨vs, hv, hr⟩ := c1 a _ ha
    refine ⟨a, dx, vs, rfl, hv, look_none hr hm, p1 σ H1 (s.mono (f1.tx c)) c1 _ fun ds μ2 us H2 f2 c2 r2 p => ?_⟩
    rw [List.append_nil]
    exact ⟨.ref a :: ds, μ2, Φ, _, .cons (.ref a) r2, c2, p, fun d μ' v H' f c' r q => k d μ' v H' ((f1.trans f2).trans f) c' r q, fun _ _ _ _ _ _ _ _ q => q.elim⟩
theorem x_meth {C : Addr} {m : Str} {ta : TA} (h : AE K te τ μ fun o μ1 => ∃ a dx fs, o = .ref a ∧ μ1 a = some (.ins C dx fs) ∧ fs.lookup m = none ∧ AA K ta τ μ1 fun ds μ2 => P (o :: ds) μ2 Φ fun x dx μ' => N.xs x dx τ μ') :
    AEX K (tMethX C m (spX K N.cn P) (WE N.W) te ta) τ μ N Φ := fun σ H s c Q k kx =>
  h σ H s c _ fun o μ1 v H1 f1 c1 r1 ⟨a, dx, fs, e, ha, hm, p1⟩ => by
    subst e
    cases r1
    obtain ⟨vs, hv, hr⟩ := c1 a _ ha
    exact ⟨a, dx, vs, rfl, hv, look_none hr hm, p1 σ H1 (s.mono (f1.tx c)) c1 _ fun ds μ2 us H2 f2 c2 r2 p =>
      ⟨.ref a :: ds, μ2, Φ, _, .cons (.ref a) r2, c2, p, fun d μ' v H' f c' r q => k d μ' v H' ((f1.trans f2).trans f) c' r q, fun x dx μ' cls H' e f c' q => kx x dx μ' cls H' e ((f1.trans f2).trans f) c' q⟩⟩
/-- C(..) with no __init__ of its own -/
theorem s_raise0 {C : Addr} {x : Str} (hc : N.cn x = some (.ref C)) (h : N.xs x none τ μ) : AS K (fun _ σ H => (fun (_ : L2.St) (H : Hp) (Q : XK) => Q (.ref C) none H) σ H fun cls d H' => N.W cls d σ H') τ μ N := fun σ H s c E k =>
  k.wx x none τ μ (.ref C) σ H hc Fr.refl c s h
/-- what the clause makes of an exception: caught, b, by this clause's suite, or let through -/
theorem s_tryAs (cn : Str → Option Value) {tb : WX → TS} {tu : Addr → Value → Option Addr → TS} {c : Value} {i : Nat} (hit : Str → Bool) (hm : ∀ x cls, cn x = some cls → PySem.W.exmOne K cls c = some (hit x))
    (hb : ∀ W, AS K (tb W) τ μ { N with W := W, cn := cn, xs := fun x dx τ' μ' => (hit x = true ∧ ∀ a cls, cn x = some cls → AS K (tu a cls dx) (τ'.set i (some (.ref a))) μ'
      { nx := fun τ2 μ2 => N.nx (τ2.set i none) μ2, rt := N.rt, bk := fun τ2 μ2 => N.bk (τ2.set i none) μ2, ct := fun τ2 μ2 => N.ct (τ2.set i none) μ2 }) ∨ (hit x = false ∧ N.cn x = cn x ∧ N.xs x dx τ' μ') }) :
    AS K (fun D σ H => tb (wAs K c i tu N.W D) D σ H) τ μ N := fun σ H s cc E k => by
  refine hb (wAs K c i tu N.W E) σ H s cc E ⟨k.nx, k.rt, k.bk, k.ct, fun x dx τ' μ' cls σ' H' ec f c' s' q => ?_⟩
  refine ⟨hit x, hm x cls ec, fun hx a na => ?_, fun hx => ?_⟩
  · rcases q with ⟨_, q⟩ | ⟨z, _⟩
    · have unset : ∀ {τ2 : T} {σ2 : L2.St} {H2 : Hp}, Slots K H2 τ2 σ2 → Slots K H2 (τ2.set i none) (σ2.set i none) := fun {τ2 σ2 H2} s2 => by
        refine ⟨by rw [List.length_set, List.length_set]; exact s2.1, fun j d e => ?_⟩
        by_cases hj : i = j
        · subst hj
          by_cases hi : i < τ2.length
          · rw [List.getElem?_set_self hi] at e; cases e
          · rw [List.getElem?_eq_none (by rw [List.length_set]; omega)] at e; cases e
        · rw [List.getElem?_set_ne hj] at e ⊢
          exact s2.2 j d e
      exact q a cls ec (σ'.set i (some (.ref a))) H' (s'.set (.ref a) i) c' _ ⟨fun τ2 μ2 σ2 H2 f2 c2 s2 p => k.nx _ μ2 _ H2 (f.trans f2) c2 (unset s2) p, fun d μ2 v H2 f2 c2 r p => k.rt d μ2 v H2 (f.trans f2) c2 r p,
        fun τ2 μ2 σ2 H2 f2 c2 s2 p => k.bk _ μ2 _ H2 (f.trans f2) c2 (unset s2) p, fun τ2 μ2 σ2 H2 f2 c2 s2 p => k.ct _ μ2 _ H2 (f.trans f2) c2 (unset s2) p, fun _ _ _ _ _ _ _ z => by cases z⟩
    · rw [hx] at z; cases z
  · rcases q with ⟨z, _⟩ | ⟨_, q⟩
    · rw [hx] at z; cases z
    · exact k.wx x dx τ' μ' cls σ' H' (q.1.trans ec) f c' s' q.2
end
/-- a def that may let an exception out -/
structure DefX (P : Program) (w : World) (K : PySem.W.Frag) (mg : Str → Option Value) (base : Heap) (x : Str) (ps : List Str) (k : Nat) (sp : Sp) : Prop where
  ex : ∃ f fd, FnOk P w K mg base (L2.CX P w) k f fd ps sp ∧ mg x = some (.ref f) ∧ PySem.W.keepIn K (.ref f) = true ∧ Binds K fd ps []
theorem fn_lift {P : Program} {w : World} {K : PySem.W.Frag} {mg : Str → Option Value} {base : Heap} {k : Nat} {f : Addr} {fd : FuncData} {ps : List Str} {sp : Sp} (F : FnOk P w K mg base CX0 k f fd ps sp) : FnOk P w K mg base (L2.CX P w) k f fd ps sp :=
  ⟨F.len, fun A outer s H args us vs Q E hr e b r h => codeAny_mono (F.run A outer s H args us vs Q E hr e b r h) fun r s' q => by
    cases r with
    | error e => exact q.elim
    | ok fl =>
      cases fl with
      | ret u => exact q
      | next => exact q.elim
      | brk => exact q.elim
      | cont => exact q.elim⟩
end Z
namespace Z
open PySem L2
def kD : Key → D
  | .inl i => .int i
  | .inr s => .str s
abbrev kT (k : List Key) : D := .tup (k.map kD)
section
variable {κ : Type} [DecidableEq κ]
def valD (kvs : List (κ × D)) (k : κ) : Option D := (kvs.find? fun kv => decide (kv.1 = k)).map (·.2)
theorem valD_cons {p : κ × D} {r : List (κ × D)} {k : κ} : valD (p :: r) k = if p.1 = k then some p.2 else valD r k := by
  unfold valD
  by_cases h : p.1 = k
  · rw [if_pos h]; simp [List.find?_cons, h]
  · rw [if_neg h]; simp [List.find?_cons, h]
variable {K : PySem.W.Frag} {H : Hp}
theorem kv_val {vs : List (κ × V)} {kvs : List (κ × D)} (r : RelKV K H vs kvs) (k : κ) : (valV vs k = none ∧ valD kvs k = none) ∨ ∃ v d, valV vs k = some v ∧ valD kvs k = some d ∧ Rel K H v d := by
  induction r with
  | nil => exact .inl ⟨rfl, rfl⟩
  | cons a _ ih =>
    rename_i p q ps qs _
    obtain ⟨e, r⟩ := a
    rw [valD_cons]
    by_cases h : p.1 = k
    · rw [valV_pos h, if_pos (e.symm.trans h)]
      exact .inr ⟨_, _, rfl, rfl, r⟩
    · rw [valV_neg h, if_neg (fun z => h (e.trans z))]
      exact ih
theorem kv_isSome {vs : List (κ × V)} {kvs : List (κ × D)} (r : RelKV K H vs kvs) (k : κ) : (valV vs k).isSome = (valD kvs k).isSome := by
  rcases kv_val r k with ⟨a, b⟩ | ⟨v, d, a, b, _⟩ <;> rw [a, b] <;> rfl
end
section
variable {K : PySem.W.Frag} {τ : T} {μ μ1 μ2 : M} {H H1 H2 : Hp} {σ : L2.St} {Φ Ψ : D → M → Prop} {ta tb td te tv ty : TE} {tt : TT} {x y z d e : D} {N : AEnds} {ts us : TS}
theorem rel_key {v : V} {k : Key} (r : Rel K H v (kD k)) : v = kV k := by
  cases k with
  | inl i => cases r; rfl
  | inr s => cases r; rfl
theorem rels_keys : ∀ {k : List Key} {vs : List V}, Rels K H vs (k.map kD) → vs = k.map kV
  | [], _, .nil => rfl
  | k :: ks, _, .cons a b => by rw [List.map_cons, rel_key a, rels_keys b]
theorem rel_kT {v : V} {k : List Key} (r : Rel K H v (kT k)) : ∃ b, v = .ref b ∧ H b = some (.tup (k.map kV)) := by
  cases r with
  | tup h hr =>
    cases h with
    | inl h => exact ⟨_, rfl, by rw [h, rels_keys hr]⟩
/-- what the dict at a holds at the key y, by the store -/
def Dg (μ : M) (a : Addr) (y : D) (o : Option D) : Prop :=
  (∃ kvs k, μ a = some (.dK kvs) ∧ y = kD k ∧ o = valD kvs k) ∨ (∃ kvs k, μ a = some (.dT kvs) ∧ y = kT k ∧ o = valD kvs k) ∨ ∃ od us kvs k, μ a = some (.fT od us kvs) ∧ y = kT k ∧ o = valD kvs k
theorem dg_ok {v : V} {a : Addr} {o : Option D} (c : Con K H μ) (g : Dg μ a y o) (r : Rel K H v y) : ∃ p, DGet H a v p ∧ p.isSome = o.isSome ∧ ∀ d, o = some d → ∃ u, p = some u ∧ Rel K H u d := by
  have fin : ∀ {κ : Type} [DecidableEq κ] {vs : List (κ × V)} {kvs : List (κ × D)} (k : κ), RelKV K H vs kvs → o = valD kvs k → (valV vs k).isSome = o.isSome ∧ ∀ d, o = some d → ∃ u, valV vs k = some u ∧ Rel K H u d := by
    intro κ _ vs kvs k rr e
    subst e
    refine ⟨kv_isSome rr k, fun d e => ?_⟩
    rcases kv_val rr k with ⟨_, b⟩ | ⟨v', d', a', b, r'⟩
    · rw [b] at e; cases e
    · rw [b] at e; cases e; exact ⟨v', a', r'⟩
  rcases g with ⟨kvs, k, ha, ey, eo⟩ | ⟨kvs, k, ha, ey, eo⟩ | ⟨od, us, kvs, k, ha, ey, eo⟩
  · subst ey
    obtain ⟨vs, hv, hr⟩ := c a _ ha
    rw [rel_key r]
    exact ⟨_, .inl ⟨vs, k, .inl hv, rfl, rfl⟩, fin k hr eo⟩
  · subst ey
    obtain ⟨vs, hv, hr⟩ := c a _ ha
    obtain ⟨b, e, hb⟩ := rel_kT r
    subst e
    exact ⟨_, .inr ⟨vs, k, b, .inl hv, rfl, hb, rfl⟩, fin k hr eo⟩
  · subst ey
    obtain ⟨vs, hv, hr, _⟩ := c a _ ha
    obtain ⟨b, e, hb⟩ := rel_kT r
    subst e
    exact ⟨_, .inr ⟨vs, k, b, .inr ⟨od, hv⟩, rfl, hb, rfl⟩, fin k hr eo⟩
/-- d[y] -/
theorem a_dget (h : AE K td τ μ fun o μ1 => AE K ty τ μ1 fun y μ2 => ∃ a d, o = .ref a ∧ Dg μ2 a y (some d) ∧ Φ d μ2) : AE K (tDGet td ty) τ μ Φ := fun σ H s c Q k =>
  h σ H s c _ fun o μ1 v H1 f1 c1 r1 p1 => p1 σ H1 (s.mono (f1.tx c)) c1 _ fun y μ2 w H2 f2 c2 r2 ⟨a, d, e, g, q⟩ => by
    subst e
    cases r1
    obtain ⟨p, g', _, hp⟩ := dg_ok c2 g r2
    obtain ⟨u, eu, ru⟩ := hp d rfl
    subst eu
    exact ⟨a, u, rfl, g', k d μ2 u H2 (f1.trans f2) c2 ru q⟩
end
end Z
namespace ST
open PySem PySem.Spec PyProof.Rows L2 PpSet
section
variable {X : Cx} {pins : List (Addr × Obj)} {σ : L2.St} {H : Hp} {s : Shared} {E : Value → Shared → Prop}
/-- {elt for target in iter if ..}, elt a tuple of ints: Dl the new set -/
def tScT (P : Program) (w : World) (wi : TI) (g : TG) (tt : TT) (te : TE) (vs : List Nat) : TE := fun σ H Q => wi σ H fun J H1 => ∀ Dl, H1 Dl = none → ∃ W : Nat → Nat → Hp → Prop, (∃ m, W 0 m (upd H1 Dl (SetTO P w Dl []))) ∧ ∀ i m H, W i m H →
  (J.stop i H ∧ Q (.ref Dl) H) ∨ (J.go i H ∧ ∃ Nx : Hp → Prop, (∀ H', Nx H' → ∃ m', m' < m ∧ W (i + 1) m' H') ∧ ∀ x H', J.yld i H x H' → g x (wipe σ vs) H' fun σ2 H2 => wipe σ2 vs = wipe σ vs ∧ tt σ2 H2 fun b H3 =>
    if b = true then te σ2 H3 fun y H4 => ∃ (c : Addr) (k : List Int) (L : List (Addr × List Int)), y = .ref c ∧ H4 c = some (.tup (k.map V.int)) ∧ H4 Dl = some (SetTO P w Dl L) ∧ (∀ p ∈ L, H4 p.1 = some (.tup (p.2.map V.int))) ∧ L.length + 1 < 64 ∧
      ∀ L2, (k ∈ L.map (·.2) → L2 = L) → (k ∉ L.map (·.2) → L2.Perm ((c, k) :: L)) → Nx (upd H4 Dl (SetTO P w Dl L2)) else Nx H3)
/-- len of it -/
def rLenST (P : Program) (w : World) : List V → Hp → VK → Prop := fun xs H Q => ∃ (a : Addr) (L : List (Addr × List Int)), xs = [.ref a] ∧ H a = some (SetTO P w a L) ∧ Q (.int L.length) H
end
end ST
namespace Z
open PySem L2 ST
structure StAt (P : Program) (w : World) (K : PySem.W.Frag) (Dl : Addr) (μ : M) (H0 : Hp) (acc : List (List Int)) (H' : Hp) : Prop where
  fr : Fr μ μ H0 H'
  con : Z.Con K H' μ
  no : μ Dl = none
  at_ : ∃ L : List (Addr × List Int), H' Dl = some (SetTO P w Dl L) ∧ (∀ p ∈ L, H' p.1 = some (.tup (p.2.map V.int))) ∧ (L.map (·.2)).Nodup ∧ L.length ≤ acc.length ∧ ∀ k, k ∈ L.map (·.2) ↔ k ∈ acc
theorem seto_ne {P : Program} {w : World} {a : Addr} {L : List (Addr × List Int)} {o : HO} (h : SetTO P w a L = o) (n : ∀ φ, o ≠ .ext φ) : False := n _ h.symm
theorem seto_nc {P : Program} {w : World} {a : Addr} {L : List (Addr × List Int)} {q : Str} (h : SetTO P w a L = LamX.CodeO a q) : False := by
  unfold SetTO LamX.CodeO at h
  injection h with h
  obtain ⟨o, ho⟩ : ∃ o : Obj, o = { cls := .none, data := .fields #[.none, .str q 0] } := ⟨_, rfl⟩
  have e : (Heap.mk (Array.replicate (a + 1) o) {}).get? a = some o := by
    subst ho
    unfold Heap.get?
    simp
  have z := congrFun h (Heap.mk (Array.replicate (a + 1) o) {})
  have k : SetT0 P w (Heap.mk (Array.replicate (a + 1) o) {}) a L := by
    rw [z]
    subst ho
    exact ⟨_, _, 0, e, rfl, rfl⟩
  obtain ⟨es, ep, t, ⟨o2, h2, _, h3⟩, _⟩ := k.ex
  rw [e] at h2
  cases h2
  rw [ho] at h3
  cases h3
theorem rels_ints {K : PySem.W.Frag} {H : Hp} : ∀ {k : List Int} {vs : List V}, Rels K H vs (k.map D.int) → vs = k.map V.int
  | [], _, .nil => rfl
  | _ :: _, _, .cons (.int _) b => by rw [List.map_cons, rels_ints b]
theorem rel_tupI {K : PySem.W.Frag} {H : Hp} {v : V} {k : List Int} (r : Rel K H v (.tup (k.map D.int))) : ∃ c, v = .ref c ∧ H c = some (.tup (k.map V.int)) := by
  cases r with
  | tup h hr =>
    cases h with
    | inl h => exact ⟨_, rfl, by rw [h, rels_ints hr]⟩
section
variable {P : Program} {w : World} {K : PySem.W.Frag} {τ : T} {μ : M} {H H0 H' : Hp} {σ : L2.St} {Φ : D → M → Prop} {te : TE} {wi : TI} {g : TG} {Dl : Addr} {acc : List (List Int)}
theorem st_upd {L L2 : List (Addr × List Int)} (c : Z.Con K H μ) (no : μ Dl = none) (h : H Dl = some (SetTO P w Dl L)) : Tx H (upd H Dl (SetTO P w Dl L2)) ∧ Z.Con K (upd H Dl (SetTO P w Dl L2)) μ := by
  have t : Tx H (upd H Dl (SetTO P w Dl L2)) := ⟨fun a xs e => by rw [upd_ne (fun z => by subst z; rw [h] at e; exact seto_ne (Option.some.inj e) (fun _ z => nomatch z))]; exact e,
    fun a ob xs e => by rw [upd_ne (fun z => by subst z; rw [h] at e; exact seto_ne (Option.some.inj e) (fun _ z => nomatch z))]; exact e,
    fun a q e => by rw [upd_ne (fun z => by subst z; rw [h] at e; exact seto_nc (Option.some.inj e))]; exact e⟩
  exact ⟨t, fun a m e => (c a m e).mono t (upd_ne (fun z => by subst z; rw [no] at e; cases e))⟩
theorem st_start (c : Z.Con K H μ) (hD : H Dl = none) : StAt P w K Dl μ H [] (upd H Dl (SetTO P w Dl [])) :=
  ⟨fr_new hD, con_new hD c, c.free hD, [], upd_same, (fun _ h => absurd h List.not_mem_nil), List.nodup_nil, Nat.le_refl _, fun _ => Iff.rfl⟩
/-- how many different ones there are -/
def NumOf (l : List (List Int)) (n : Nat) : Prop := ∃ d : List (List Int), d.Nodup ∧ (∀ k, k ∈ d ↔ k ∈ l) ∧ n = d.length
theorem a_lenSc {js : List Nat} {dec : D → List D → Prop} (hg : TgOk K g js dec)
    (h : AI K wi τ μ fun xs μw back => ∃ f : D → List Int, xs.length < 63 ∧ (∀ x ∈ xs, ∃ ds, dec x ds ∧ ds.length = js.length ∧ AE K te (sets τ js ds) μw fun y μ2 => y = .tup ((f x).map D.int) ∧ μ2 = μw) ∧ ∀ n, NumOf (xs.map f) n → Φ (.int (n : Int)) (back μw)) :
    AE K (tCB (rLenST P w) (tCons (tScT P w wi g tYes te js) tNil)) τ μ Φ := fun σ H s c Q k => by
  refine h σ H s c _ fun J xs out G H1 μw back tx c1 W g1 o1 B ⟨f, hz, hs, hd⟩ Dl hD => ?_
  have s1 := s.mono tx
  refine ⟨fun i m H' => m = xs.length - i ∧ i ≤ xs.length ∧ StAt P w K Dl μw H1 ((xs.take i).map f) H', ⟨xs.length, by omega, Nat.zero_le _, st_start c1 hD⟩, ?_⟩
  rintro i m H' ⟨rfl, hi, S⟩
  have gH : G H' := W.keep _ _ _ _ c1 o1 g1 S.fr
  by_cases hlt : i < xs.length
  · refine .inr ⟨W.go i H' hlt gH, fun H2 => StAt P w K Dl μw H1 ((xs.take (i + 1)).map f) H2, fun H2 S2 => ⟨xs.length - (i + 1), by omega, rfl, hlt, S2⟩, fun v H2 y => ?_⟩
    obtain ⟨x, hx, rx, hH⟩ := W.yld i H' v H2 hlt gH y
    have S2 : StAt P w K Dl μw H1 ((xs.take i).map f) H2 := by
      rcases hH with e | ⟨T0, vs, hT, e⟩
      · rw [e]; exact S
      · obtain ⟨f2, c2⟩ := yld_ok (vs := vs) S.con hT
        obtain ⟨L, a1, a2, a3, a4, a5⟩ := S.at_
        rw [e]
        exact ⟨S.fr.trans f2, c2, S.no, L, (f2 Dl _ S.no a1).1, fun p hp => (f2.tx S.con).t _ _ (a2 p hp), a3, a4, a5⟩
    obtain ⟨ds, hdec, hl, he⟩ := hs x (List.mem_of_getElem? hx)
    refine hg x ds v _ H2 hdec rx _ fun vs hvs => ⟨by rw [wipe_sets (fun _ h => h), wipe_wipe], ?_⟩
    have s' : Slots K H2 (sets τ js ds) (sets (wipe σ js) js vs) := slots_block (s1.mono (S2.fr.tx c1)) hvs hl
    refine he _ H2 s' S2.con _ fun y μ2 u H4 f4 c4 r4 ⟨ey, em⟩ => ?_
    subst ey em
    obtain ⟨ca, eu, hc⟩ := rel_tupI r4
    subst eu
    obtain ⟨L, a1, a2, a3, a4, a5⟩ := S2.at_
    have b1 : H4 Dl = some (SetTO P w Dl L) := (f4 Dl _ S2.no a1).1
    have b2 : ∀ p ∈ L, H4 p.1 = some (.tup (p.2.map V.int)) := fun p hp => (f4.tx S2.con).t _ _ (a2 p hp)
    have tl : ((xs.take i).map f).length ≤ i := by rw [List.length_map, List.length_take]; omega
    refine ⟨ca, f x, L, rfl, hc, b1, b2, by omega, fun L2 k1 k2 => ?_⟩
    obtain ⟨t5, c5⟩ := st_upd (L2 := L2) c4 S2.no b1
    have more : (xs.take (i + 1)).map f = (xs.take i).map f ++ [f x] := by
      rw [List.take_add_one, hx, List.map_append]; rfl
    have ff : Fr μ2 μ2 H1 (upd H4 Dl (SetTO P w Dl L2)) := fun a o n e => by
      obtain ⟨e2, m2⟩ := (S2.fr.trans f4) a o n e
      exact ⟨by rw [upd_ne (ne_of_none e hD)]; exact e2, m2⟩
    refine ⟨ff, c5, S2.no, L2, upd_same, ?_⟩
    rw [more]
    by_cases hm : f x ∈ L.map (·.2)
    · have e := k1 hm
      subst e
      refine ⟨fun p hp => t5.1 _ _ (b2 p hp), a3, by rw [List.length_append]; omega, fun k => ?_⟩
      rw [List.mem_append, a5 k]
      exact ⟨.inl, fun z => z.elim id fun z => by rw [List.mem_singleton.mp z]; exact (a5 _).mp hm⟩
    · have pm := k2 hm
      refine ⟨fun p hp => t5.1 _ _ ?_, ?_, ?_, fun k => ?_⟩
      · rcases List.mem_cons.mp (pm.mem_iff.mp hp) with e | z
        · rw [e]; exact hc
        · exact b2 p z
      · exact (pm.map (·.2)).nodup_iff.mpr (List.nodup_cons.mpr ⟨hm, a3⟩)
      · rw [pm.length_eq, List.length_cons, List.length_append]
        simp only [List.length_cons, List.length_nil]
        omega
      · rw [(pm.map (·.2)).mem_iff, List.map_cons, List.mem_cons, List.mem_append, List.mem_singleton, a5 k]
        exact ⟨fun z => z.symm, fun z => z.symm⟩
  · have e : i = xs.length := by omega
    subst e
    obtain ⟨L, a1, a2, a3, a4, a5⟩ := S.at_
    rw [List.take_length] at a5
    refine .inl ⟨W.stop _ H' (Nat.le_refl _) gH, ?_⟩
    refine ⟨Dl, L, rfl, a1, k _ (back μw) _ H' (B.fr _ _ S.fr) (B.con _ _ S.fr S.con) (.int _) (hd L.length ⟨L.map (·.2), a3, a5, by rw [List.length_map]⟩)⟩
end
end Z
namespace Z
open PySem L2 PyProof.Rows
section
variable {X : Cx} {a b c e : Expr} {ta tb tc te : TE} {pos : Pos}
def tChain3 (r1 r2 r3 : R2) (ta tb tc te : TE) : TE := fun σ H Q => ta σ H fun x H1 => tb σ H1 fun y H2 => r1 x y H2 fun z H3 => ∃ k, z = .bl k ∧
  (if k = true then tc σ H3 fun w H4 => r2 y w H4 fun z' H5 => ∃ k', z' = .bl k' ∧ (if k' = true then te σ H5 fun u H6 => r3 w u H6 Q else Q (.bl false) H5) else Q (.bl false) H3)
end
section
variable {K : PySem.W.Frag} {τ : T} {μ μ1 μ2 : M} {H H1 H2 : Hp} {σ : L2.St} {Φ Ψ : D → M → Prop} {ta tb tc td te : TE} {r1 r2 r3 : R2} {d e : D} {N : AEnds}
theorem a_chain3 (h : AE K ta τ μ fun d μ1 => AE K tb τ μ1 fun e μ2 => RO K r1 d e μ2 fun z μ3 => ∃ b, z = .bl b ∧
      if b = true then AE K tc τ μ3 fun w μ4 => RO K r2 e w μ4 fun z' μ5 => ∃ b', z' = .bl b' ∧ if b' = true then AE K te τ μ5 fun u μ6 => RO K r3 w u μ6 Φ else Φ (.bl false) μ5 else Φ (.bl false) μ3) :
    AE K (tChain3 r1 r2 r3 ta tb tc te) τ μ Φ := by
  intro σ H s c Q k
  refine h σ H s c _ fun d μ1 v H1 f1 c1 k1 p1 => ?_
  refine p1 σ H1 (s.mono (f1.tx c)) c1 _ fun e μ2 u H2 f2 c2 k2 p2 => ?_
  refine p2 H2 v u c2 (Rel.mono (f2.tx c1) _ _ k1) k2 _ fun z μ3 w H3 f3 c3 kz ⟨b, ez, p3⟩ => ?_
  subst ez
  cases kz
  refine ⟨b, rfl, ?_⟩
  have f13 := (f1.trans f2).trans f3
  cases b with
  | false => exact k _ μ3 _ H3 f13 c3 (.bl false) (show Φ (.bl false) μ3 from p3)
  | true =>
    have p3' : AE K tc τ μ3 fun w μ4 => RO K r2 e w μ4 fun z' μ5 => ∃ b', z' = .bl b' ∧ if b' = true then AE K te τ μ5 fun u μ6 => RO K r3 w u μ6 Φ else Φ (.bl false) μ5 := p3
    rw [if_pos rfl]
    refine p3' σ H3 (s.mono (f13.tx c)) c3 _ fun x4 μ4 w' H4 f4 c4 k4 p4 => ?_
    refine p4 H4 u w' c4 (Rel.mono ((f3.trans f4).tx c2) _ _ k2) k4 _ fun z' μ5 o H5 f5 c5 kz' ⟨b', ez', p5⟩ => ?_
    subst ez'
    cases kz'
    refine ⟨b', rfl, ?_⟩
    have f15 := (f13.trans f4).trans f5
    cases b' with
    | false => exact k _ μ5 _ H5 f15 c5 (.bl false) (show Φ (.bl false) μ5 from p5)
    | true =>
      have p5' : AE K te τ μ5 fun u μ6 => RO K r3 x4 u μ6 Φ := p5
      rw [if_pos rfl]
      refine p5' σ H5 (s.mono (f15.tx c)) c5 _ fun u2 μ6 v6 H6 f6 c6 k6 p6 => ?_
      exact p6 H6 w' v6 c6 (Rel.mono ((f5.trans f6).tx c4) _ _ k4) k6 Q fun z μ7 o7 H7 f7 c7 k7 p7 => k z μ7 o7 H7 ((f15.trans f6).trans f7) c7 k7 p7
end
theorem rc_max3 {K : PySem.W.Frag} {i j l : Int} {μ : M} {Φ : D → M → Prop} (q : Φ (.int (max (max i j) l)) μ) : RC K (rNuC3 nuMax3) [.int i, .int j, .int l] μ Φ := fun H xs c r Q k => by
  cases r with
  | cons a r =>
    cases r with
    | cons b r =>
      cases r with
      | cons d r =>
        cases a; cases b; cases d; cases r
        refine ⟨_, _, _, .int (max (max i j) l), rfl, ?_, k _ μ _ H Fr.refl c (.int _) q⟩
        have m2 : ∀ x y : Int, nuMax2 (.int x) (.int y) = some (.int (max x y)) := fun x y => by
          unfold nuMax2 nuLt nuCB
          simp only [Option.map_some]
          by_cases h : x < y
          · rw [if_pos (decide_eq_true h)]; congr 2; omega
          · rw [if_neg (by simpa using h)]; congr 2; omega
        unfold nuMax3
        rw [m2, Option.bind_some, m2]
end Z
namespace Z
open PySem L2 PyProof.Rows
/-- an own error with a text -/
structure Exc0 (K : PySem.W.Frag) (mg : Str → Option Value) (x : Str) (C : Addr) : Prop where
  ex : ∃ (B newId initId : String) (tl : List Value), ExcBaseFacts B newId initId tl ∧ PySem.W.excIn K C tl newId = true
  mg : mg x = some (.ref C)
  kp : PySem.W.keepIn K (.ref C) = true
  r1 : PySem.W.subIn K (.ref C) (.type "BaseException") = some true
  r2 : PySem.W.typeIn K (.ref C) = some (.type "type")
section
variable {X : Cx} {C : Addr} {x f m : Str} {j : Nat} {p p2 pos : Pos} {e : Expr} {es : List Expr} {ta : TA}
theorem pmk_e0 (G : Exc0 X.K X.mg x C) (hg : Gl X x) (hdb : (x == ("__debug__" : Str)) = false := by decide) : PMk X (.Call (.Name x p) [.Constant (.str m) j p2] [] pos) (fun _ H Q => Q (.ref C) none H) := by
  obtain ⟨B, newId, initId, tl, F, q⟩ := G.ex
  exact pmk_own F q G.mg G.kp (raises_own G.r1 G.r2) hg hdb
end
/-- the values by the parameters' order: behind the written ones, those by name (true) and the lacking ones (false) -/
def gK {α : Type} (π : List (Bool × Nat)) (us mv ws : List α) : List α := us ++ π.filterMap fun p => if p.1 = true then ws[p.2]? else mv[p.2]?
theorem vals_at {vs : List V} {us : List Value} (r : Vals vs us) (i : Nat) : (vs[i]? = none ∧ us[i]? = none) ∨ ∃ v u, vs[i]? = some v ∧ us[i]? = some u ∧ RelV v u := by
  induction r generalizing i with
  | nil => exact .inl ⟨by simp, by simp⟩
  | cons a _ ih =>
    cases i with
    | zero => exact .inr ⟨_, _, by simp, by simp, a⟩
    | succ i => simpa using ih i
theorem rels_at {K : PySem.W.Frag} {H : Hp} : ∀ {vs : List V} {ds : List D} (r : Rels K H vs ds) (i : Nat), (vs[i]? = none ∧ ds[i]? = none) ∨ ∃ v d, vs[i]? = some v ∧ ds[i]? = some d ∧ Rel K H v d
  | [], [], .nil, i => .inl ⟨by simp, by simp⟩
  | v :: vs, d :: ds, .cons a b, 0 => .inr ⟨v, d, by simp, by simp, a⟩
  | v :: vs, d :: ds, .cons a b, i + 1 => by simpa using rels_at b i
theorem vals_gK (π : List (Bool × Nat)) {vs mz zs : List V} {us mv ws : List Value} (r : Vals vs us) (r1 : Vals mz mv) (r2 : Vals zs ws) : Vals (gK π vs mz zs) (gK π us mv ws) := by
  refine r.append ?_
  induction π with
  | nil => exact .nil
  | cons p π ih =>
    have z : (((if p.1 = true then zs[p.2]? else mz[p.2]?) = none ∧ (if p.1 = true then ws[p.2]? else mv[p.2]?) = none)) ∨ ∃ v u, (if p.1 = true then zs[p.2]? else mz[p.2]?) = some v ∧ (if p.1 = true then ws[p.2]? else mv[p.2]?) = some u ∧ RelV v u := by
      by_cases h : p.1 = true
      · rw [if_pos h, if_pos h]; exact vals_at r2 _
      · rw [if_neg h, if_neg h]; exact vals_at r1 _
    rw [List.filterMap_cons, List.filterMap_cons]
    rcases z with ⟨a, b⟩ | ⟨v, u, a, b, k⟩
    · rw [a, b]; exact ih
    · rw [a, b]; exact .cons k ih
theorem rels_gK {K : PySem.W.Frag} {H : Hp} (π : List (Bool × Nat)) {vs mz zs : List V} {us mv ws : List D} (r : Rels K H vs us) (r1 : Rels K H mz mv) (r2 : Rels K H zs ws) : Rels K H (gK π vs mz zs) (gK π us mv ws) := by
  refine r.append ?_
  induction π with
  | nil => exact .nil
  | cons p π ih =>
    have z : (((if p.1 = true then zs[p.2]? else mz[p.2]?) = none ∧ (if p.1 = true then ws[p.2]? else mv[p.2]?) = none)) ∨ ∃ v u, (if p.1 = true then zs[p.2]? else mz[p.2]?) = some v ∧ (if p.1 = true then ws[p.2]? else mv[p.2]?) = some u ∧ Rel K H v u := by
      by_cases h : p.1 = true
      · rw [if_pos h, if_pos h]; exact rels_at r2 _
      · rw [if_neg h, if_neg h]; exact rels_at r1 _
    rw [List.filterMap_cons, List.filterMap_cons]
    rcases z with ⟨a, b⟩ | ⟨v, u, a, b, k⟩
    · rw [a, b]; exact ih
    · rw [a, b]; exact .cons k ih
/-- a def of a class, its keyword defaults by name -/
theorem kbn_of {K : PySem.W.Frag} {x qual : Str} {params : Arguments} {body : List Stmt} {scope : Scope} {kws : List (Str × V)} {f : Addr} {fd : FuncData} {ps : List Str} (F : FunD K x qual params body scope [] kws f fd) (n : Nat) (ks : List Str) (ms : List (Str × V)) (π : List (Bool × Nat)) (hk : kws ≠ []) (hms : ∀ q ∈ ms, q ∈ kws)
    (h : ∀ (D : Addr) (doc pm : Value) (an : Option Addr) (cdv ct : Value) (us mv ws : List Value), us.length = n → mv.length = ms.length → ws.length = ks.length →
      KwChain D ((ms.map (·.1)).zip mv) (bindArgs (PySem.W.fnOf x qual params body scope .none (.ref D) doc pm an cdv ct) ⟨us, ks.zip ws⟩) (ps.zip (gK π us mv ws))) : ∃ g, KBn K fd ps n ks g (fun vs zs => gK π vs (ms.map (·.2)) zs) := by
  obtain ⟨mv, hb⟩ := F.kbinds0 n ks ms (fun us mv ws => gK π us mv ws) hk hms (fun r1 r2 r3 => vals_gK π r1 r2 r3) h
  exact ⟨_, hb⟩
/-- does «except C» name an error of the class at S -/
theorem exm_pair {K : PySem.W.Frag} {S C : Addr} {b : Bool} (h1 : PySem.W.subIn K (.ref C) (.type "BaseException") = some true) (h2 : PySem.W.isClsIn K C = true) (h3 : PySem.W.typeIn K (.ref C) = some (.type "type")) (h4 : PySem.W.subIn K (.ref S) (.ref C) = some b) :
    PySem.W.exmOne K (.ref S) (.ref C) = some b := by
  have e2 : ((PySem.W.clsIn K C).isSome && PySem.W.typeIn K (.ref C) == some (.type "type")) = true := by
    have h5 : (PySem.W.clsIn K C).isSome = true := h2
    rw [h5, h3] <;> rfl
  have e1 : (PySem.W.subIn K (.ref C) (.type "BaseException") == some true) = true := by rw [h1] <;> rfl
  unfold PySem.W.exmOne
  rw [if_pos e1]
  unfold PySem.W.kitCls
  first
    | (rw [if_pos e2]; exact h4)
    | (simp only [e2, if_true]; exact h4)
/-- what a def that may raise has made for itself is forgotten at its end -/
theorem body_okXU {K : PySem.W.Frag} {H : Hp} {ts : TS} {P : PT4} {E : XK} {Ns : List Str} {vs : List V} {Q : VK} {cn : Str → Option Value} (h : spX K cn P vs H Q E) (hb : ∀ ds μ Φ Ξ, P ds μ Φ Ξ → AS K ts (startD Ns.length ds) μ (endX cn E (Up Φ) (UpX Ξ))) :
    ts { nx := fun _ H' => Q .non H', rt := Q } (L2.start Ns vs) H := by
  obtain ⟨ds, μ, Φ, Ξ, r, c, p, k, kx⟩ := h
  refine hb ds μ Φ Ξ p _ H (slots_start r) c _ ⟨fun _ μ' _ H' f c' _ ⟨μ2, sb, q⟩ => k .non μ2 .non H' (f.sub sb) (c'.sub sb) .non q, fun d μ' v H' f c' r' ⟨μ2, sb, q⟩ => k d μ2 v H' (f.sub sb) (c'.sub sb) r' q, fun _ _ _ _ _ _ _ q => q.elim, fun _ _ _ _ _ _ _ q => q.elim,
    fun x dx _ μ' cls _ H' e f c' _ ⟨μ2, sb, q⟩ => kx x dx μ2 cls H' e (f.sub sb) (c'.sub sb) q⟩
/-- a written constant of the top -/
structure Cst (mg : Str → Option Value) (x : Str) (v : V) : Prop where
  ex : ∃ u, mg x = some u ∧ RelV v u
theorem pe_cst {X : Cx} {x : Str} {v : V} {pos : Pos} (G : Cst X.mg x v) (hg : Gl X x) (hd : (x == ("__debug__" : Str)) = false := by decide) : PE X (.Name x pos) (tC v) := by
  obtain ⟨u, hm, r⟩ := G.ex
  exact pe_glob hg hm r hd
theorem okn_str {s : Str} (h : PyData.strOk s = true) : OkN 0 (.str s) := ⟨by simp only [D.plain], by simp only [D.py, PyData.canLay0]; exact h, by simp only [D.py, PyData.depth]; exact Nat.le_refl _⟩
section
variable {K : PySem.W.Frag} {μ : M} {Φ : D → M → Prop} {a b : Addr}
theorem rels_rep {H : Hp} {xs : List V} {ds : List D} (r : Rels K H xs ds) : ∀ n : Nat, Rels K H (List.replicate n xs).flatten (List.replicate n ds).flatten
  | 0 => .nil
  | n + 1 => by
    rw [List.replicate_succ, List.replicate_succ, List.flatten_cons, List.flatten_cons]
    exact r.append (rels_rep r n)
theorem ro_rep {k : Int} {ds : List D} (h : μ a = some (.lst ds)) (hk : -2 ^ 63 ≤ k ∧ k < 2 ^ 63) (hz : ds.length * k.toNat ≤ sizeLine) (q : ∀ p, μ p = none → Φ (.ref p) (μ.set p (.lst (List.replicate k.toNat ds).flatten))) : RO K rRep (.ref a) (.int k) μ Φ := fun H x y c r1 r2 Q kk => by
  cases r1; cases r2
  obtain ⟨xs, hx, hr⟩ := c a _ h
  refine ⟨a, k, xs, rfl, rfl, hx, hk.1, hk.2, by rw [hr.length]; exact hz, fun p hp => ?_⟩
  exact kk _ _ _ _ (fr_put hp) (con_put (m := .lst (List.replicate k.toNat ds).flatten) hp c ⟨_, upd_same, Rels.mono (tx_new hp) _ _ (rels_rep hr _)⟩) (.ref p) (q p (c.free hp))
end
end Z
namespace SD
open PySem PySem.Spec PyProof.Rows L2 PySem.W
end SD
namespace Z
open PySem L2 SD PySem.W
end Z
namespace ZT
open PySem PySem.Spec PyProof.Rows L2
section
variable {M : Model} {h : Heap} {a : Addr} {oe : Obj} {vs : Array Value}
theorem lk_type (ha : h.get? a = some oe) : PySem.W.Looks M h (typeOf (.ref a)) oe.cls :=
  fun _ _ _ _ k q => wpAny_typeOf_ref (k _ _ ha) q
end
end ZT
namespace ZT
open PySem PySem.Spec PyProof.Rows L2
section
variable {X : Cx} {pins : List (Addr × Obj)} {σ : L2.St} {H : Hp} {s : Shared}
/-- a slot's address, read: the state stays as it is -/
theorem slot_ld {M : Model} {A : Around} {E : Value → Shared → Prop} {i : Nat} {n : Str} {np : Pos} {a : Addr} {Q : Value → Shared → Prop} (I : Inv X pins σ H s) (hN : X.N[i]? = some n) (hσ : σ[i]? = some (some (.ref a))) (hv : Vis X.env.scope n) (q : Q (.ref a) s)
    (hdb : (n == ("__debug__" : Str)) = false) (hcd : (n == ("__classdict__" : Str)) = false) : wpAny M A (eval (.Name n np) X.env) Q E s := by
  obtain ⟨m, hn, at_⟩ := I.loc
  refine wpAny_Name ?_ hdb
  match at_ i n _ hN hσ hv with
  | ⟨_, rfl, .inl ⟨k, e⟩⟩ => exact wpAny_loadName_local I.ok.kind k hn e q
  | ⟨_, rfl, .inr ⟨.inl k, _, e, z⟩⟩ => exact wpAny_loadName_cell I.ok.kind k e z q
  | ⟨_, rfl, .inr ⟨.inr k, _, e, z⟩⟩ => exact wpAny_loadName_free I.ok.kind k e z q hcd
end
end ZT
namespace ZT
open PySem PySem.Spec PyProof.Rows L2
/-- kinds of records: with any context, with none -/
structure Kind (Z : Value → Option Addr → Obj → Prop) : Prop where
  zc : ∀ {c d o}, Z c d o → Zc c d o
  land : ∀ {M : Model} {A : Around} {E₁ : Value → Shared → Prop} {env : Env} {outer : List Env} {B : Heap} {L a : Addr} {c : Value} {d : Option Addr} {Q : Unit → Shared → Prop} {s : Shared}, A.frames = some (env :: outer) → env.frame = some L →
    Sky B (env :: outer) a (Z c d) L s.heap → (∀ h', HandSPX.FlyingZ B (env :: outer) a (Z c d) h' → s.heap.UpToSlots h' → Q () { s with heap := h' }) →
      wpAny M A (noteFrame (.ref a) env) (fun _ s₂ => wpAny M A (setFlight (.ref a) none) Q E₁ s₂) E₁ s
/-- the own frame is on top -/
structure Top (X : Cx) : Prop where
  ok : X.Ok
  stk : X.stack = X.env :: X.outer
  frm : X.env.frame = some X.env.locals
theorem Top.frames {X : Cx} (t : Top X) (hd : Option Value) : (X.A.mark hd).frames = some (X.env :: X.outer) := t.stk ▸ t.ok.frames
section
variable {Z : Value → Option Addr → Obj → Prop} {X : Cx} {B : Heap} {sI s : Shared} {pins : List (Addr × Obj)} {σ : L2.St} {H : Hp} {c : Value} {d : Option Addr} {a : Addr}
/-- the same, caught: it flies over this frame, noted nowhere -/
structure Got (Z : Value → Option Addr → Obj → Prop) (X : Cx) (B : Heap) (sI : Shared) (pins : List (Addr × Obj)) (σ : L2.St) (H : Hp) (c : Value) (d : Option Addr) (a : Addr) (s : Shared) : Prop where
  top : Top X
  inv : Inv X pins σ H sI
  gnd : ∀ b o, sI.heap.get? b = some o → b ∉ frs X.stack → B.get? b = some o
  up : sI.heap.UpToSlots s.heap
  fl : HandSPX.FlyingZ B (X.env :: X.outer) a (Z c d) s.heap
  na : H a = none
  os : s.os = sI.os
  ag : AllBare s.gens
theorem Got.here (g : Got Z X B sI pins σ H c d a s) : Inv X pins σ H s := g.inv.landed g.gnd g.fl.1 g.up g.os g.ag
/-- its record stands apart from all frames, and from the ground -/
theorem Got.apart (g : Got Z X B sI pins σ H c d a s) : ∃ oe vs, s.heap.get? a = some oe ∧ Z c d oe ∧ oe.data = .fields vs ∧ a ≠ X.env.locals ∧ a ∉ X.fs ∧ X.base.get? a = none := by
  obtain ⟨oe, vs, he, hz, hd⟩ := g.fl.there
  have off : a ∉ frs (X.env :: X.outer) := fun hm => by
    obtain ⟨-, o, e, nf⟩ := g.fl.2.2.1.mem hm
    exact nf vs (Option.some.inj (he.symm.trans e) ▸ hd)
  have nl : a ≠ X.env.locals := fun z => off (List.mem_filterMap.mpr ⟨X.env, List.mem_cons_self, z ▸ g.top.frm⟩)
  have nf : a ∉ X.fs := fun hm => off (by
    obtain ⟨e, he, q⟩ := List.mem_filterMap.mp hm
    exact List.mem_filterMap.mpr ⟨e, List.mem_cons_of_mem _ he, q⟩)
  refine ⟨oe, vs, he, hz, hd, nl, nf, Option.eq_none_iff_forall_not_mem.mpr fun o e => ?_⟩
  have b1 := g.gnd a o (g.inv.bk a o e) (g.top.stk ▸ off)
  exact Option.some_ne_none _ (b1.symm.trans g.fl.2.1)
/-- .. and stays so in a greater heap, or when its flight is told again -/
theorem Got.grow (g : Got Z X B sI pins σ H c d a s) (o : Obj) : Got Z X B sI pins σ H c d a { s with heap := s.heap.push o } := by
  have k : ∀ b u, s.heap.get? b = some u → (s.heap.push o).get? b = some u := fun b u e => Heap.get?_push_of_some _ e
  obtain ⟨f1, f2, f3, oe, vs, T, oT, ts, k1, k2, k3, k4, k5, k6, k7, k8⟩ := g.fl
  exact ⟨g.top, g.inv, g.gnd, g.up.trans (.of_keeps k), ⟨fun b u e => k b u (f1 b u e), f2, f3.of_keeps fun b u e _ => ⟨u, k b u e, rfl⟩, oe, vs, T, oT, ts, k _ _ k1, k2, k3, k4, k5, k6, k _ _ k7, k8⟩, g.na, g.os, g.ag⟩
end
section
variable {X : Cx} {pins : List (Addr × Obj)} {σ : L2.St} {H : Hp} {s : Shared}
/-- h' is h but for the object at L -/
def Off (L : Addr) (h h' : Heap) : Prop := ∀ b, b ≠ L → h'.get? b = h.get? b
theorem Off.cell {L b : Addr} {h h' : Heap} {v : Option Value} (f : Off L h h') (n : b ≠ L) : h.IsCell b v → h'.IsCell b v := fun ⟨o, e, d⟩ => ⟨o, (f b n).trans e, d⟩
theorem Off.un {fs ex : List Addr} {H' : Hp} {L : Addr} {h0 h h' : Heap} (u : Un fs ex H' H h0 h) (f : Off L h h') (n : ∀ b o, h0.get? b = some o → b ≠ L) : Un fs ex H' H h0 h' where
  keep b o e z i j := (f b (n b o e)).trans (u.keep b o e z i j)
  slot b o e z i j := (u.slot b o e z i j).imp fun _ q => (f b (n b o e)).trans q
  free := u.free
  there b o e j := (u.there b o e j).imp fun _ q => (f b (n b o e)).trans q
  tups := u.tups
  frzs := u.frzs
  tbls := u.tbls
theorem Off.hok {P : Program} {w : World} {L : Addr} {h h' : Heap} (k : HOk P w H h) (f : Off L h h') (n : H L = none) : HOk P w H h' := fun b o e =>
  (k b o e).stay (fun x u way q => (f x fun z => way.elim (fun w => by rw [← w, z, n] at e; cases e) fun w => by rw [z, n] at w; cases w).trans q) (fun _ q => q) fun _ _ q => q
end
end ZT
namespace ZT
open PySem PySem.Spec PyProof.Rows L2
/-- the context of a suite, F about what leaves it -/
abbrev sctx (X : Cx) (a : Addr) (pn : List (Addr × Obj)) (F : Value → Shared → Prop) : Cx := { X with A := X.A.mark (some (.ref a)), calm := false, pn := pn, xe := F }
end ZT
namespace ZT
open PySem PySem.Spec PyProof.Rows L2
/-- the names in a clause's tuple -/
inductive NsL (X : Cx) : List Expr → List Value → Prop
  | nil : NsL X [] []
  | cons {x : Str} {c : Value} {np : Pos} {es : List Expr} {cs : List Value} (hc : Names X x c) (r : NsL X es cs) : NsL X (.Name x np :: es) (c :: cs)
/-- a clause's classes, by what they answer -/
inductive Test (X : Cx) : Expr → (Value → Option Bool) → Prop
  | one {x : Str} {c : Value} {np : Pos} (hc : Names X x c) : Test X (.Name x np) (fun cls => PySem.W.exmOne X.K cls c)
  | tup {es : List Expr} {cs : List Value} {k : Nat} {np : Pos} (h : NsL X es cs) (z : cs.length = 2 ∨ cs.length = 3 ∨ cs.length = 4) : Test X (.Tuple es k np) (fun cls => PySem.W.exmAny X.K cls cs)
section
variable {Z : Value → Option Addr → Obj → Prop} {X : Cx} {B : Heap} {sI s : Shared} {pins : List (Addr × Obj)} {σ : L2.St} {H : Hp} {c : Value} {d : Option Addr} {a : Addr}
/-- the state as a suite's -/
theorem Got.suite (g : Got Z X B sI pins σ H c d a s) : ∃ oe, Z c d oe ∧ (∃ vs, oe.data = .fields vs) ∧ X.base.get? a = none ∧ s.heap.get? a = some oe ∧ ∀ F, Inv (sctx X a ((a, oe) :: (X.pn ++ pins)) F) [] σ H s := by
  obtain ⟨oe, vs, he, hz, hd, nl, nf, nb⟩ := g.apart
  exact ⟨oe, hz, ⟨vs, hd⟩, nb, he, fun F => Inv.unwish (X := sctx X a _ F) (E := fun _ _ => False) (g.here.suite he hd g.na nl nf)⟩
theorem name_ld {x : Str} {v : Value} {np : Pos} {pn : List (Addr × Obj)} {Q E : Value → Shared → Prop} (I : Inv (X.suite a pn) [] σ H s) (hc : Names X x v) (q : Q v s) : wpAny (model X.prog X.w) (X.A.mark (some (.ref a))) (eval (.Name x np) X.env) Q E s :=
  match hc with
  | ⟨g, dbg, .inl m⟩ => ld_glob (X := X.suite a pn) I g m q dbg
  | ⟨g, dbg, .inr ⟨m, v, nn⟩⟩ => ld_blt (X := X.suite a pn) I g m v q nn dbg
theorem names_ld {es : List Expr} {cs : List Value} {pos : Pos} {pn : List (Addr × Obj)} {E : Value → Shared → Prop} (I : Inv (X.suite a pn) [] σ H s) (hn : NsL X es cs) : ∀ {Q : List Value → Shared → Prop}, Q cs s → wpAny (model X.prog X.w) (X.A.mark (some (.ref a))) (spliced (backTo pos (starEach es X.env))) Q E s := by
  induction hn with
  | nil => exact fun q => wpAny_items_nil q
  | cons hc _ ih => exact fun q => wpAny_items_cons (name_ld I hc (ih q))
theorem Test.run {te : Expr} {ans : Value → Option Bool} {b : Bool} {G : Bool → Shared → Prop} {E1 E2 : Value → Shared → Prop} (t : Test X te ans) (k : Kind Z) (g : Got Z X B sI pins σ H c d a s) (hb : ans c = some b)
    (q : ∀ h', Got Z X B sI pins σ H c d a { s with heap := h' } → G b { s with heap := h' }) :
    wpAny (model X.prog X.w) (X.A.mark (some (.ref a))) (eval te X.env) (fun v s₁ => wpAny (model X.prog X.w) (X.A.mark (some (.ref a))) (excMatches (.ref a) v) G E2 s₁) E1 s := by
  obtain ⟨oe, hz, -, -, he, J⟩ := g.suite
  have I := J fun _ _ => False
  have ty : PySem.W.Looks (model X.prog X.w) s.heap (typeOf (.ref a)) c := (k.zc hz).1 ▸ lk_type he
  cases t with
  | one hc => exact name_ld I hc ((PySem.W.exm_one I.kIn ty hb).here (q _ g))
  | @tup es cs n np hn z =>
    refine wpAny_Tuple (names_ld I hn ⟨by have := sizeLine_eq; omega, ?_⟩)
    have more : ∀ b o, s.heap.get? b = some o → (s.heap.push { cls := .type "tuple", data := .seq cs.toArray }).get? b = some o := fun b o e => Heap.get?_push_of_some _ e
    have at_ := Heap.get?_push_size s.heap (o := { cls := .type "tuple", data := .seq cs.toArray }) rfl
    have fin := q _ (g.grow { cls := .type "tuple", data := .seq cs.toArray })
    match cs, z, hb with
    | [_, _], _, hb => exact (PySem.W.exm_tup2 (I.kIn.keeps more) (ty.keeps more) at_ hb).here fin
    | [_, _, _], _, hb => exact (PySem.W.exm_tup3 (I.kIn.keeps more) (ty.keeps more) at_ hb).here fin
    | [_, _, _, _], _, hb => exact (PySem.W.exm_tup4 (I.kIn.keeps more) (ty.keeps more) at_ hb).here fin
end
end ZT
namespace Z
open PySem PySem.Spec PyProof.Rows L2
end Z
namespace Z
open PySem PySem.Spec PyProof.Rows L2
end Z
namespace Z
open PySem PySem.Spec PyProof.Rows L2
/-- x(.., k = v ..): n places, the names ks; gK π puts them, and the defaults mz, in the parameters' order -/
structure DefN (P : Program) (w : World) (K : PySem.W.Frag) (mg : Str → Option Value) (base : Heap) (x : Str) (ps : List Str) (n : Nat) (ks : List Str) (π : List (Bool × Nat)) (mz : List V) (k : Nat) (sp : Sp) : Prop where
  ex : ∃ f fd g, FnOk P w K mg base (L2.CX P w) k f fd ps sp ∧ mg x = some (.ref f) ∧ PySem.W.keepIn K (.ref f) = true ∧ KBn K fd ps n ks g (fun vs zs => gK π vs mz zs)
section
variable {X : Cx} {x : Str} {ps ks : List Str} {n k : Nat} {π : List (Bool × Nat)} {mz : List V} {sp : Sp} {p pos : Pos} {e : Expr} {es : List Expr} {kws : List Keyword} {t tk : TA}
theorem pe_defK (G : DefN X.prog X.w X.K X.mg X.base x ps n ks π mz k sp) (hr : Room k X.A) (hg : Gl X x) (ha : PA X (e :: es) t) (hkw : PK X kws tk)
    (hall : (backToKw pos (keywordEach kws X.env)).all (·.1.isSome) = true := by rfl) (hks : (backToKw pos (keywordEach kws X.env)).filterMap (·.1) = ks := by rfl) (hdb : (x == ("__debug__" : Str)) = false := by decide)
    (he : starEach (e :: es) X.env = (false, eval e X.env) :: starEach es X.env := by rfl) (hpl : ((backTo pos (starEach (e :: es) X.env)).any (·.1) || (backToKw pos (keywordEach kws X.env)).any (·.1.isNone)) = false := by rfl) :
    PE X (.Call (.Name x p) (e :: es) kws pos) (tCallN n ks.length sp (fun vs zs => gK π vs mz zs) E0 t tk) := by
  obtain ⟨f, fd, g, F, hm, hk, hb⟩ := G.ex
  exact pe_callN F hr hg hm hk hb passL ha hkw hall hks hdb he hpl
end
end Z
namespace Z
open PySem PySem.Spec PyProof.Rows L2
section
variable {K : PySem.W.Frag} {μ : M} {Φ : D → M → Prop} {a : Addr} {cls : Value} {d : Option Addr}
theorem clsV_refs {H : Hp} : ∀ {Cs : List Addr} {vs : List V}, Rels K H vs (Cs.map Z.D.ref) → Paired ClsV vs (Cs.map Value.ref)
  | [], [], .nil => .nil
  | C :: Cs, v :: vs, .cons r rr => by
    cases r
    exact .cons (.own C) (clsV_refs rr)
end
end Z
namespace Z
open PySem
theorem kit_cls {K : PySem.W.Frag} {S C : Addr} {b : Bool} (h2 : PySem.W.isClsIn K C = true) (h3 : PySem.W.typeIn K (.ref C) = some (.type "type")) (h4 : PySem.W.subIn K (.ref S) (.ref C) = some b) : PySem.W.kitCls K (.ref S) (.ref C) = some b := by
  have e2 : ((PySem.W.clsIn K C).isSome && PySem.W.typeIn K (.ref C) == some (.type "type")) = true := by
    have h5 : (PySem.W.clsIn K C).isSome = true := h2
    rw [h5, h3] <;> rfl
  show (if ((PySem.W.clsIn K C).isSome && PySem.W.typeIn K (.ref C) == some (.type "type")) = true then PySem.W.subIn K (.ref S) (.ref C) else none) = some b
  rw [if_pos e2]
  exact h4
theorem kit_own {K : PySem.W.Frag} {S C : Addr} {b : Bool} (hs : PySem.W.subIn K (.ref S) (.ref S) = some true) (h2 : PySem.W.isClsIn K C = true) (h3 : PySem.W.typeIn K (.ref C) = some (.type "type")) (h4 : PySem.W.subIn K (.ref S) (.ref C) = some b) : PySem.W.kitOne K (.ref S) (.ref C) = some b := by
  unfold PySem.W.kitOne
  split
  · rename_i e
    have : S = C := Value.ref.inj (beq_iff_eq.mp e)
    subst this
    rw [hs] at h4
    exact h4
  · exact kit_cls h2 h3 h4
theorem kit_bt {K : PySem.W.Frag} {S : Addr} {n : String} {b : Bool} (hm : PySem.W.kitMeta n = true) (h4 : PySem.W.subIn K (.ref S) (.type n) = some b) : PySem.W.kitOne K (.ref S) (.type n) = some b := by
  unfold PySem.W.kitOne
  rw [if_neg (by simp)]
  show (if PySem.W.kitMeta n = true then PySem.W.subIn K (.ref S) (.type n) else none) = some b
  rw [if_pos hm]
  exact h4
end Z
namespace LK
open PySem PySem.Spec PyProof.Rows L2 LamX NdefX PySem.W
end LK
namespace LK
open PySem PySem.Spec PyProof.Rows L2 LamX NdefX PySem.W
section
variable {X : Cx}
/-- the frame's own objects lie below -/
theorem low {pins : List (Addr × Obj)} {σ : L2.St} {H : Hp} {s : Shared} (I : Inv X pins σ H s) {b : Addr} (h : s.heap.objs.size ≤ b) :
    (b ∈ X.ex ∨ X.s_0.heap.objs.size ≤ b) ∧ b ≠ X.env.locals ∧ (∀ x c, X.env.cells.lookup x = some c → c ≠ b) ∧ ∀ p ∈ X.pn ++ pins, p.1 ≠ b := by
  refine ⟨.inr (Nat.le_trans I.sz h), Nat.ne_of_gt (Nat.lt_of_lt_of_le I.lt h), fun x c e => ?_, fun p hp => ?_⟩
  · obtain ⟨v, o, ho, _⟩ := I.cell x c e
    exact Nat.ne_of_lt (Nat.lt_of_lt_of_le (Heap.lt_size ho) h)
  · exact Nat.ne_of_lt (Nat.lt_of_lt_of_le (Heap.lt_size (I.pin p hp).1) h)
end
end LK
namespace LK
open PySem PySem.Spec PyProof.Rows L2 LamX NdefX PySem.W
structure FunT (K : PySem.W.Frag) (x qual : Str) (st : Stmt) (c f : Addr) (fd : FuncData) : Prop where
  ex : ∃ (oc : Value) (od : Option Addr) (kV doc pm : Value) (an : Option Addr) (ct : Value) (osl : Array (Option Value)),
    fd = PySem.W.fnOf x qual (defArgs st) (defBody st) (defScope st) .none kV doc pm an (.ref c) ct ∧ K.lookup f = some ⟨oc, od, .func fd, osl⟩ ∧ PySem.W.codeIn K (.ref c) qual = true
  kp : PySem.W.keepIn K (.ref f) = true
section
variable {P : Program} {w : World} {K : PySem.W.Frag} {mg : Str → Option Value} {base : Heap} {x qual : Str} {st : Stmt} {c f : Addr} {fd : FuncData}
theorem FunT.ok {CX : CXT} {N ps : List Str} {k : Nat} {sp : Sp} (F : FunT K x qual st c f fd) (S : FnScope N ps (defScope st)) (len : ∀ vs H Q E, sp vs H Q E → vs.length = ps.length)
    (hbody : ∀ (A : Around) (outer : List Env) (s : Shared) (H : Hp) (vs : List V) (Q : VK) (E : XK), Room k (A.deeper (envOfC qual (defScope st) s.heap.objs.size f (.ref c))) → sp vs H Q E →
      ∃ t, PSs (cxOf CX P w K mg base N qual (defScope st) f (.ref c) A outer s H E) (defBody st) t ∧ t { nx := fun _ H' => Q .non H', rt := Q } (start N vs) H) : FnOk P w K mg base CX (k + 1) f fd ps sp := by
  obtain ⟨oc, od, kV, doc, pm, an, ct, osl, rfl, lk, hcd⟩ := F.ex
  exact fn_of lk hcd S len hbody
theorem FunT.fn (F : FunT K x qual st c f fd) : Fun K x qual st f fd := by
  obtain ⟨oc, od, kV, doc, pm, an, ct, osl, e, lk, hcd⟩ := F.ex
  exact ⟨⟨oc, od, kV, doc, pm, an, .ref c, ct, osl, e, lk, hcd⟩, F.kp⟩
end
end LK
namespace Z
open PySem L2 LK PySem.W
end Z
namespace EK
open PySem PySem.Spec PyProof.Rows L2
end EK
namespace Z
open PySem L2 EK
end Z
namespace OD
open PySem PySem.Spec PyProof.Rows L2 PySem.W
end OD
namespace Z
open PySem L2 OD PySem.W
abbrev t3 (a b c : Int) : D := .tup [.int a, .int b, .int c]
end Z
namespace Z
open PySem PySem.Spec PyProof.Rows L2 LK LamX
end Z
namespace Z
open PySem L2
section
variable {K : PySem.W.Frag} {τ : T} {μ μ1 μ2 : M} {Φ : D → M → Prop} {te : TE} {tt tt1 : TT} {wi wi1 : TI} {g g1 : TG}
theorem a_methI {P : PT3} {E : XK} {C : Addr} {m : Str} {ta : TA} (h : AE K te τ μ fun o μ1 => ∃ a dx fs, o = .ref a ∧ μ1 a = some (.ins C dx fs) ∧ fs.lookup m = none ∧ AA K ta τ μ1 fun ds μ2 => P (o :: ds) μ2 Φ) :
    AE K (tMeth C m (spI K P) [] E te ta) τ μ Φ := fun σ H s c Q k =>
  h σ H s c _ fun o μ1 v H1 f1 c1 r1 ⟨a, dx, fs, e, ha, hm, p1⟩ => by
    subst e
    cases r1
    obtain ⟨vs, hv, hr⟩ := c1 a _ ha
    refine ⟨a, dx, vs, rfl, hv, look_none hr hm, p1 σ H1 (s.mono (f1.tx c)) c1 _ fun ds μ2 us H2 f2 c2 r2 p => ?_⟩
    rw [List.append_nil]
    exact ⟨.ref a :: ds, μ2, Φ, .cons (.ref a) r2, c2, p, fun d μ' v H' f c' r q => k d μ' v H' ((f1.trans f2).trans f) c' r q⟩
theorem a_lcp {js : List Nat} {dec : D → List D → Prop} (hg : TgOk K g js dec) (f : D → D) (p : D → Bool)
    (h : AI K wi τ μ fun xs μw back => xs.length < sizeLine ∧ (∀ x ∈ xs, ∃ ds, dec x ds ∧ ds.length = js.length ∧ AT K tt (sets τ js ds) μw (fun b μ2 => b = p x ∧ μ2 = μw) ∧ (p x = true → AE K te (sets τ js ds) μw fun y μ2 => y = f x ∧ μ2 = μw)) ∧
      ∀ q, back μw q = none → Φ (.ref q) ((back μw).set q (.lst ((xs.filter p).map f)))) : AE K (tLc wi g tt te js) τ μ Φ :=
  a_lc hg (fun σ H s c R k => h σ H s c R fun J xs out G H1 μw back tx c1 W g1 o1 B ⟨hz, ht, he⟩ => k J xs out G H1 μw back tx c1 W g1 o1 B (by
    refine ⟨fun i acc μ' => μ' = μw ∧ acc = ((xs.take i).filter p).map f, ⟨rfl, rfl⟩, ?_, ?_⟩
    · rintro i x acc μ' hx ⟨rfl, rfl⟩
      obtain ⟨ds, hd, hl, h1, h2⟩ := ht x (List.mem_of_getElem? hx)
      refine ⟨ds, hd, hl, h1.imp fun b μ2 ⟨e1, e2⟩ => ?_⟩
      subst e2
      dsimp only
      rw [filt_step (f := f) hx]
      cases b with
      | true =>
        rw [if_pos rfl]
        refine (h2 e1.symm).imp fun y μ' ⟨e3, e4⟩ => ?_
        subst e4
        refine ⟨?_, rfl, ?_⟩
        · rw [List.length_map]
          have l1 := List.length_filter_le p (xs.take i)
          have l2 : (xs.take i).length ≤ xs.length := by rw [List.length_take]; omega
          omega
        · rw [if_pos e1.symm, List.map_append, e3]
          rfl
      | false =>
        rw [if_neg Bool.false_ne_true]
        refine ⟨rfl, ?_⟩
        rw [if_neg (by rw [← e1]; exact Bool.false_ne_true), List.append_nil]
    · rintro acc μ' ⟨rfl, rfl⟩ a ha
      rw [List.take_length]
      exact he a ha))
theorem eqv_lists (ds es : List D) : PyData.eqv (.list (D.pys ds)) (.list (D.pys es)) = D.eqv (.tup ds) (.tup es) := by
  unfold D.eqv
  simp only [D.py, PyData.eqv]
theorem okn_list {n : Nat} {ds : List D} (ok : ∀ x ∈ ds, OkN n x) (hn : n < 64) : SeqAt.shaped (.list (D.pys ds)) = true := by
  obtain ⟨h1, h2, h3⟩ := okn_all ok
  unfold SeqAt.shaped
  simp only [PyData.canLay0, PyData.depth, h2, Bool.true_and]
  exact decide_eq_true (by omega)
theorem ro_neL {a b : Addr} {n : Nat} {ds es : List D} (h1 : μ a = some (.lst ds)) (h2 : μ b = some (.lst es)) (ok1 : ∀ x ∈ ds, OkN n x) (ok2 : ∀ x ∈ es, OkN n x) (hn : n < 64) (q : Φ (.bl (!D.eqv (.tup ds) (.tup es))) μ) : RO K (rNeD K) (.ref a) (.ref b) μ Φ := fun H x y c r1 r2 Q k => by
  cases r1; cases r2
  obtain ⟨vs, hv, hr⟩ := c _ _ h1
  obtain ⟨ws, hw, hs⟩ := c _ _ h2
  refine ⟨_, _, .lst (SqL.of hv) (Rels.dp _ _ hr (okn_all ok1).1), .lst (SqL.of hw) (Rels.dp _ _ hs (okn_all ok2).1), okn_list ok1 hn, okn_list ok2 hn, ?_⟩
  rw [eqv_lists]
  exact k _ μ _ H Fr.refl c (.bl _) q
theorem eqv_nil (ds : List D) : D.eqv (.tup ds) (.tup []) = ds.isEmpty := by
  unfold D.eqv
  simp only [D.py]
  cases ds with
  | nil => simp [D.pys, PyData.eqv, PyData.eqvAll]
  | cons x xs => simp [D.pys, PyData.eqv, PyData.eqvAll]
end
end Z
namespace L2
namespace DCT
open PySem PySem.Spec PyProof.Rows
end DCT
end L2
namespace Z
open PySem L2 PySem.W L2.DCT
end Z
namespace Z
open PySem L2 PySem.W
end Z
namespace Z
open PySem PySem.Spec PyProof.Rows L2
end Z
namespace L2M
open PySem PySem.Spec PyProof.Rows L2
end L2M
namespace Z
open PySem L2 L2M
structure HZ where
  c : Value
  oi : Option Nat
  tu : Addr → Value → Option Addr → TS
  hit : Str → Bool
def HZ.t (h : HZ) : Value × Option Nat × (Addr → Value → Option Addr → TS) := (h.c, h.oi, h.tu)
end Z
namespace PySem.W
open PySem PySem.Spec PySem.Calls PyProof.Rows
section
variable {prog : Program} {w : World} {A : Around} {E : Value → Shared → Prop} {s : Shared} {K : Frag} {x D : Addr} {ox : Obj} {od : Option Obj}
/-- __class__ is found at object's descriptor, whatever fields x has of its own -/
theorem class_at (dict_ : hasDictIn K D = true) (ha : findIn K (.ref D) "__class__" = some (some (.builtin "object.__class__"))) (hn : specialIn K (.builtin "object.__class__") "__get__" = some (some (.builtin "getset_descriptor.__get__"))) (htk : takesIn K (.builtin "object.__class__") = some true) :
    findObj K D od "__class__" = some (.bind (.builtin "getset_descriptor.__get__") (.builtin "object.__class__")) := by
  obtain ⟨cd, known, _⟩ := any_some dict_
  unfold findObj
  simp [known, ha, hn, htk]
/-- object.__getattribute__(x, "__class__") -/
theorem slot_class {tk : Tok} {Q : Fin → Shared → Prop} (hm : mroIn K D (.type "object") = some true) (hf : findObj K D od "__class__" = some (.bind (.builtin "getset_descriptor.__get__") (.builtin "object.__class__"))) (X : K.In s.heap) (I : InstAt s.heap x ox D od) (q : Q (.done (.ret (.ref D))) s) :
    wpAny (model prog w) A (Builtin.«object.__getattribute__» ⟨[.ref x, .str "__class__" tk], []⟩) Q E s := by
  have cls := I.type (M := model prog w)
  have found := looks_find (M := model prog w) X I hf
  unfold Builtin.«object.__getattribute__»
  apply wpAny_bind
  apply wpAny_of_eq (a := ((Value.ref x : Value), [Value.str "__class__" tk])) (by first | rfl | (simp only [slotArgs]; rfl))
  apply wpAny_bind
  apply wpAny_pure
  apply wpAny_bind
  apply cls.at
  apply wpAny_bind
  apply found.at
  show wpAny _ _ (holding [Value.builtin "object.__class__"] (call (.builtin "getset_descriptor.__get__") [.builtin "object.__class__", .ref x, .ref D]) >>= ret) _ _ _
  apply wpAny_bind
  apply wpAny_holding
  apply wpAny_call
  apply class_get (ox := ox) (od := od) X I hm
  exact wpAny_pure q
theorem kin_classO {Q : Option Value → Shared → Prop} (hga : findIn K (.ref D) "__getattribute__" = some (some (.builtin "BaseException.__getattribute__"))) (hgt : findIn K (.ref D) "__getattr__" = some none) (hsub : subIn K (.ref D) (.type "BaseException") = some true)
    (hdct : hasDictIn K D = true) (ha : findIn K (.ref D) "__class__" = some (some (.builtin "object.__class__")))
    (hn : specialIn K (.builtin "object.__class__") "__get__" = some (some (.builtin "getset_descriptor.__get__"))) (htk : takesIn K (.builtin "object.__class__") = some true) (hm : mroIn K D (.type "object") = some true)
    (X : K.In s.heap) (I : InstAt s.heap x ox D od) (h : Q (some (.ref D)) { s with toks := s.toks + 1 }) : wpAny (model prog w) A (getAttr? (.ref x) "__class__") Q E s := by
  rcases s with ⟨hp, g, d, t, os⟩
  have cls := I.type (M := model prog w)
  have ga := PySem.F.excAttr_ValueError.ga
  have isExc : Looks (model prog w) hp (isInstance (.ref x) (.type "BaseException")) true := cls.andThen (looks_subIn X hsub)
  have others : (Value.builtin "BaseException.__getattribute__" == Value.builtin "object.__getattribute__") = false := by decide +kernel
  have onHeap : onTheHeap (Value.ref D) = true := rfl
  unfold getAttr? getAttrBy? getAttrBy
  apply wpAny_bind
  apply wpAny_mkText
  apply wpAny_bind
  apply wpAny_attempt
  apply wpAny_holding
  apply wpAny_bind
  apply cls.at
  apply wpAny_bind
  apply (looks_findIn X hga).at
  dsimp only
  rw [others, Bool.and_false, if_neg Bool.false_ne_true]
  unfold getAttrByItsOwn hookBefore
  apply wpAny_bind
  rw [if_pos onHeap]
  apply (looks_findIn X hgt).at
  apply wpAny_bind
  apply wpAny_attempt
  apply wpAny_holding
  unfold callGetattribute
  rw [show (false && onTheHeap (Value.builtin "BaseException.__getattribute__")) = false from rfl, if_neg Bool.false_ne_true]
  unfold boundAndCalled
  rw [ga.bind (.ref x)]
  apply wpAny_bind
  apply wpAny_pure
  show wpAny _ _ (call (.builtin "BaseException.__getattribute__") [.ref x, .str "__class__" t]) _ _ _
  apply wpAny_call
  apply codeAny_call_builtin ga.plain PySem.F.entry_bexc_ga
  apply @check_slot (model prog w) _ _ ⟨hp, g, d, t + 1, os⟩ "BaseException.__getattribute__" "BaseException" "__getattribute__" (.ref x) [.str "__class__" t] [] _ (by decide +kernel) (by decide +kernel) isExc (PySem.F.args_bexc_ga (.ref x) (.str "__class__" t))
  apply slot_class hm (class_at hdct ha hn htk) (s := ⟨hp, g, d, t + 1, os⟩) X I
  show wpAny _ _ (handedOut (.ref D)) _ _ _
  rw [handedOut_of (v := .ref D) rfl]
  first
    | exact wpAny_pure (wpAny_pure h)
    | exact wpAny_pure h
/-- the class of the text at D stands in each heap of the kit -/
theorem class_there {h : Heap} (dict_ : hasDictIn K D = true) (X : K.In h) : ∃ c d cd sl, h.get? D = some ⟨c, d, .cls cd, sl⟩ := by
  obtain ⟨_, known, _⟩ := any_some dict_
  unfold clsIn at known
  split at known
  · exact ⟨_, _, _, _, X _ _ ‹_›⟩
  · cases known
theorem kitx_excO (hga : findIn K (.ref D) "__getattribute__" = some (some (.builtin "BaseException.__getattribute__"))) (hgt : findIn K (.ref D) "__getattr__" = some none) (hsub : subIn K (.ref D) (.type "BaseException") = some true) (hdct : hasDictIn K D = true) (ha : findIn K (.ref D) "__class__" = some (some (.builtin "object.__class__")))
    (hn : specialIn K (.builtin "object.__class__") "__get__" = some (some (.builtin "getset_descriptor.__get__"))) (htk : takesIn K (.builtin "object.__class__") = some true) (hm : mroIn K D (.type "object") = some true) :
    KitX K (.ref x) (.ref D) (fun h => InstAt h x ox D od) where
  ty := fun _ _ _ I => I.type
  it := by
    intro M h X _ A' Q' E' z kept q
    obtain ⟨_, _, _, _, at_⟩ := class_there hdct X
    unfold isType loadHead
    apply wpAny_bind
    apply wpAny_loadPart (kept _ _ at_)
    exact wpAny_pure q
  ne := by
    intro h tp dd its n sl X tuple
    obtain ⟨_, _, _, _, at_⟩ := class_there hdct X
    rw [beq_eq_false_iff_ne]
    intro same
    obtain rfl := Value.ref.inj same
    cases at_.symm.trans tuple
  ca := fun X I q => kin_classO hga hgt hsub hdct ha hn htk hm X I q
end
end PySem.W
namespace Z
open PySem PySem.Spec PyProof.Rows L2
/-- .. with or without fields -/
def rIsY (K : PySem.W.Frag) (cls : Value) (d : Option Addr) (a : Addr) : List V → Hp → VK → Prop := fun xs H Q => ∃ (c : V) (D : Addr) (b : Bool), xs = [.ref a, c] ∧ cls = .ref D ∧ (d = none ∨ ∃ dd fs, d = some dd ∧ H dd = some (.xd fs)) ∧ ExcC K D ∧
  ((∃ u, ClsV c u ∧ PySem.W.kitOne K (.ref D) u = some b) ∨ (∃ (tp : Addr) (cs : List V) (us : List Value), c = .ref tp ∧ H tp = some (.tup cs) ∧ Paired ClsV cs us ∧ PySem.W.kitAny K (.ref D) us = some b)) ∧ Q (.bl b) H
/-- its record and its field's home, as an instance -/
theorem inst_ofY {P : Program} {w : World} {H : Hp} {h : Heap} {a D : Addr} {d : Option Addr} {oe : Obj} (g : h.get? a = some oe) (hz : Zc (.ref D) d oe) (hf : ∃ vs, oe.data = .fields vs) (k : HOk P w H h) (hd : d = none ∨ ∃ dd fs, d = some dd ∧ H dd = some (.xd fs)) : ∃ od, PySem.W.InstAt h a oe D od :=
by
  rcases oe with ⟨_, _, _, _⟩
  rcases hz with ⟨rfl, rfl⟩
  rcases hf with ⟨_, rfl⟩
  rcases hd with no | ⟨dd, fs, at_, ed⟩
  · exact ⟨none, g, rfl, rfl, by rw [no]; trivial⟩
  · obtain ⟨_, ⟨o, _, _, e, -⟩, -⟩ := (show ObjOk P w H h dd (.xd fs) from k dd _ ed)
    exact ⟨some o, g, rfl, rfl, by rw [at_]; exact e⟩
/-- isinstance of an error that is pinned -/
theorem call_isP {X : Cx} {K : PySem.W.Frag} {a : Addr} {cls : Value} {d : Option Addr} {oe : Obj} (hK : X.K = K) (hp : (a, oe) ∈ X.pn) (hz : Zc cls d oe) (hf : ∃ vs, oe.data = .fields vs) : CallR X (.builtin "isinstance") (rIsY K cls d a) := by
  subst hK
  intro pins s σ H xs us Q I r ⟨c, D, b, told, ec, hd, C, hc, q⟩
  subst told ec
  have done : ∀ tk, EP X pins σ Q (.bool b) { s with toks := tk } := fun tk => ⟨.bl b, H, I.kept (t' := tk) fun _ _ z => z, rfl, q⟩
  have kinds := fun od => PySem.W.kitx_excO (K := X.K) (x := a) (ox := oe) (od := od) C.hg C.hk C.hs C.hd C.ha C.hn C.ht C.hm
  obtain ⟨od, J⟩ := inst_ofY (I.pin (a, oe) (List.mem_append_left _ hp)).1 hz hf I.hok hd
  match us, r with
  | [_, u2], .cons rfl (.cons r2 .nil) =>
    match c, hc, r2 with
    | c, .inl ⟨u, cv, e⟩, r2 => exact cv.eq r2 ▸ PySem.W.kia_one (kinds od) I.kIn J e (fun z => nomatch z) done
    | _, .inr ⟨tp, cs, ws, rfl, ht, cv, e⟩, rfl =>
      obtain ⟨_, its, rv, ⟨oc, od', dt, sl⟩, h1, h2, n, h3⟩ := (show ObjOk X.prog X.w H s.heap tp (.tup cs) from I.hok tp _ ht)
      obtain rfl := ClsV.all cv rv
      cases h2
      cases h3
      exact PySem.W.kia_tup (kinds od) I.kIn J h1 e (fun z => nomatch z) done
section
variable {K : PySem.W.Frag} {μ : M} {Φ : D → M → Prop} {a : Addr} {cls : Value} {d : Option Addr}
def Xdk (μ : M) (d : Option Addr) : Prop := d = none ∨ ∃ dd fs, d = some dd ∧ μ dd = some (.xd fs)
theorem xdk_h {H : Hp} (c : Z.Con K H μ) (h : Xdk μ d) : d = none ∨ ∃ dd fs, d = some dd ∧ H dd = some (.xd fs) := by
  rcases h with h | ⟨dd, fs, h, e⟩
  · exact .inl h
  · obtain ⟨vs, hv, _⟩ := c _ _ e
    exact .inr ⟨dd, vs, h, hv⟩
theorem rc_isY1 {D C : Addr} {b : Bool} (ec : cls = .ref D) (ed : Xdk μ d) (E : ExcC K D) (h : PySem.W.kitOne K (.ref D) (.ref C) = some b) (q : Φ (.bl b) μ) : RC K (rIsY K cls d a) [.ref a, .ref C] μ Φ := fun H xs c r Q k => by
  cases r with
  | cons r1 rr =>
    cases rr with
    | cons r2 rr =>
      cases rr
      cases r1
      cases r2
      exact ⟨_, D, b, rfl, ec, xdk_h c ed, E, .inl ⟨_, .own C, h⟩, k (.bl b) μ _ H Fr.refl c (.bl b) q⟩
theorem rc_isYb {D : Addr} {n : String} {b : Bool} (ec : cls = .ref D) (ed : Xdk μ d) (E : ExcC K D) (h : PySem.W.kitOne K (.ref D) (.type n) = some b) (q : Φ (.bl b) μ) : RC K (rIsY K cls d a) [.ref a, .ty n] μ Φ := fun H xs c r Q k => by
  cases r with
  | cons r1 rr =>
    cases rr with
    | cons r2 rr =>
      cases rr
      cases r1
      cases r2
      exact ⟨_, D, b, rfl, ec, xdk_h c ed, E, .inl ⟨_, .ty n, h⟩, k (.bl b) μ _ H Fr.refl c (.bl b) q⟩
theorem rc_isYt {D : Addr} (Cs : List Addr) {b : Bool} (ec : cls = .ref D) (ed : Xdk μ d) (E : ExcC K D) (h : PySem.W.kitAny K (.ref D) (Cs.map .ref) = some b) (q : Φ (.bl b) μ) : RC K (rIsY K cls d a) [.ref a, .tup (Cs.map Z.D.ref)] μ Φ := fun H xs c r Q k => by
  cases r with
  | cons r1 rr =>
    cases rr with
    | cons r2 rr =>
      cases rr
      cases r1
      cases r2 with
      | tup ht rs =>
        obtain ⟨ht⟩ := ht
        exact ⟨_, D, b, rfl, ec, xdk_h c ed, E, .inr ⟨_, _, _, rfl, ht, clsV_refs rs, h⟩, k (.bl b) μ _ H Fr.refl c (.bl b) q⟩
end
end Z
namespace Z
open PySem PySem.Spec PyProof.Rows L2
def rMulSB : R2 := fun x y H Q => ∃ (a : Str) (n : Int), x = .str a ∧ y = .int n ∧ (n = 0 ∨ n = 1) ∧ Q (.str (if n = 1 then a else Str.empty)) H
theorem op_mul_sb {X : Cx} : OpR X (binaryOp .Mult) rMulSB := by
  intro pins s σ H x y v u Q I rx ry h
  obtain ⟨a, n, rfl, rfl, hn, q⟩ := h
  obtain ⟨t, rfl⟩ := rx
  obtain ⟨t', rfl⟩ := ry
  rcases hn with rfl | rfl
  · rw [if_neg (by decide)] at q
    exact PySem.P.mul_str_none (by decide) (by decide) ⟨.str Str.empty, H, I.tok _, ⟨_, rfl⟩, q⟩
  · rw [if_pos rfl] at q
    refine PySem.P.mul_str (by decide) (fun _ h => ?_) (fun _ h => ?_) ?_
    · simp at h
    · simp at h
    · rw [if_neg (by decide), if_pos (by rfl)]
      exact ⟨.str a, H, I, ⟨_, rfl⟩, q⟩
section
variable {K : PySem.W.Frag} {τ : T} {μ μ1 μ2 : M} {Φ : D → M → Prop} {te : TE}
theorem ro_mul_sb {s : Str} {n : Int} (hn : n = 0 ∨ n = 1) (q : Φ (.str (if n = 1 then s else Str.empty)) μ) : RO K rMulSB (.str s) (.int n) μ Φ := fun H x y c r1 r2 Q k => by
  cases r1; cases r2
  exact ⟨s, n, rfl, rfl, hn, k _ μ _ H Fr.refl c (.str _) q⟩
theorem rc_strI {i : Int} (hi : i.natAbs.log2 < 1920) (q : Φ (.str (Str.ofString (toString i))) μ) : RC K (fun xs H Q => ∃ i : Int, xs = [V.int i] ∧ i.natAbs.log2 < 1920 ∧ Q (.str (Str.ofString (toString i))) H) [.int i] μ Φ := fun H xs c r Q k => by
  cases r with
  | cons a b => cases a; cases b; exact ⟨i, rfl, hi, k _ μ _ H Fr.refl c (.str _) q⟩
end
end Z
namespace Z
open PySem L2 L2M
end Z
namespace Z
open PySem L2
theorem a_cref {K : PySem.W.Frag} {τ : T} {μ : M} {Φ : D → M → Prop} {a : Addr} (h : Φ (.ref a) μ) : AE K (tC (.ref a)) τ μ Φ := fun σ H s c Q k => k (.ref a) μ _ H Fr.refl c (.ref a) h
theorem ro_neS {K : PySem.W.Frag} {μ : M} {Φ : D → M → Prop} {i j : Str} (q : Φ (.bl (!decide (i = j))) μ) : RO K rNe (.str i) (.str j) μ Φ := fun H x y c r1 r2 Q k => by
  cases r1; cases r2
  refine ⟨rfl, ?_⟩
  have e : decide (V.str i = V.str j) = decide (i = j) := by simp
  rw [e]
  exact k _ μ _ H Fr.refl c (.bl _) q
end Z
namespace RVT
open PySem PySem.Spec PyProof.Rows L2 HT
def tRevT (K : PySem.W.Frag) (te : TE) : TE := fun σ H Q => te σ H fun x H1 => ∃ a xs, x = .ref a ∧ SqT K H1 a xs ∧ ∀ p, H1 p = none → Q (.ref p) (upd H1 p (.tup xs.reverse))
end RVT
namespace Z
open PySem L2
theorem a_revT {K : PySem.W.Frag} {τ : T} {μ : M} {te : TE} {Φ : D → M → Prop} (h : AE K te τ μ fun d μ1 => ∃ ds, d = .tup ds ∧ Φ (.tup ds.reverse) μ1) : AE K (RVT.tRevT K te) τ μ Φ := fun σ H s c Q k =>
  h σ H s c _ fun d μ1 v H1 f1 c1 r1 ⟨ds, e, q⟩ => by
    subst e
    cases r1 with
    | @tup a xs _ ht hr => exact ⟨a, xs, rfl, ht.sq, fun p hp => k _ _ _ _ (f1.trans (fr_new hp)) (con_new hp c1) (.tup (.inl upd_same) (Rels.mono (tx_new hp) _ _ hr.reverse)) q⟩
end Z
namespace SDT
open PySem PySem.Spec PyProof.Rows L2 PySem.W
end SDT
namespace Z
open PySem L2 SDT PySem.W
end Z
namespace STI
open PySem PySem.Spec PyProof.Rows L2 PySem.W SDT
end STI
namespace Z
open PySem L2 STI PySem.W
end Z
namespace Z
open PySem L2 PySem.W
end Z
namespace Z
open PySem L2 SD PySem.W
end Z
namespace Z
open PySem L2 PySem.W
end Z
namespace RZ3
open PySem PySem.Spec PyProof.Rows L2 RZ
end RZ3
namespace Z
open PySem L2 PySem.W RZ3
end Z
namespace Z
open PySem L2 PySem.W
def isN : D → Bool
  | .non => true
  | _ => false
theorem isN_rel {K : PySem.W.Frag} {H : Hp} {x : V} {d : D} (r : Rel K H x d) : decide (x = V.non) = isN d := by
  cases r <;> simp [isN]
theorem ro_isN {K : PySem.W.Frag} {μ : M} {Φ : D → M → Prop} {d : D} (q : Φ (.bl (isN d)) μ) : RO K (fun x y H Q => y = V.non ∧ Q (V.bl (decide (x = V.non))) H) d .non μ Φ := fun H x y c r1 r2 Q k => by
  cases r2
  rw [isN_rel r1]
  exact ⟨rfl, k _ μ _ H Fr.refl c (.bl _) q⟩
theorem ro_notN {K : PySem.W.Frag} {μ : M} {Φ : D → M → Prop} {d : D} (q : Φ (.bl (!isN d)) μ) : RO K (fun x y H Q => y = V.non ∧ Q (V.bl (!decide (x = V.non))) H) d .non μ Φ := fun H x y c r1 r2 Q k => by
  cases r2
  rw [isN_rel r1]
  exact ⟨rfl, k _ μ _ H Fr.refl c (.bl _) q⟩
end Z
namespace EN
open PySem PySem.Spec PyProof.Rows L2
end EN
namespace Z
open PySem L2 EK EN
end Z
namespace Z
open PySem L2 OD PySem.W
end Z
namespace Z
open PySem L2 PySem.W
end Z
namespace ITT
open PySem PySem.Spec PyProof.Rows L2 PySem.W
end ITT
namespace Z
open PySem L2 ITT PySem.W
end Z
namespace OD2
open PySem PySem.Spec PyProof.Rows L2 PySem.W
end OD2
namespace Z
open PySem L2 OD2 PySem.W
end Z
namespace L2T
open PySem PySem.Spec PyProof.Rows L2 L2M
end L2T
namespace Z
open PySem L2 L2M L2T
structure HT where
  cs : List Value
  oi : Option Nat
  tu : Addr → Value → Option Addr → TS
  hit : Str → Bool
def HT.t (h : HT) : List Value × Option Nat × (Addr → Value → Option Addr → TS) := (h.cs, h.oi, h.tu)
end Z
namespace Z
open PySem L2 PyProof.Rows
end Z
namespace SIT
open PySem PySem.Spec PyProof.Rows L2 PySem.W SD SDT
end SIT
namespace Z
open PySem L2 SIT PySem.W
end Z
namespace CNT
open PySem PySem.Spec PyProof.Rows L2 PySem.W PySem.SeqAt
end CNT
namespace Z
open PySem L2 CNT PySem.W
end Z
namespace Z
open PySem L2 CNT SIT PySem.W PySem.Spec PyProof.Rows
section
variable {X : Cx} {K : PySem.W.Frag} {e o a : Expr} {te to ta : TE} {p p2 q apos cpos pos : Pos}
theorem pe_joinK {apos pos : Pos} (h : X.K = K) (ho : PE X o to) (he : PE X e te) (hs : starEach [e] X.env = [(false, eval e X.env)] := by rfl) (hbase : attributeBase o "join" X.env (eval o X.env) = eval o X.env := by rfl) (hline : (apos.endLine == pos.line) = true := by rfl) :
    PE X (.Call (.Attribute o "join" apos) [e] [] pos) (tM1 (fun x xs H Q => ∃ a p, ∃ ys : List Str, x = .str a ∧ xs = [.ref p] ∧ (SqL K H p (ys.map V.str) ∨ SqT K H p (ys.map V.str)) ∧
      (ys.map (·.length)).sum + ys.length * a.length ≤ 16777216 ∧ Q (.str (Txt.join a ys)) H) to te) := by subst h; exact pe_join ho he hs hbase hline
end
end Z
namespace Z
open PySem L2 PySem.W
section
variable {K : PySem.W.Frag} {τ : T} {μ : M} {Φ : D → M → Prop} {te to : TE} {H1 : Hp}
/-- a text of one sign -/
abbrev sg (c : Nat) : D := .str ⟨#[c]⟩
/-- the signs of a text, in turn -/
def signsD (s : Str) : List D := s.cps.toList.map sg
theorem signs_len (s : Str) : (signsD s).length = s.cps.size := by simp [signsD]
theorem walk_S {s : Str} : WalkD K (Its s) (signsD s) (fun _ => False) (fun _ => True) where
  keep := fun _ _ _ _ _ _ _ _ => trivial
  oo := fun _ _ _ h => h.elim
  go := fun i H' hi _ => Nat.lt_of_lt_of_eq hi (signs_len s)
  stop := fun i H' hi _ => Nat.le_trans (Nat.le_of_eq (signs_len s).symm) hi
  yld := fun i H' v H2 _ _ y => by
    obtain ⟨rfl, c, hc, rfl⟩ := y
    exact ⟨sg c, by unfold signsD; rw [List.getElem?_map, Array.getElem?_toList, hc]; rfl, .str _, .inl rfl⟩
theorem ai_str {Ψ : List D → M → (M → M) → Prop} (h : AE K te τ μ fun o μ1 => ∃ s, o = .str s ∧ Ψ (signsD s) μ1 id) : AI K (iStr te) τ μ Ψ := fun σ H s c R k =>
  h σ H s c _ fun o μ1 v H1 f1 c1 r1 ⟨x, e, q⟩ => by
    subst e
    cases r1
    exact ⟨x, rfl, k _ _ _ _ H1 μ1 id (f1.tx c) c1 walk_S trivial (fun _ z => z.elim) (back_id f1) q⟩
/-- texts, as values and as data -/
theorem rels_strs {H : Hp} : ∀ {ns : List Str} {vs : List V}, Rels K H vs (ns.map D.str) → vs = ns.map V.str
  | [], _, .nil => rfl
  | _ :: _, _, .cons (.str _) r => congrArg _ (rels_strs r)
theorem strs_rels {H : Hp} : ∀ ns : List Str, Rels K H (ns.map V.str) (ns.map D.str)
  | [] => .nil
  | n :: ns => .cons (.str n) (strs_rels ns)
/-- x.split(sep) -/
theorem m_split {a b : Str} (h : AE K to τ μ fun o μ1 => o = .str a ∧ AE K te τ μ1 fun y μ2 => y = .str b ∧ (b.length == 0) = false ∧ a.length + 2 ≤ sizeLine ∧ ∀ p, μ2 p = none → Φ (.ref p) (μ2.set p (.lst ((Txt.split a b).map D.str)))) :
    AE K (tM1 (fun x xs H Q => ∃ a b, x = .str a ∧ xs = [.str b] ∧ (b.length == 0) = false ∧ a.length + 2 ≤ sizeLine ∧ rNewStrs (Txt.split a b) H Q) to te) τ μ Φ := fun σ H s c Q k =>
  h σ H s c _ fun o μ1 v H1 f1 c1 r1 ⟨e, p1⟩ => by
    subst e
    cases r1
    refine ⟨⟨_, rfl⟩, p1 σ H1 (s.mono (f1.tx c)) c1 _ fun y μ2 u H2 f2 c2 r2 ⟨e0, hb, hz, q⟩ => ?_⟩
    subst e0
    cases r2
    refine ⟨a, b, rfl, rfl, hb, hz, fun p hp => ?_⟩
    exact k _ _ _ _ ((f1.trans f2).trans (fr_put hp)) (con_put (m := .lst ((Txt.split a b).map D.str)) hp c2 ⟨_, upd_same, strs_rels _⟩) (.ref p) (q p (c2.free hp))
/-- int(text) -/
theorem rc_intS {a : Str} {n : Int} (hn : PySem.intText? a = some n) (hl : a.length ≤ 640) (q : Φ (.int n) μ) : RC K (fun xs H Q => ∃ a n, xs = [.str a] ∧ PySem.intText? a = some n ∧ a.length ≤ 640 ∧ Q (.int n) H) [.str a] μ Φ := fun H xs c r Q k => by
  match r with
  | .cons (.str _) .nil => exact ⟨a, n, rfl, hn, hl, k _ μ _ H Fr.refl c (.int _) q⟩
theorem rs_str {a : Str} {lo hi : Option Int} (hz : a.length ≤ sizeLine) (q : Φ (.str (cutS a lo hi)) μ) : RS K rSlS (.str a) lo hi μ Φ := fun H x c r Q k => by
  cases r
  exact ⟨a, rfl, hz, k _ μ _ H Fr.refl c (.str _) q⟩
theorem ro_addS {a b : Str} (hz : a.length + b.length ≤ sizeLine) (q : Φ (.str (a ++ b)) μ) : RO K (fun x y H Q => ∃ i j, x = .str i ∧ y = .str j ∧ i.length + j.length ≤ sizeLine ∧ Q (.str (i ++ j)) H) (.str a) (.str b) μ Φ := fun H x y c r1 r2 Q k => by
  cases r1; cases r2
  exact ⟨a, b, rfl, rfl, hz, k _ μ _ H Fr.refl c (.str _) q⟩
/-- one sign in a text -/
theorem ro_inSg {n : Nat} {b : Str} (q : Φ (.bl (decide (n ∈ b.cps.toList))) μ) : RO K (fun x y H Q => ∃ (c : Nat) (z : Str), x = .str ⟨#[c]⟩ ∧ y = .str z ∧ Q (.bl (decide (c ∈ z.cps.toList))) H) (sg n) (.str b) μ Φ := fun H x y c r1 r2 Q k => by
  cases r1; cases r2
  exact ⟨n, b, rfl, rfl, k _ μ _ H Fr.refl c (.bl _) q⟩
theorem a_fmtI {i : Int} (hz : i.natAbs.log2 < 1920) (h : AE K te τ μ fun o μ1 => o = .int i ∧ Φ (.str (Str.ofString (toString i))) μ1) : AE K (tFmt te) τ μ Φ := fun σ H s c Q k =>
  h σ H s c _ fun o μ1 v H1 f1 c1 r1 ⟨e, q⟩ => by
    subst e
    cases r1
    exact .inr ⟨i, rfl, hz, k _ _ _ _ f1 c1 (.str _) q⟩
/-- the parts, one behind the other -/
def AJ (K : PySem.W.Frag) (ts : List TE) (acc : Str) (τ : T) (μ : M) (Ψ : Str → M → Prop) : Prop :=
  ∀ σ H, Slots K H τ σ → Z.Con K H μ → ∀ Q : Str → Hp → Prop, (∀ out μ1 H1, Fr μ μ1 H H1 → Z.Con K H1 μ1 → Ψ out μ1 → Q out H1) → tJs ts acc σ H Q
theorem aj_nil {acc : Str} {Ψ : Str → M → Prop} (q : Ψ acc μ) : AJ K [] acc τ μ Ψ := fun _ H _ c Q k => k acc μ H Fr.refl c q
theorem aj_cons {t : TE} {ts : List TE} {acc : Str} {Ψ : Str → M → Prop} (h : AE K t τ μ fun o μ1 => ∃ y : Str, o = .str y ∧ (acc ++ y).length ≤ sizeLine ∧ AJ K ts (acc ++ y) τ μ1 Ψ) : AJ K (t :: ts) acc τ μ Ψ := fun σ H s c Q k =>
  h σ H s c _ fun o μ1 v H1 f1 c1 r1 ⟨y, e, hz, q⟩ => by
    subst e
    cases r1
    exact ⟨y, rfl, hz, q σ H1 (s.mono (f1.tx c)) c1 _ fun out μ2 H2 f2 c2 q2 => k out μ2 H2 (f1.trans f2) c2 q2⟩
theorem a_js {ts : List TE} (h : AJ K ts Str.empty τ μ fun out μ1 => Φ (.str out) μ1) : AE K (fun σ H Q => tJs ts Str.empty σ H fun out H1 => Q (.str out) H1) τ μ Φ := fun σ H s c Q k =>
  h σ H s c _ fun out μ1 H1 f1 c1 q => k _ _ _ _ f1 c1 (.str out) q
/-- xs.insert(i, y), i a place or the end -/
theorem m_insert {a : Addr} (h : AE K to τ μ fun o μ1 => o = .ref a ∧ (∃ es, μ1 a = some (.lst es)) ∧ AE K te τ μ1 fun i μ2 => ∃ n : Nat, i = .int n ∧ (∃ es, μ2 a = some (.lst es)) ∧ AE K tp τ μ2 fun d μ3 => ∃ ds, μ3 a = some (.lst ds) ∧ n ≤ ds.length ∧ ds.length < sizeLine ∧ Φ .non (μ3.set a (.lst (ds.take n ++ [d] ++ ds.drop n)))) :
    AE K (tBM K "list" (fun x vs H Q => ∃ (l : Addr) (xs : List V) (i : Int) (y : V), x = .ref l ∧ vs = [.int i, y] ∧ H l = some (.lst xs) ∧ xs.length < sizeLine ∧ 0 ≤ i ∧ i < 2 ^ 63 ∧ Q .non (upd H l (.lst (xs.take i.toNat ++ [y] ++ xs.drop i.toNat)))) to (tCons te (tCons tp tNil))) τ μ Φ := fun σ H s c Q k =>
  h σ H s c _ fun o μ1 v H1 f1 c1 r1 ⟨e, ⟨es, he⟩, p1⟩ => by
    subst e
    cases r1
    obtain ⟨xs, hx, hr⟩ := c1 a _ he
    refine ⟨.inl ⟨rfl, xs, SqL.of hx⟩, p1 σ H1 (s.mono (f1.tx c)) c1 _ fun i μ2 u H2 f2 c2 r2 ⟨n, e0, ⟨es2, he2⟩, p2⟩ => ?_⟩
    subst e0
    cases r2
    refine p2 σ H2 ((s.mono (f1.tx c)).mono (f2.tx c1)) c2 _ fun d μ3 w H3 f3 c3 r3 ⟨ds, h3, hn, hz, q⟩ => ?_
    obtain ⟨ys, hy, hr3⟩ := c3 a _ h3
    have len := hr3.length
    refine ⟨a, ys, n, w, rfl, rfl, hy, by omega, by omega, by have := sizeLine_eq; omega, ?_⟩
    rw [Int.toNat_natCast]
    refine k _ _ _ _ (((f1.trans f2).trans f3).trans (fr_mut h3)) (con_mut (m' := .lst (ds.take n ++ [d] ++ ds.drop n)) c3 h3 ⟨_, upd_same, ?_⟩) .non q
    have g : Tx H3 (upd H3 a (.lst (ys.take n ++ [w] ++ ys.drop n))) := tx_mut c3 h3
    exact ((Rels.mono g _ _ (hr3.take n)).append (.cons (Rel.mono g _ _ r3) .nil)).append (Rels.mono g _ _ (hr3.drop n))
end
end Z
namespace Z
open PySem PySem.Spec PyProof.Rows L2
/-- a def by its address, that may raise -/
structure HeldX (P : Program) (w : World) (K : PySem.W.Frag) (mg : Str → Option Value) (base : Heap) (k : Nat) (f : Addr) (sp : Sp) : Prop where
  ex : ∃ (fd : FuncData) (ps : List Str), FnOk P w K mg base (L2.CX P w) k f fd ps sp ∧ PySem.W.keepIn K (.ref f) = true ∧ Binds K fd ps []
theorem heldX {P : Program} {w : World} {K : PySem.W.Frag} {mg : Str → Option Value} {base : Heap} {x : Str} {ps : List Str} {k : Nat} {sp : Sp} {f : Addr} (G : DefX P w K mg base x ps k sp) (V : Cst mg x (.ref f)) : HeldX P w K mg base k f sp := by
  obtain ⟨f', fd, F, hm, hk, hb⟩ := G.ex
  obtain ⟨u, hu, ru⟩ := V.ex
  cases ru
  cases hu.symm.trans hm
  exact ⟨fd, ps, F, hk, hb⟩
/-- the defs that a slot may hold, each with its promise -/
def tCallVX (K : PySem.W.Frag) (cn : Str → Option Value) (S : List (Addr × PT4)) (i : Nat) (E : L2.St → XK) (t : TA) : TE := fun σ H Q => ∃ q, q ∈ S ∧ σ[i]? = some (some (.ref q.1)) ∧ t σ H fun vs H1 => spX K cn q.2 vs H1 Q (E σ)
section
variable {X : Cx} {W : WX} {k i : Nat} {y : Str} {p pos : Pos} {e : Expr} {es : List Expr} {t : TA} {S : List (Addr × PT4)} {cn : Str → Option Value} {K : PySem.W.Frag}
theorem pe_callVX (h : X.K = K) (tk : L2.Takes X W) (A : ∀ q ∈ S, HeldX X.prog X.w X.K X.mg X.base k q.1 (spX K cn q.2)) (hr : Room k X.A) (hN : X.N[i]? = some y) (hv : Vis X.env.scope y) (ha : PA X (e :: es) t) (hdb : (y == ("__debug__" : Str)) = false := by decide) (hcd : (y == ("__classdict__" : Str)) = false := by decide)
    (he : starEach (e :: es) X.env = (false, eval e X.env) :: starEach es X.env := by rfl) (hpl : (backTo pos (starEach es X.env)).any (·.1) = false := by rfl) : PE X (.Call (.Name y p) (e :: es) [] pos) (tCallVX K cn S i (WE W) t) where
  run pins s σ H Q I := fun ⟨q, hq, hσ, ht⟩ => by
    subst h
    obtain ⟨fd, ps, F, hk, hb⟩ := (A q hq).ex
    exact wpAny_Call_Name_kw (ZT.slot_ld I hN hσ hv (PySem.W.callWith_K (h₀ := X.base) I.ok.mod.kin hk (thn (ha.run pos pins s σ H _ I ht) fun us s2 ⟨vs, H2, I2, r, z⟩ => ⟨I2.kIn, run_fnS F hr hb (passAt tk σ) I2 r z⟩) he hpl) hdb hcd)
end
section
variable {K : PySem.W.Frag} {τ : T} {μ : M} {Φ : D → M → Prop} {N : AEnds} {t : TA} {S : List (Addr × PT4)} {i : Nat}
theorem a_callVX {f : Addr} {P : PT4} (hS : (f, P) ∈ S) (hi : τ[i]? = some (some (.ref f))) (h : AA K t τ μ fun ds μ1 => P ds μ1 Φ fun x dx μ' => N.xs x dx τ μ') : AEX K (tCallVX K N.cn S i (WE N.W) t) τ μ N Φ := fun σ H s c Q k kx => by
  obtain ⟨v, hv, r⟩ := s.2 i _ hi
  cases r
  exact ⟨(f, P), hS, hv, h σ H s c _ fun ds μ1 vs H1 f1 c1 r1 p1 => ⟨ds, μ1, Φ, _, r1, c1, p1, fun d μ' v H' f c' r q => k d μ' v H' (f1.trans f) c' r q, fun x dx μ' cls H' e f c' q => kx x dx μ' cls H' e (f1.trans f) c' q⟩⟩
end
abbrev SpE := Value → Option Addr → Addr → Hp → VK → Prop
/-- what a def of one parameter promises of an error that is handled meanwhile -/
structure FnE (P : Program) (w : World) (K : PySem.W.Frag) (mg : Str → Option Value) (base : Heap) (k : Nat) (f : Addr) (fd : FuncData) (x : Str) (sp : SpE) : Prop where
  run : ∀ (A : Around) (outer : List Env) (s : Shared) (H : Hp) (args : Args) (Q : VK) (p : Addr × Obj) (cls : Value) (d : Option Addr), L2H.RoomH k A → L2H.PinOk outer H s p → Zc cls d p.2 → (∃ vs, p.2.data = .fields vs) → Env0 P w K mg base A outer s H →
    BindsTo s fd args [(x, .ref p.1)] → sp cls d p.1 H Q → codeAny (model P w) A (.call (.ref f) args) (CR CX0 outer P w H s Q E0) s
structure DefE (P : Program) (w : World) (K : PySem.W.Frag) (mg : Str → Option Value) (base : Heap) (n x : Str) (k : Nat) (sp : SpE) : Prop where
  ex : ∃ f fd, FnE P w K mg base k f fd x sp ∧ mg n = some (.ref f) ∧ PySem.W.keepIn K (.ref f) = true ∧ Binds K fd [x] []
section
variable {P : Program} {w : World} {K : PySem.W.Frag} {mg : Str → Option Value} {base : Heap}
/-- such a def by its body: the error is pinned there -/
theorem fun_okE {n qual x : Str} {st : Stmt} {f : Addr} {fd : FuncData} {N : List Str} {k : Nat} {sp : SpE} (F : Fun K n qual st f fd) (S : FnScope N [x] (defScope st))
    (hbody : ∀ (cdv : Value) (A : Around) (outer : List Env) (s : Shared) (H : Hp) (Q : VK) (p : Addr × Obj) (cls : Value) (d : Option Addr), L2H.RoomH k (A.deeper (envOfC qual (defScope st) s.heap.objs.size f cdv)) → Zc cls d p.2 → (∃ vs, p.2.data = .fields vs) → sp cls d p.1 H Q →
      ∃ t, PSs (L2H.cxH CX0 P w K mg base N qual (defScope st) f cdv A outer s H E0 p).nox (defBody st) t ∧ t { nx := fun _ H' => Q .non H', rt := Q } (L2.start N [.ref p.1]) H) : FnE P w K mg base (k + 1) f fd x sp := by
  rcases F.ex with ⟨oc, od, kV, doc, pm, an, cdv, ct, osl, rfl, lk, hcd⟩
  refine ⟨fun A outer s H args Q p cls d room pin hz hf e0 bound told => ?_⟩
  have kin := e0.mod.kin.keeps fun b o e => (e0.bs b o e).1
  have kinds : ∀ y ∈ [(x, Value.ref p.1)], (defScope st).names.lookup y.1 = some .local ∨ ((defScope st).names.lookup y.1 = some .cell ∧ ((cellsFrom (s.heap.objs.size + 1) (defScope st).names []).lookup y.1).isSome = true) := fun y hy => by
    rw [List.mem_singleton.mp hy]
    exact (S.par x (List.mem_singleton_self x)).imp id fun c => ⟨c, PySem.W.cellsFrom_some _ _ _ (.inl c)⟩
  refine codeAny_call_function room.depth (kin _ _ lk) rfl S.co S.gen rfl (PySem.W.codeRec_of kin hcd) (bound _ _ _ _ (wpAny_newFunctionEnv_cells S.kind kinds fun env he s1 x1 => ?_))
  subst he
  obtain ⟨t, body, q⟩ := hbody cdv A outer s H Q p cls d (room.deeper _) hz hf told
  refine ⟨(e0.mod.nolimit.keeps fun b o e => (e0.bs b o e).1).keeps x1.toInCall.keep, codeAny_func (wpAny_mono (body.nox.run [] s1 _ H _ (L2H.inv_startH (us := [.ref p.1]) (vs := [.ref p.1]) S pin e0 rfl (.cons rfl .nil) x1) q) (fun fl s' end_ => ?_) fun _ _ z => z)⟩
  match fl, end_ with
  | .ret u, ⟨v, σ', H', J, rv, q'⟩ => exact ⟨v, H', J.os, J.bare, J.base, J.hok, rv, q'⟩
  | .next, ⟨σ', H', J, q'⟩ => exact ⟨.non, H', J.os, J.bare, J.base, J.hok, rfl, q'⟩
  | .brk, ⟨_, _, _, q'⟩ => exact q'.elim
  | .cont, ⟨_, _, _, q'⟩ => exact q'.elim
end
/-- its promise, by data: of the error's class, its field's home, its address -/
abbrev PTE := Value → Option Addr → Addr → M → (D → M → Prop) → Prop
abbrev PE3 (P : PTE) (cls : Value) (d : Option Addr) (a : Addr) : PT3 := fun ds μ Φ => ds = [.ref a] ∧ P cls d a μ Φ
def spE (K : PySem.W.Frag) (P : PTE) : SpE := fun cls d a H Q => spI K (PE3 P cls d a) [.ref a] H Q E0
theorem body_okE {K : PySem.W.Frag} {H : Hp} {ts : TS} {P : PTE} {cls : Value} {d : Option Addr} {a : Addr} {Ns : List Str} {Q : VK} (h : spE K P cls d a H Q) (hb : ∀ μ Φ, P cls d a μ Φ → AS K ts (startD Ns.length [.ref a]) μ { nx := fun _ μ' => Φ .non μ', rt := Φ }) :
    ts { nx := fun _ H' => Q .non H', rt := Q } (L2.start Ns [.ref a]) H := body_ok h fun ds μ Φ ⟨e, p⟩ => e ▸ hb μ Φ p
def tCallE (sp : SpE) (cls : Value) (d : Option Addr) (a : Addr) (te : TE) : TE := fun σ H Q => te σ H fun x H1 => x = .ref a ∧ sp cls d a H1 Q
section
variable {X : Cx} {a : Addr} {oe : Obj} {cls : Value} {d : Option Addr} {k : Nat} {n x : Str} {sp : SpE} {e : Expr} {te : TE} {p pos : Pos}
theorem pe_callE (hp : (a, oe) ∈ X.pn) (hz : Zc cls d oe) (hf : ∃ vs, oe.data = .fields vs) (G : DefE X.prog X.w X.K X.mg X.base n x k sp) (hr : L2H.RoomH k X.A) (hg : Gl X n) (he : PE X e te) (hdb : (n == ("__debug__" : Str)) = false := by decide)
    (hst : starEach [e] X.env = (false, eval e X.env) :: starEach [] X.env := by rfl) (hpl : (backTo pos (starEach [] X.env)).any (·.1) = false := by rfl) : PE X (.Call (.Name n p) [e] [] pos) (tCallE sp cls d a te) where
  run pins s σ H Q I := fun h => by
    obtain ⟨f, fd, F, hm, hk, hb⟩ := G.ex
    refine wpAny_Call_Name_kw (ld_glob I hg hm (PySem.W.callWith_K (h₀ := X.base) I.ok.mod.kin hk (PyProof.Rows.args_cons (thn (he.run pins s σ H _ I h) fun u s1 ⟨v, H1, I1, rv, ev, q⟩ => PyProof.Rows.args_nil ?_) hst) hst hpl) hdb)
    subst ev
    cases rv
    obtain ⟨g, free, nl, nf, nc⟩ := I1.pin _ (List.mem_append_left _ hp)
    have pin : L2H.PinOk X.stack H1 s1 (a, oe) := ⟨g, free, fun hm => (List.mem_cons.mp (I1.stkSub a hm)).elim nl nf, nc⟩
    refine ⟨I1.kIn, wpAny_call (codeAny_mono (F.run X.A X.stack s1 H1 ⟨[.ref a], []⟩ Q (a, oe) cls d hr pin hz hf I1.env0 (by simpa using hb s1 [.ref a] I1.kIn rfl) q) fun r s' back => ?_)⟩
    match r, back with
    | .ok (.ret u), back => exact I1.after back
    | .error _, back => exact back.elim
end
theorem a_callE {K : PySem.W.Frag} {τ : T} {μ : M} {Φ : D → M → Prop} {te : TE} {P : PTE} {cls : Value} {d : Option Addr} {a : Addr} (h : AE K te τ μ fun o μ1 => o = .ref a ∧ P cls d a μ1 Φ) : AE K (tCallE (spE K P) cls d a te) τ μ Φ := fun σ H s c Q k =>
  h σ H s c _ fun o μ1 v H1 f1 c1 r1 ⟨e, p1⟩ => by
    subst e
    cases r1
    exact ⟨rfl, [.ref a], μ1, Φ, .cons (.ref a) .nil, c1, ⟨rfl, p1⟩, fun d' μ' v' H' f c' r q => k d' μ' v' H' (f1.trans f) c' r q⟩
end Z
namespace Z
open PySem PySem.Spec PySem.Calls PyProof.Rows L2
/-- a text turned -/
def revS (x : Str) : Str := ⟨x.cps.toList.reverse.toArray⟩
def tRevS (te : TE) : TE := fun σ H Q => te σ H fun v H1 => ∃ x, v = .str x ∧ x.length ≤ sizeLine ∧ Q (.str (revS x)) H1
section
variable {K : PySem.W.Frag} {τ : T} {μ : M} {Φ : D → M → Prop} {te : TE}
theorem a_revS {x : Str} (hz : x.length ≤ sizeLine) (h : AE K te τ μ fun d μ1 => d = .str x ∧ Φ (.str (revS x)) μ1) : AE K (tRevS te) τ μ Φ := fun σ H s c Q k =>
  h σ H s c _ fun d μ1 v H1 f1 c1 r1 ⟨e, q⟩ => by
    subst e
    cases r1
    exact ⟨x, rfl, hz, k _ _ _ _ f1 c1 (.str _) q⟩
end
end Z
namespace Z
open PySem PySem.Spec PySem.Calls PyProof.Rows L2
end Z
namespace Z
open PySem PySem.Spec PyProof.Rows L2
theorem roomE {k : Nat} {A : Around} {h : Option Value} (r : Room k A) : L2H.RoomH k (A.mark h) := ⟨r.dp, r.un⟩
theorem held_nil {P : Program} {w : World} {K : PySem.W.Frag} {mg : Str → Option Value} {base : Heap} {k : Nat} {cn : Str → Option Value} : ∀ q ∈ ([] : List (Addr × PT4)), HeldX P w K mg base k q.1 (spX K cn q.2) := fun _ h => nomatch h
theorem held_cons {P : Program} {w : World} {K : PySem.W.Frag} {mg : Str → Option Value} {base : Heap} {k j : Nat} {cn : Str → Option Value} {f : Addr} {p : PT4} {S : List (Addr × PT4)} (h : HeldX P w K mg base j f (spX K cn p)) (r : ∀ q ∈ S, HeldX P w K mg base k q.1 (spX K cn q.2)) (hk : j ≤ k := by decide) :
    ∀ q ∈ (f, p) :: S, HeldX P w K mg base k q.1 (spX K cn q.2) := fun q hq => by
  rcases List.mem_cons.mp hq with e | m
  · subst e
    obtain ⟨fd, ps, F, k1, b⟩ := h.ex
    exact ⟨fd, ps, F.mono hk, k1, b⟩
  · exact r q m
section
variable {K : PySem.W.Frag} {τ : T} {μ : M} {Φ : D → M → Prop} {te to : TE}
/-- sep.join(xs), xs a list or a tuple of texts, whatever it turns out to be -/
theorem m_joinV {a : Str} (h : AE K to τ μ fun o μ1 => o = .str a ∧ AE K te τ μ1 fun y μ2 => ∃ ys : List Str, seqD μ2 y = some (ys.map D.str) ∧ (ys.map (·.length)).sum + ys.length * a.length ≤ 16777216 ∧ Φ (.str (Txt.join a ys)) μ2) :
    AE K (tM1 (fun x xs H Q => ∃ a p, ∃ ys : List Str, x = .str a ∧ xs = [.ref p] ∧ (SqL K H p (ys.map V.str) ∨ SqT K H p (ys.map V.str)) ∧ (ys.map (·.length)).sum + ys.length * a.length ≤ 16777216 ∧ Q (.str (Txt.join a ys)) H) to te) τ μ Φ := fun σ H s c Q k =>
  h σ H s c _ fun o μ1 v H1 f1 c1 r1 ⟨e, p1⟩ => by
    subst e
    cases r1
    refine ⟨⟨_, rfl⟩, p1 σ H1 (s.mono (f1.tx c)) c1 _ fun y μ2 u H2 f2 c2 r2 ⟨ys, at_, hz, q⟩ => ?_⟩
    obtain ⟨p, xs, rfl, hq, hr⟩ := seq_of c2 r2 at_
    exact ⟨a, p, ys, rfl, rfl, rels_strs hr ▸ hq, hz, k _ _ _ _ (f1.trans f2) c2 (.str _) q⟩
theorem a_defKI {n m : Nat} {π : List (Bool × Nat)} {mz : List V} (mD : List D) (hmz : ∀ H, Rels K H mz mD) {P : PT3} {E : XK} {t tk : TA}
    (h : AA K t τ μ fun ds μ1 => AA K tk τ μ1 fun es μ2 => ds.length = n ∧ es.length = m ∧ P (gK π ds mD es) μ2 Φ) : AE K (tCallN n m (spI K P) (fun vs zs => gK π vs mz zs) E t tk) τ μ Φ := fun σ H s c Q k =>
  h σ H s c _ fun ds μ1 vs H1 f1 c1 r1 p1 => p1 σ H1 (s.mono (f1.tx c)) c1 _ fun es μ2 zs H2 f2 c2 r2 ⟨l1, l2, p2⟩ =>
    ⟨r1.length.trans l1, r2.length.trans l2, gK π ds mD es, μ2, Φ, rels_gK π (r1.mono (f2.tx c1)) (hmz H2) r2, c2, p2, fun d μ' v H' f c' r q => k d μ' v H' ((f1.trans f2).trans f) c' r q⟩
/-- xs.pop(i), i a place counted from the front -/
theorem m_popI {to : TE} {a : Addr} {ds : List D} {i : Int} {d : D} (i0 : 0 ≤ i) (few : ds.length < 2 ^ 63) (hd : atI ds i = some d) (h : AE K to τ μ fun o μ1 => o = .ref a ∧ (∃ es, μ1 a = some (.lst es)) ∧ AE K te τ μ1 fun e μ2 => e = .int i ∧ μ2 a = some (.lst ds) ∧ Φ d (μ2.set a (.lst (ds.take i.toNat ++ ds.drop (i.toNat + 1))))) :
    AE K (tBM K "list" rPopAt to (tCons te tNil)) τ μ Φ := fun σ H s c Q k =>
  h σ H s c _ fun o μ1 v H1 f1 c1 r1 ⟨eo, ⟨es, he⟩, arg⟩ => by
    subst eo
    cases r1
    obtain ⟨old, ho, -⟩ := c1 a _ he
    refine ⟨.inl ⟨rfl, old, SqL.of ho⟩, arg σ H1 (s.mono (f1.tx c)) c1 _ fun e μ2 u H2 f2 c2 r2 ⟨ei, h2, q⟩ => ?_⟩
    subst ei
    cases r2
    obtain ⟨xs, hx, hr⟩ := c2 a _ h2
    obtain ⟨y, hy, ry⟩ := at_len hr hd
    obtain ⟨j, sj, gj, lj, -, up⟩ := atI_get hy
    have len := hr.length
    have ej : j = i.toNat := by
      unfold seqIndex? at sj
      split at sj <;> simp at sj <;> omega
    have tx := tx_mut (o := .lst (xs.take j ++ xs.drop (j + 1))) c2 h2
    refine ⟨a, xs, i, j, y, rfl, rfl, hx, by omega, by omega, sj, gj, ?_⟩
    rw [List.eraseIdx_eq_take_drop_succ]
    subst ej
    exact k _ _ _ _ ((f1.trans f2).trans (fr_mut h2)) (con_mut (m' := .lst (ds.take i.toNat ++ ds.drop (i.toNat + 1))) c2 h2 ⟨_, upd_same, (Rels.mono tx _ _ (hr.take _)).append (Rels.mono tx _ _ (hr.drop _))⟩) (Rel.mono tx _ _ ry) q
/-- a whole body that is one statement: its term may speak of its own ends -/
def RunB (t : TS) (E : L2.Ends) (σ : L2.St) (H : Hp) : Prop := t E σ H
theorem ex_run {Ps : TS → Prop} {t : TS} {E : L2.Ends} {σ : L2.St} {H : Hp} (h : Ps t) (k : RunB t E σ H) : ∃ t, Ps t ∧ t E σ H := ⟨t, h, k⟩
theorem body_okR {K : PySem.W.Frag} {H : Hp} {ts : TS} {P : PT3} {E : XK} {Ns : List Str} {vs : List V} {Q : VK} (h : spI K P vs H Q E) (hb : ∀ ds μ Φ, P ds μ Φ → AS K ts (startD Ns.length ds) μ { nx := fun _ μ' => Φ .non μ', rt := Φ }) :
    RunB ts { nx := fun _ H' => Q .non H', rt := Q } (L2.start Ns vs) H := body_ok h hb
/-- how long the texts of these laws grow -/
abbrev lng : Nat := 10000
theorem lng_line {n : Nat} (h : n ≤ lng) : n ≤ sizeLine := Nat.le_trans h (by decide)
end
end Z
namespace Z
open PySem PySem.Spec PyProof.Rows L2
/-- such a dict: what it says of every text -/
structure WDict (K : PySem.W.Frag) (w : World) (a : Addr) (tab : List (Str × Str)) : Prop where
  ex : ∃ es n, K.lookup a = some ⟨.type "dict", none, .dict es n, #[]⟩ ∧ PySem.W.KeysLit w.params es.toList ∧ (a == sysModules) = false ∧ ∀ z, ∃ r : Option Value, PySem.W.nsIn K a z = some r ∧ RelV ((tab.lookup z).elim .non V.str) (r.getD .none)
theorem wdict2 {K : PySem.W.Frag} {w : World} {a : Addr} {h1 h2 : Int} {k1 k2 v1 v2 : Str} {t1 t2 u1 u2 : Tok} {n : Nat}
    (l : K.lookup a = some ⟨.type "dict", none, .dict #[⟨h1, .str k1 t1, .str v1 u1⟩, ⟨h2, .str k2 t2, .str v2 u2⟩] n, #[]⟩) (ks : PySem.W.KeysLit w.params [⟨h1, .str k1 t1, .str v1 u1⟩, ⟨h2, .str k2 t2, .str v2 u2⟩]) (low : (a == sysModules) = false) : WDict K w a [(k1, v1), (k2, v2)] where
  ex := by
    refine ⟨_, _, l, ks, low, fun z => ?_⟩
    have e : PySem.W.nsIn K a z = match ([⟨h1, .str k1 t1, .str v1 u1⟩, ⟨h2, .str k2 t2, .str v2 u2⟩] : List DictEntry).find? (·.key.isStr z) with
        | some e => some (some e.val)
        | none => some none := by
      unfold PySem.W.nsIn
      rw [l]
      rfl
    rw [e, List.find?_cons, List.find?_cons, List.find?_nil]
    have s1 : (Value.str k1 t1).isStr z = (k1 == z) := rfl
    have s2 : (Value.str k2 t2).isStr z = (k2 == z) := rfl
    dsimp only
    rw [s1, s2]
    by_cases c1 : k1 = z
    · subst c1
      simp only [beq_self_eq_true, List.lookup_cons, Option.elim]
      exact ⟨_, rfl, ⟨u1, rfl⟩⟩
    · rw [show (k1 == z) = false from beq_eq_false_iff_ne.mpr c1]
      by_cases c2 : k2 = z
      · subst c2
        simp only [beq_self_eq_true, List.lookup_cons, Option.elim, show (k2 == k1) = false from beq_eq_false_iff_ne.mpr (Ne.symm c1)]
        exact ⟨_, rfl, ⟨u2, rfl⟩⟩
      · rw [show (k2 == z) = false from beq_eq_false_iff_ne.mpr c2]
        simp only [List.lookup_cons, List.lookup_nil, Option.elim, show (z == k1) = false from beq_eq_false_iff_ne.mpr (Ne.symm c1), show (z == k2) = false from beq_eq_false_iff_ne.mpr (Ne.symm c2)]
        exact ⟨_, rfl, rfl⟩
def tWGet (K : PySem.W.Frag) (w : World) (to : TE) (t : TA) : TE := fun σ H Q => to σ H fun x H1 => ∃ a tab, x = .ref a ∧ WDict K w a tab ∧ t σ H1 fun ys H2 => ∃ z, ys = [.str z] ∧ Q ((tab.lookup z).elim .non V.str) H2
section
variable {X : Cx} {o e : Expr} {to : TE} {t : TA} {apos cpos : Pos} {K : PySem.W.Frag} {w : World}
theorem pe_wget (h : X.K = K) (h2 : X.w = w) (ho : PE X o to) (ha : PA X [e] t) (hbase : attributeBase o "get" X.env (eval o X.env) = eval o X.env := by rfl)
    (hfew : ((backTo cpos (starEach [e] X.env)).all (fun x => !x.1) && (backToKw cpos (keywordEach [] X.env)).all (fun x => x.1.isSome)
      && decide (([e] : List Expr).length + ([] : List Keyword).length + (if ([] : List Keyword).isEmpty then 0 else 1) < 30)) = true := by rfl)
    (hline : (apos.endLine == cpos.line) = true := by rfl) (hs : starEach [e] X.env = (false, eval e X.env) :: starEach [] X.env := by rfl) (hplain : (backTo cpos (starEach [] X.env)).any (·.1) = false := by rfl) :
    PE X (.Call (.Attribute o "get" apos) [e] [] cpos) (tWGet K w to t) where
  run pins s σ H Q I q := by
    subst h h2
    refine wpAny_Call_method_late hbase hfew hline rfl (thn (ho.run pins s σ H _ I q) fun v s1 ⟨x, H1, I1, rx, a, tab, ex, D, q1⟩ => ?_)
    subst ex
    cases (show v = Value.ref a from rx)
    obtain ⟨es, n, l, ks, low, told⟩ := D.ex
    have there := PySem.W.mapOf_K (prog := X.prog) (w := X.w) I1.kIn l ks
    refine ⟨"dict", "dict.get", PySem.F.plainAttrs_dict, PySem.F.slot_dict_get, PySem.F.type_dict_get, there.typeIs, fun b eb => ?_, ?_⟩
    · cases eb
      exact ⟨_, I1.kIn _ _ l, rfl⟩
    have args := ha.run cpos pins s1 σ H1 _ I1 q1
    rw [hs] at args ⊢
    have none_ : (false || (backTo cpos (starEach [] X.env)).any (·.1)) = false := by rw [hplain]; rfl
    refine Calls.callWith_builtin none_ (Calls.evalArgs_plain (thn args fun us s2 ⟨ys, H2, I2, ry, z, ez, q2⟩ => ?_))
    subst ez
    obtain ⟨u, eu, tz, ru⟩ := ry.one
    subst eu ru
    obtain ⟨r, here, rel⟩ := told z
    have there2 := PySem.W.mapOf_K (prog := X.prog) (w := X.w) I2.kIn l ks
    refine call_meetsIn PySem.F.slot_dict_get there2.typeIs PySem.F.entry_dict_get (PySem.F.args_dict_get_2 _ _) (meets_dict_get (strKind X.prog X.w) a (strKind_is X.prog X.w z tz) low) ⟨_, there2, ?_⟩
    rw [PySem.W.find_K l here]
    exact ⟨_, H2, I2.tok _, rel, q2⟩
end
section
variable {K : PySem.W.Frag} {w : World} {τ : T} {μ : M} {Φ : D → M → Prop} {to : TE} {t : TA}
theorem a_wget {a : Addr} {tab : List (Str × Str)} (hW : WDict K w a tab) (h : AE K to τ μ fun o μ1 => o = .ref a ∧ AA K t τ μ1 fun ds μ2 => ∃ z, ds = [.str z] ∧ Φ ((tab.lookup z).elim .non D.str) μ2) : AE K (tWGet K w to t) τ μ Φ := fun σ H s c Q k =>
  h σ H s c _ fun o μ1 v H1 f1 c1 r1 ⟨e, arg⟩ => by
    subst e
    cases r1
    refine ⟨a, tab, rfl, hW, arg σ H1 (s.mono (f1.tx c)) c1 _ fun ds μ2 ys H2 f2 c2 r2 ⟨z, e2, q⟩ => ?_⟩
    subst e2
    cases r2 with
    | cons ra rb =>
    cases ra
    cases rb
    refine ⟨z, rfl, k _ _ _ _ (f1.trans f2) c2 ?_ q⟩
    cases tab.lookup z with
    | none => exact .non
    | some x => exact .str x
/-- {text: text, text: text} -/
abbrev tTexts (k1 v1 k2 v2 : Str) : TE := tDisp [(tC (.str k1), tC (.str v1)), (tC (.str k2), tC (.str v2))]
theorem a_disp2 {k1 v1 k2 v2 : Str} (ne : k2 ≠ k1) (q : ∀ p, μ p = none → Φ (.ref p) (μ.set p (.dK [(.inr k1, .str v1), (.inr k2, .str v2)]))) : AE K (tTexts k1 v1 k2 v2) τ μ Φ := fun σ H s c Q k p hp => by
  refine ⟨upd_same, [(.inr k1, .str v1), (.inr k2, .str v2)], rfl, Nat.le_of_ble_eq_true rfl, ?_⟩
  have e : upd (upd H p (.dK [])) p (.dK (mergeK [] [(.inr k1, .str v1), (.inr k2, .str v2)])) = upd H p (.dK [(.inr k1, .str v1), (.inr k2, .str v2)]) := by
    have m : mergeK [] [(.inr k1, .str v1), (.inr k2, .str v2)] = [(.inr k1, V.str v1), (.inr k2, V.str v2)] := by
      show putK (putK [] _ _) _ _ = _
      unfold putK
      simp [ne.symm]
    rw [m, upd_upd]
  rw [e]
  exact k _ _ _ _ (fr_put hp) (con_put (m := .dK [(.inr k1, .str v1), (.inr k2, .str v2)]) hp c ⟨_, upd_same, .cons ⟨rfl, .str _⟩ (.cons ⟨rfl, .str _⟩ .nil)⟩) (.ref p) (q p (c.free hp))
end
theorem op_notInFK {X : Cx} {K : PySem.W.Frag} (h : X.K = K) : OpR X (compareOp .NotIn) (rIn K true) := by subst h; exact op_notIn_seq
theorem inV_strs {z : Str} (ws : List Str) : inV (.str z) (ws.map V.str) = decide (z ∈ ws) := by
  unfold inV
  rw [List.any_map]
  induction ws with
  | nil => rfl
  | cons a r ih =>
    rw [List.any_cons, ih]
    have e : ((fun y => eqV y (V.str z)) ∘ V.str) a = decide (z = a) := by
      show eqV (.str a) (.str z) = _
      unfold eqV
      by_cases h : a = z
      · simp [h]
      · simp [h, Ne.symm h]
    rw [e]
    by_cases h : z = a <;> simp [h]
theorem ro_inF {K : PySem.W.Frag} {μ : M} {Φ : D → M → Prop} {z : Str} {neg : Bool} (ws : List Str) (q : Φ (.bl (if neg then !decide (z ∈ ws) else decide (z ∈ ws))) μ) : RO K (rIn K neg) (.str z) (.tup (ws.map D.str)) μ Φ := fun H x y c r1 r2 Q k => by
  cases r1
  cases r2 with
  | @tup p xs _ ht hr =>
  rw [rels_strs hr] at ht
  refine ⟨p, ws.map V.str, rfl, .inr ht.sq, rfl, by rw [List.all_map, List.all_eq_true]; exact fun _ _ => rfl, ?_⟩
  rw [inV_strs]
  exact k _ μ _ H Fr.refl c (.bl _) q
end Z
namespace MT
open PySem L2 Z TL
abbrev AD := NumText.AllDigits
abbrev dV := NumText.digitsVal
/-- one of the ten figures -/
def digB (c : Nat) : Bool := decide (48 ≤ c ∧ c ≤ 57)
theorem digs_iff {l : List Nat} : l.all digB = true ↔ AD l := by
  show _ ↔ ∀ c ∈ l, 48 ≤ c ∧ c ≤ 57
  unfold digB
  simp
/-- the number that a word of at most k figures writes -/
def numIn (k : Nat) (w : Str) : Option Int :=
  if w.length = 0 ∨ k < w.length ∨ ¬ (tl w).all digB = true then none
  else if w = "0" ∨ (tl w).head? ≠ some 48 then some ((dV (tl w) : Nat) : Int) else none
def oD : Option Int → D
  | none => .non
  | some i => .int i
def words (w : Str) : List Str := Txt.split w " "
theorem spl_le (S : List Nat) : ∀ (l : List Nat) (k : Nat) (acc p : List Nat), p ∈ spl S k acc l → p.length ≤ acc.length + l.length
  | [], k, acc, p, h => by
    rw [spl_nil, List.mem_singleton] at h
    rw [h]
    simp
  | c :: r, k + 1, acc, p, h => by
    have i := spl_le S r k acc p (show p ∈ spl S k acc r from h)
    rw [List.length_cons]
    omega
  | c :: r, 0, acc, p, h => by
    have e : spl S 0 acc (c :: r) = if pre S (c :: r) = true then acc :: spl S (S.length - 1) [] r else spl S 0 (acc ++ [c]) r := rfl
    rw [e] at h
    split at h
    · rcases List.mem_cons.mp h with z | z
      · rw [z]; omega
      · have i := spl_le S r _ [] p z
        rw [List.length_nil] at i
        rw [List.length_cons]
        omega
    · have i := spl_le S r _ _ p h
      rw [List.length_append, List.length_singleton] at i
      rw [List.length_cons]
      omega
theorem spl_ne (S : List Nat) : ∀ (l : List Nat) (k : Nat) (acc : List Nat), spl S k acc l ≠ []
  | [], k, acc => by rw [spl_nil]; simp
  | c :: r, k + 1, acc => spl_ne S r k acc
  | c :: r, 0, acc => by
    have e : spl S 0 acc (c :: r) = if pre S (c :: r) = true then acc :: spl S (S.length - 1) [] r else spl S 0 (acc ++ [c]) r := rfl
    rw [e]
    split
    · simp
    · exact spl_ne S r 0 (acc ++ [c])
/-- together they are no longer than the whole -/
theorem spl_sum (S : List Nat) : ∀ (l : List Nat) (k : Nat) (acc : List Nat), ((spl S k acc l).map List.length).sum ≤ acc.length + l.length
  | [], k, acc => by
    rw [spl_nil]
    simp
  | c :: r, k + 1, acc => by
    have i := spl_sum S r k acc
    show ((spl S k acc r).map List.length).sum ≤ _
    rw [List.length_cons]
    omega
  | c :: r, 0, acc => by
    have e : spl S 0 acc (c :: r) = if pre S (c :: r) = true then acc :: spl S (S.length - 1) [] r else spl S 0 (acc ++ [c]) r := rfl
    rw [e]
    split
    · have i := spl_sum S r (S.length - 1) []
      rw [List.length_nil] at i
      rw [List.map_cons, List.sum_cons, List.length_cons]
      omega
    · have i := spl_sum S r 0 (acc ++ [c])
      rw [List.length_append, List.length_singleton] at i
      rw [List.length_cons]
      omega
theorem words_sum (s : Str) : ((words s).map (·.length)).sum ≤ s.length := by
  have e := split_spl s " " (by decide +kernel) (kind_ok (by decide +kernel))
  have i := spl_sum (tl " ") (tl s) 0 []
  rw [← e, List.map_map, ← len_tl, List.length_nil, Nat.zero_add] at i
  refine Nat.le_trans (Nat.le_of_eq ?_) i
  exact congrArg List.sum (List.map_congr_left fun p _ => len_tl p)
theorem part_le {x y p : Str} (hy : tl y ≠ []) (hk : y.cps.all (· < 256) = true) (h : p ∈ Txt.split x y) : p.length ≤ x.length := by
  have m : tl p ∈ spl (tl y) 0 [] (tl x) := by
    rw [← split_spl x y hy (kind_ok hk)]
    exact List.mem_map.mpr ⟨p, h, rfl⟩
  have i := spl_le _ _ _ _ _ m
  rw [len_tl, len_tl]
  simpa using i
theorem words_le {w p : Str} (h : p ∈ words w) : p.length ≤ w.length := part_le (by decide +kernel) (by decide +kernel) h
theorem words_few (w : Str) : (words w).length ≤ w.length + 2 := PyProof.Rows.split_le w _
theorem words_ne (s : Str) : words s ≠ [] := fun e => by
  have i := split_spl s " " (by decide +kernel) (kind_ok (by decide +kernel))
  rw [show Txt.split s " " = [] from e] at i
  exact spl_ne _ _ _ _ i.symm
abbrev numS (n : Int) : Str := Str.ofString (toString n)
theorem tl_numS {n : Int} (h : 0 ≤ n) : tl (numS n) = numL n.toNat := by
  obtain ⟨m, rfl⟩ := Int.eq_ofNat_of_zero_le h
  exact tl_num m
theorem numL_head {n : Nat} (h : 0 < n) : (numL n).head? ≠ some 48 := by
  induction n using Nat.strongRecOn with
  | _ n ih =>
    by_cases h1 : n < 10
    · rw [numL_lt h1]
      simp
      omega
    · have i := ih (n / 10) (by omega) (by omega)
      rw [numL_step (by omega)]
      cases e : numL (n / 10) with
      | nil => exact absurd e (numL_ne _)
      | cons a r => rw [e] at i; exact i
theorem len4 {n : Nat} (h : n < 10000) : (numL n).length ≤ 4 := numL_len (by decide) h
theorem numIn_num {n : Int} (h0 : 0 ≤ n) (h1 : n < 10000) : numIn 4 (numS n) = some n := by
  have e := tl_numS h0
  have l4 := len4 (n := n.toNat) (by omega)
  have ne := numL_ne n.toNat
  have lp : 0 < (numL n.toNat).length := List.length_pos_iff.mpr ne
  unfold numIn
  rw [len_tl, e, if_neg, if_pos, show dV (numL n.toNat) = n.toNat from numL_val _]
  · congr 1; omega
  · by_cases z : n = 0
    · exact .inl (by rw [z]; rfl)
    · exact .inr (numL_head (by omega))
  · rintro (h | h | h)
    · omega
    · omega
    · exact h (digs_iff.mpr (numL_digits _))
theorem free {n : Int} (h0 : 0 ≤ n) {s : Nat} (h : s < 48 ∨ 57 < s) : s ∉ tl (numS n) := by
  rw [tl_numS h0]
  exact numL_free h
theorem tl_cut (z : Str) (lo hi : Option Int) : tl (cutS z lo hi) = ((tl z).drop (HT.sIx z.length 0 lo)).take (HT.sIx z.length z.length hi - HT.sIx z.length 0 lo) := rfl
theorem cut_le (z : Str) (lo hi : Option Int) : (cutS z lo hi).length ≤ z.length := by
  rw [len_tl, len_tl, tl_cut, List.length_take, List.length_drop]
  omega
end MT
namespace MT
open PySem L2 Z TL
/-- a touched pin: the pin, and whether it is on the left -/
def sideS (l : Bool) : Str := if l then "left" else "right"
def sideL (l : Bool) : Str := if l then "L" else "R"
abbrev sides : List (Str × Str) := [("L", "left"), ("R", "right")]
abbrev touD (t : Int × Bool) : D := .tup [.int t.1, .str (sideS t.2)]
def touW (w : Str) : Option (Int × Bool) := match numIn 4 (cutS w none (some (-1))) with
  | none => none
  | some n => if cutS w (some (-1)) none = "L" then some (n, true) else if cutS w (some (-1)) none = "R" then some (n, false) else none
def touRes (s : Str) : Option D := if s = "-" then some (.tup []) else if (words s).all (fun w => (touW w).isSome) then some (.tup (((words s).filterMap touW).map touD)) else none
def touS (t : Int × Bool) : Str := numS t.1 ++ sideL t.2
def touT (ts : List (Int × Bool)) : Str := if ts = [] then "-" else Txt.join " " (ts.map touS)
/-- a fraction, in lowest terms or not -/
abbrev Fr2 := Int × Int
structure FrOk (f : Fr2) : Prop where
  top : f.1.natAbs < 10 ^ 30
  pos : 0 < f.2
  bot : f.2 < 10 ^ 30
abbrev frD (f : Fr2) : D := .tup [.int f.1, .int f.2]
def frS (f : Fr2) : Str := if f.2 = 1 then numS f.1 else numS f.1 ++ "/" ++ numS f.2
abbrev plD (p : Fr2 × Fr2) : D := .tup [frD p.1, frD p.2]
def plS (p : Fr2 × Fr2) : Str := frS p.1 ++ "," ++ frS p.2
def ofTou : D → Int × Bool
  | .tup [.int i, .str s] => (i, decide (s = "left"))
  | _ => (0, false)
theorem ofTou_D (t : Int × Bool) : ofTou (touD t) = t := by
  obtain ⟨i, b⟩ := t
  cases b <;> rfl
theorem left_iff (b : Bool) : sideS b = "left" ↔ b = true := by cases b <;> decide +kernel
theorem touS_len {t : Int × Bool} (h : 0 ≤ t.1 ∧ t.1 < 10000) : (touS t).length ≤ 5 := by
  have e := tl_numS h.1
  have l := len4 (n := t.1.toNat) (by omega)
  unfold touS
  rw [len_tl, tl_append, List.length_append, e]
  have : (tl (sideL t.2)).length = 1 := by cases t.2 <;> rfl
  omega
def ofPl : D → Fr2 × Fr2
  | .tup [.tup [.int a, .int b], .tup [.int c, .int d]] => ((a, b), (c, d))
  | _ => ((0, 1), (0, 1))
theorem num_len {n : Int} (h : n.natAbs < 10 ^ 30) : (numS n).length ≤ 31 := by
  rw [show numS n = Str.ofString (toString n) from rfl, ofString_length]
  exact int_text_length_le10 (k := 30) (by decide) h
theorem frS_len {f : Fr2} (ok : FrOk f) : (frS f).length ≤ 63 := by
  have a := num_len ok.top
  have b := num_len (n := f.2) (by have := ok.pos; have := ok.bot; omega)
  unfold frS
  split
  · omega
  · rw [len_tl, tl_append, tl_append, List.length_append, List.length_append, ← len_tl, ← len_tl, ← len_tl, show (Str.ofString "/").length = 1 from rfl]
    omega
theorem plS_len {p : Fr2 × Fr2} (h0 : FrOk p.1) (h1 : FrOk p.2) : (plS p).length ≤ 127 := by
  have a := frS_len h0
  have b := frS_len h1
  unfold plS
  rw [len_tl, tl_append, tl_append, List.length_append, List.length_append, ← len_tl, ← len_tl, ← len_tl, show (Str.ofString ",").length = 1 from rfl]
  omega
theorem strok_of {w : Str} (h : ∀ c ∈ tl w, c < 256) : PyData.strOk w = true := by
  unfold PyData.strOk
  rw [Array.all_eq_true']
  intro c hc
  have := h c (by simpa [tl] using hc)
  simp
  omega
theorem tou_signs {t : Int × Bool} (h : 0 ≤ t.1) : ∀ c ∈ tl (touS t), (48 ≤ c ∧ c ≤ 57) ∨ c = 76 ∨ c = 82 := by
  intro c hc
  unfold touS at hc
  rw [tl_append, tl_numS h, List.mem_append] at hc
  rcases hc with hc | hc
  · exact .inl (numL_digits _ c hc)
  · right
    cases ht : t.2 with
    | true => rw [ht] at hc; exact .inl (by simpa using (show c ∈ ([76] : List Nat) from hc))
    | false => rw [ht] at hc; exact .inr (by simpa using (show c ∈ ([82] : List Nat) from hc))
theorem strok_tou {t : Int × Bool} (h : 0 ≤ t.1) : PyData.strOk (touS t) = true := strok_of fun c hc => by
  have := tou_signs h c hc
  omega
theorem cut_side (x : Str) (b : Bool) : cutS (x ++ sideL b) none (some (-1)) = x ∧ cutS (x ++ sideL b) (some (-1)) none = sideL b := by
  obtain ⟨y, hy⟩ : ∃ y, tl (sideL b) = [y] := by cases b <;> exact ⟨_, rfl⟩
  have l : (x ++ sideL b).length = (tl x).length + 1 := by rw [len_tl, tl_append, List.length_append, hy]; rfl
  have e1 : HT.sIx ((tl x).length + 1) 0 (some (-1)) = (tl x).length := by
    show (if (-1 : Int) < 0 then (-1 + (((tl x).length + 1 : Nat) : Int)).toNat else min (-1 : Int).toNat ((tl x).length + 1)) = _
    rw [if_pos (by decide)]
    omega
  have e2 : HT.sIx ((tl x).length + 1) ((tl x).length + 1) (some (-1)) = (tl x).length := e1
  constructor
  · apply ext_tl
    rw [tl_cut, l, e2, tl_append, hy]
    show (((tl x ++ [y]).drop 0).take ((tl x).length - 0)) = _
    simp
  · apply ext_tl
    rw [tl_cut, l, e1, tl_append, hy]
    show (((tl x ++ [y]).drop (tl x).length).take ((tl x).length + 1 - (tl x).length)) = [y]
    simp
theorem touW_S {t : Int × Bool} (h : 0 ≤ t.1 ∧ t.1 < 10000) : touW (touS t) = some t := by
  unfold touW touS
  rw [(cut_side _ _).1, (cut_side _ _).2, numIn_num h.1 h.2]
  obtain ⟨i, b⟩ := t
  cases b
  · show (if sideL false = "L" then _ else if sideL false = "R" then _ else _) = _
    rw [if_neg (by decide +kernel), if_pos (by decide +kernel)]
  · show (if sideL true = "L" then _ else _) = _
    rw [if_pos (by decide +kernel)]
theorem words_tou {ts : List (Int × Bool)} (h : ∀ t ∈ ts, 0 ≤ t.1 ∧ t.1 < 10000) (ne : ts ≠ []) : words (Txt.join " " (ts.map touS)) = ts.map touS :=
  split_join (s := 32) (S := []) rfl (by decide +kernel) (by simpa using ne) fun p hp => by
    obtain ⟨t, ht, rfl⟩ := List.mem_map.mp hp
    intro hc
    have := tou_signs (h t ht).1 32 hc
    omega
theorem touRes_T {ts : List (Int × Bool)} (h : ∀ t ∈ ts, 0 ≤ t.1 ∧ t.1 < 10000) : touRes (touT ts) = some (.tup (ts.map touD)) := by
  unfold touT
  by_cases e : ts = []
  · rw [if_pos e, e]
    unfold touRes
    rw [if_pos rfl]
    rfl
  rw [if_neg e]
  have no : Txt.join " " (ts.map touS) ≠ "-" := fun z => by
    have w := words_tou h e
    rw [z] at w
    have w2 : words "-" = [Str.ofString "-"] := by decide +kernel
    rw [w2] at w
    obtain ⟨t, ht, e2⟩ : ∃ t ∈ ts, touS t = "-" := by
      have : ("-" : Str) ∈ ts.map touS := by rw [← w]; exact List.mem_singleton_self _
      exact List.mem_map.mp this
    have := tou_signs (h t ht).1 45 (by rw [e2]; exact List.mem_singleton_self _)
    omega
  unfold touRes
  rw [if_neg no, words_tou h e]
  have all : ∀ t ∈ ts, touW (touS t) = some t := fun t ht => touW_S (h t ht)
  have ok : (ts.map touS).all (fun w => (touW w).isSome) = true := by
    rw [List.all_eq_true]
    intro w hw
    obtain ⟨t, ht, rfl⟩ := List.mem_map.mp hw
    rw [all t ht]
    rfl
  rw [if_pos ok]
  have fm : (ts.map touS).filterMap touW = ts := by
    clear ok no e h
    induction ts with
    | nil => rfl
    | cons a r ih =>
      rw [List.map_cons, List.filterMap_cons, all a List.mem_cons_self]
      show a :: _ = _
      rw [ih fun t ht => all t (List.mem_cons_of_mem _ ht)]
  rw [fm]
theorem okn_tou (t : Int × Bool) : OkN 1 (touD t) := okn_tup fun z hz => by
  simp only [List.mem_cons, List.not_mem_nil, or_false] at hz
  rcases hz with rfl | rfl
  · exact okn_int
  · exact okn_str (by cases t.2 <;> decide +kernel)
theorem okn_tous (ts : List (Int × Bool)) : OkN 2 (.tup (ts.map touD)) := okn_tup fun z hz => by
  obtain ⟨t, -, rfl⟩ := List.mem_map.mp hz
  exact okn_tou t
theorem tou_some {s : Str} {r : D} (h : touRes s = some r) : OkN 2 r ∧ ∃ ds, r = .tup ds := by
  unfold touRes at h
  split at h
  · cases h
    exact ⟨okn_tous [], _, rfl⟩
  · split at h
    · cases h
      exact ⟨okn_tous _, _, rfl⟩
    · cases h
theorem side_look (z : Str) : sides.lookup z = if z = "L" then some ("left" : Str) else if z = "R" then some ("right" : Str) else none := by
  by_cases h : z = "L"
  · rw [if_pos h, h]
    rfl
  · rw [if_neg h]
    have e : (z == ("L" : Str)) = false := beq_eq_false_iff_ne.mpr h
    by_cases h2 : z = "R"
    · rw [if_pos h2, h2]
      rfl
    · rw [if_neg h2]
      have e2 : (z == ("R" : Str)) = false := beq_eq_false_iff_ne.mpr h2
      simp only [sides, List.lookup_cons, List.lookup_nil, e, e2]
theorem touW_no {w : Str} (h : numIn 4 (cutS w none (some (-1))) = none) : touW w = none := by
  unfold touW
  rw [h]
theorem touW_side {w : Str} {n : Int} (h : numIn 4 (cutS w none (some (-1))) = some n) : touW w = if cutS w (some (-1)) none = "L" then some (n, true) else if cutS w (some (-1)) none = "R" then some (n, false) else none := by
  unfold touW
  rw [h]
theorem filter_of {ws : List Str} {ts : List (Int × Bool)} (h : ws.map touW = ts.map some) : ws.filterMap touW = ts := by
  induction ws generalizing ts with
  | nil => cases ts with
    | nil => rfl
    | cons => cases h
  | cons a r ih => cases ts with
    | nil => cases h
    | cons t q =>
      rw [List.map_cons, List.map_cons] at h
      obtain ⟨h1, h2⟩ := List.cons.inj h
      rw [List.filterMap_cons, h1]
      show t :: _ = _
      rw [ih h2]
def ofFr : D → Fr2
  | .tup [.int a, .int b] => (a, b)
  | _ => (0, 1)
theorem last_cut {v : Str} (h : v.length ≠ 0) : ∃ c, atI v.cps.toList (-1) = some c ∧ ({ cps := #[c] } : Str) = cutS v (some (-1)) none := by
  have ln : v.cps.toList.length = v.length := (len_tl v).symm
  have lt : v.length - 1 < v.cps.toList.length := by omega
  refine ⟨v.cps.toList[v.length - 1], ?_, ?_⟩
  · unfold atI ixN
    rw [if_neg (by decide), if_pos (by omega), Option.bind_some, ln, show (-1 + (v.length : Int)).toNat = v.length - 1 by omega]
    exact List.getElem?_eq_getElem lt
  · apply ext_tl
    rw [tl_cut]
    have e1 : HT.sIx v.length 0 (some (-1)) = v.length - 1 := by
      show (if (-1 : Int) < 0 then (-1 + (v.length : Int)).toNat else min (-1 : Int).toNat v.length) = _
      rw [if_pos (by decide)]
      omega
    have e2 : HT.sIx v.length v.length none = v.length := rfl
    rw [e1, e2, show v.length - (v.length - 1) = 1 by omega]
    show [v.cps.toList[v.length - 1]] = (v.cps.toList.drop (v.length - 1)).take 1
    rw [List.drop_eq_getElem_cons lt]
    rfl
theorem num_ne {v : Str} {n : Int} (h : numIn 4 (cutS v none (some (-1))) = some n) : v.length ≠ 0 := fun z => by
  have := cut_le v none (some (-1))
  unfold numIn at h
  rw [if_pos (.inl (by omega))] at h
  cases h
end MT
namespace W
open PySem L2 Z
local macro_rules | `(tactic| walk_at "mu") => `(tactic| first
  | assumption
  | exact set_same
  | (refine Eq.trans (set_ne ?_) ?_; (first | assumption | (apply Ne.symm; assumption) | (intro h; subst h; simp_all)); walk_at "mu"))
local macro_rules | `(tactic| walk_at "seq") => `(tactic| first
  | rfl
  | (refine seq_ref ?_; walk_at "mu"))
local macro_rules | `(tactic| walk_at "sz") => `(tactic| first
  | assumption
  | (refine sz_2 ?_; decide)
  | (refine sz_8 ?_; decide)
  | (refine sz_32 ?_; decide)
  | (refine sz_128 ?_; decide +kernel)
  | ((with_reducible refine sz_add (a := ?a) (b := ?b) ?h ?k); (case h => walk_at "sz"); (case k => walk_at "sz"))
  | ((with_reducible refine sz_sub (a := ?a) (b := ?b) ?h ?k); (case h => walk_at "sz"); (case k => walk_at "sz"))
  | ((with_reducible refine sz_mul (a := ?a) (b := ?b) ?h ?k); (case h => walk_at "sz"); (case k => walk_at "sz"))
  | ((with_reducible refine sz_neg ?_) <;> walk_at "sz")
  | with_reducible exact sz_b
  | ((with_reducible refine sz_mod ?h1 ?h2); (case h1 => omega); (case h2 => walk_at "sz")))
local macro_rules | `(tactic| walk_at "szN") => `(tactic| first
  | assumption
  | (refine sz_mono (a := ?a) ?h ?l; (case h => walk_at "sz"); (case l => first | decide | omega)))
local macro_rules | `(tactic| walk_at "cond") => `(tactic| first
  | assumption
  | (refine mulw_of (a := ?a) (b := ?b) ?h ?k ?l; (case h => walk_at "sz"); (case k => walk_at "sz"); (case l => first | decide | omega))
  | (refine divw_of (b := ?b) ?h ?k ?l; (case h => omega); (case k => walk_at "sz"); (case l => first | decide | omega))
  | (show (0 : Int) < _; first | assumption | omega | decide)
  | (refine ⟨?_, ?_, ?_⟩ <;> first | assumption | decide | omega))
local macro_rules | `(tactic| walk_at "nf") => `(tactic| ((try simp only [List.set_cons_zero, List.set_cons_succ, Int.reduceToNat, Int.reducePow]); (try dsimp only)))
local macro_rules | `(tactic| walk_at "z1") => `(tactic| first
  | (with_reducible refine s_seq ?_)
  | ((with_reducible refine s_asgX ?_); (first | refine x_meth ?_ | refine x_call ?_))
  | (with_reducible refine s_asg ?_)
  | ((with_reducible refine s_ret ?_); (try dsimp only))
  | ((with_reducible refine s_next ?_); (try dsimp only))
  | ((with_reducible refine s_dropX ?_); (first | refine x_meth ?_ | refine x_call ?_))
  | (with_reducible refine s_drop ?_)
  | ((with_reducible refine s_retN ?_); (try dsimp only))
  | (with_reducible refine s_par ?_)
  | (with_reducible refine s_par3 ?_)
  | ((with_reducible refine g_name ?_); walk_at "nf")
  | ((with_reducible refine g_tup ?zn ?_); (case zn => rfl))
  | (with_reducible refine gs_cons ?_)
  | ((with_reducible refine gs_nil ?_); (try dsimp only))
  | ((with_reducible refine s_aug (d := ?zd) ?zh ?_); (case zh => rfl))
  | ((with_reducible refine a_var (d := ?zd) ?zh ?_); (case zh => rfl))
  | (with_reducible refine a_int ?_)
  | (with_reducible refine a_bl ?_)
  | (with_reducible refine a_str ?_)
  | (with_reducible refine a_non ?_)
  | (with_reducible refine a_ty ?_)
  | (with_reducible refine a_cref ?_)
  | (with_reducible refine a_revT ?_)
  | (with_reducible refine ro_neS ?_)
  | (with_reducible refine a_op ?_)
  | (with_reducible refine a_un ?_)
  | (with_reducible refine aa_cons ?_)
  | (with_reducible refine aa_nil ?_)
  | ((with_reducible refine a_tup ?_))
  | ((with_reducible refine a_lst ?_))
  | ((with_reducible refine a_lenSc (dec := ?zd) ?zt ?_); (case zt => first | exact tg_4 | exact tg_2 | exact tg_3 | exact tg_name))
  | (with_reducible refine a_cb ?_)
  | (with_reducible refine a_call ?_)
  | (with_reducible refine a_callX ?_)
  | (with_reducible refine a_methX ?_)
  | (with_reducible refine a_methI ?_)
  | (with_reducible refine rc_max3 ?_)
  | (with_reducible refine a_if ?_)
  | (with_reducible refine a_andV ?_)
  | (with_reducible refine a_orV ?_)
  | (with_reducible refine a_notV ?_)
  | (with_reducible refine at_test ?_)
  | (with_reducible refine at_B ?_)
  | (with_reducible refine at_and ?_)
  | (with_reducible refine at_or ?_)
  | (with_reducible refine at_not ?_)
  | (with_reducible refine at_yes ?_)
  | (with_reducible refine a_chain ?_)
  | (with_reducible refine a_chain3 ?_)
  | (with_reducible refine s_if ?_)
  | (with_reducible refine g_sub ?_)
  | (with_reducible refine ro_i ?_)
  | (with_reducible refine ru_i ?_)
  | (with_reducible refine ro_b ?_)
  | ((with_reducible refine ro_c (C := CPow) ?zc ?_); (case zc => walk_at "cond"); walk_at "nf")
  | ((with_reducible refine ro_c ?zc ?_); (case zc => walk_at "cond"))
  | ((with_reducible refine ro_ix (ds := ?zd) (e := ?ze) ?zs ?zi ?_); (case zs => walk_at "seq"); (case zi => rfl))
  | ((with_reducible refine set_lst (ds := ?zd) (j := ?zj) ?zs ?zi ?_); (case zs => walk_at "mu"); (case zi => rfl); walk_at "nf")
  | (with_reducible refine a_sl ?_)
  | (with_reducible refine ao_no ?_)
  | (with_reducible refine ao_pt ?_)
  | ((with_reducible refine rs_ref (ds := ?zd) ?zs ?_); (case zs => walk_at "mu"))
  | (with_reducible refine rs_rol ?_)
  | (with_reducible refine rs_tupA ?_)
  | ((with_reducible refine ro_catA ?zl ?_); (case zl => exact Nat.le_of_ble_eq_true rfl))
  | ((with_reducible refine ro_cat (ds := ?zd) (es := ?ze) ?zs ?zt ?zl ?_); (case zs => walk_at "mu"); (case zt => walk_at "mu"); (case zl => exact Nat.le_of_ble_eq_true rfl))
  | (with_reducible refine iteT ?_)
  | (with_reducible refine iteF ?_)
  | (with_reducible refine iteNT ?_)
  | (with_reducible refine iteNF ?_)
  | ((with_reducible refine ro_eqD ?h1 ?h2 ?_); (case h1 => rfl); (case h2 => rfl))
  | ((with_reducible refine ro_neD ?h1 ?h2 ?_); (case h1 => rfl); (case h2 => rfl))
  | ((with_reducible refine ro_inS (ds := ?zd) ?zs ?h1 ?h2 ?_); (case zs => walk_at "seq"); (case h1 => rfl); (case h2 => rfl); (try simp only [if_true, if_false, Bool.false_eq_true]))
  | (with_reducible refine ro_isB ?_)
  | (with_reducible refine ro_isN ?_)
  | (with_reducible refine ro_notN ?_)
  | (with_reducible refine ro_notB ?_)
  | (with_reducible refine ro_eqI ?_)
  | (with_reducible refine ro_neI ?_)
  | (with_reducible refine ro_eqB ?_)
  | (with_reducible refine ro_neB ?_)
  | (with_reducible refine rc_intB ?_)
  | (with_reducible refine rc_intI ?_)
  | (with_reducible refine rc_abs ?_)
  | (with_reducible refine rc_min ?_)
  | (with_reducible refine rc_max ?_)
  | ((with_reducible refine rc_len (ds := ?zd) ?zs ?_); (case zs => walk_at "seq"))
  | ((with_reducible refine rc_isi (n := ?zn) (b := ?zb) ?zs ?zk ?_); (case zs => rfl); (case zk => first | rfl | decide +kernel))
  | (with_reducible refine ⟨_, rfl, ?_⟩)
  | ((with_reducible refine ⟨_, _, rfl, ?_⟩); walk_at "nf")
  | ((with_reducible refine ⟨_, _, _, rfl, ?_⟩); walk_at "nf")
  | (refine ⟨Nat.le_of_ble_eq_true rfl, ?_⟩))
local macro_rules | `(tactic| walk_at "go") => `(tactic| repeat (walk_at "z1"))
local macro_rules | `(tactic| walk_at "txt") => `(tactic| first
  | assumption
  | (exact lng_line (by assumption))
  | (exact Nat.le_of_ble_eq_true rfl))
local macro_rules | `(tactic| walk_at "z1") => `(tactic| first
  | (with_reducible refine ro_eqS ?_)
  | ((with_reducible refine rc_lenS ?zh ?_); (case zh => walk_at "txt"))
  | (with_reducible refine ro_inSg ?_)
  | ((with_reducible refine a_revS ?zh ?_); (case zh => walk_at "txt"))
  | ((with_reducible refine rs_str ?zh ?_); (case zh => walk_at "txt"))
  | ((with_reducible refine ro_addS ?zh ?_); (case zh => walk_at "txt"))
  | (with_reducible refine a_js ?_)
  | (with_reducible refine aj_nil ?_))
def top (i : Nat) : Stmt := PySem.Challenge.pw_rubberroutes_k68_texts_of_touched_and_li.main.body.getD i (.Pass ⟨0, 0, 0, 0⟩)
abbrev s_number_in : Stmt := top 23
abbrev N_number_in : List Str := ["word", "figures", "sign"]
theorem sc_number_in : FnScope N_number_in ["word", "figures"] (defScope s_number_in) := ⟨rfl, rfl, rfl, by decide +kernel, rfl, by decide +kernel, by decide +kernel⟩
abbrev s_show_touched : Stmt := top 24
abbrev N_show_touched : List Str := ["touched", "words", "pin", "side"]
theorem sc_show_touched : FnScope N_show_touched ["touched"] (defScope s_show_touched) := ⟨rfl, rfl, rfl, by decide +kernel, rfl, by decide +kernel, by decide +kernel⟩
abbrev s_show_fraction : Stmt := top 25
abbrev N_show_fraction : List Str := ["one", "top", "bottom"]
theorem sc_show_fraction : FnScope N_show_fraction ["one"] (defScope s_show_fraction) := ⟨rfl, rfl, rfl, by decide +kernel, rfl, by decide +kernel, by decide +kernel⟩
abbrev s_show_line : Stmt := top 26
abbrev N_show_line : List Str := ["places", "x", "y"]
theorem sc_show_line : FnScope N_show_line ["places"] (defScope s_show_line) := ⟨rfl, rfl, rfl, by decide +kernel, rfl, by decide +kernel, by decide +kernel⟩
abbrev s_read_touched : Stmt := top 27
abbrev N_read_touched : List Str := ["text", "found", "word", "pin", "side"]
theorem sc_read_touched : FnScope N_read_touched ["text"] (defScope s_read_touched) := ⟨rfl, rfl, rfl, by decide +kernel, rfl, by decide +kernel, by decide +kernel⟩
abbrev s_l_bag : Stmt := top 29
abbrev N_l_bag : List Str := ["_law_script", "_law_at", "_law_cell", "_law_great", "_law_primes"]
theorem sc_l_bag : FnScope N_l_bag ["_law_script", "_law_at"] (defScope s_l_bag) := ⟨rfl, rfl, rfl, by decide +kernel, rfl, by decide +kernel, by decide +kernel⟩
abbrev s_l_take : Stmt := top 30
abbrev N_l_take : List Str := ["_law_bag_here", "_law_many", "_law_digit"]
theorem sc_l_take : FnScope N_l_take ["_law_bag_here", "_law_many"] (defScope s_l_take) := ⟨rfl, rfl, rfl, by decide +kernel, rfl, by decide +kernel, by decide +kernel⟩
abbrev s_l_sign : Stmt := top 31
abbrev N_l_sign : List Str := ["_law_bag_here", "_law_most", "_law_signs"]
theorem sc_l_sign : FnScope N_l_sign ["_law_bag_here", "_law_most"] (defScope s_l_sign) := ⟨rfl, rfl, rfl, by decide +kernel, rfl, by decide +kernel, by decide +kernel⟩
abbrev s_l_bent : Stmt := top 32
abbrev N_l_bent : List Str := ["_law_bag_here", "_law_text", "_law_turn", "_law_way", "_law_spot", "_law_sign_here", "_law_far", "_law_behind"]
theorem sc_l_bent : FnScope N_l_bent ["_law_bag_here", "_law_text"] (defScope s_l_bent) := ⟨rfl, rfl, rfl, by decide +kernel, rfl, by decide +kernel, by decide +kernel⟩
abbrev s_l_word_bent : Stmt := top 33
abbrev N_l_word_bent : List Str := ["_law_bag_here", "_law_text", "_law_words", "_law_at", "_law_far", "_law_way", "_law_word"]
theorem sc_l_word_bent : FnScope N_l_word_bent ["_law_bag_here", "_law_text"] (defScope s_l_word_bent) := ⟨rfl, rfl, rfl, by decide +kernel, rfl, by decide +kernel, by decide +kernel⟩
abbrev s_l_number : Stmt := top 34
abbrev N_l_number : List Str := ["_law_word", "_law_most", "_law_sign_here"]
theorem sc_l_number : FnScope N_l_number ["_law_word", "_law_most"] (defScope s_l_number) := ⟨rfl, rfl, rfl, by decide +kernel, rfl, by decide +kernel, by decide +kernel⟩
abbrev s_l_alone : Stmt := top 35
abbrev N_l_alone : List Str := ["_law_e"]
theorem sc_l_alone : FnScope N_l_alone ["_law_e"] (defScope s_l_alone) := ⟨rfl, rfl, rfl, by decide +kernel, rfl, by decide +kernel, by decide +kernel⟩
abbrev s_l_read : Stmt := top 36
abbrev N_l_read : List Str := ["_law_reader", "_law_text", "_law_e"]
theorem sc_l_read : FnScope N_l_read ["_law_reader", "_law_text"] (defScope s_l_read) := ⟨rfl, rfl, rfl, by decide +kernel, rfl, by decide +kernel, by decide +kernel⟩
abbrev s_l_low : Stmt := top 37
abbrev N_l_low : List Str := ["_law_over", "_law_under", "_law_one", "_law_other"]
theorem sc_l_low : FnScope N_l_low ["_law_over", "_law_under"] (defScope s_l_low) := ⟨rfl, rfl, rfl, by decide +kernel, rfl, by decide +kernel, by decide +kernel⟩
abbrev s_l_touched_in : Stmt := top 38
abbrev N_l_touched_in : List Str := ["_law_text", "_law_words", "_law_found", "_law_word", "_law_number_here"]
theorem sc_l_touched_in : FnScope N_l_touched_in ["_law_text"] (defScope s_l_touched_in) := ⟨rfl, rfl, rfl, by decide +kernel, rfl, by decide +kernel, by decide +kernel⟩
abbrev s_l_written : Stmt := top 39
abbrev N_l_written : List Str := ["_law_place", "_law_top", "_law_bottom"]
theorem sc_l_written : FnScope N_l_written ["_law_place"] (defScope s_l_written) := ⟨rfl, rfl, rfl, by decide +kernel, rfl, by decide +kernel, by decide +kernel⟩
abbrev s_l_some_line : Stmt := top 40
abbrev N_l_some_line : List Str := ["_law_bag_here", "_law_line", "_law_turn", "_law_place", "_law_again", "_law_upper"]
theorem sc_l_some_line : FnScope N_l_some_line ["_law_bag_here"] (defScope s_l_some_line) := ⟨rfl, rfl, rfl, by decide +kernel, rfl, by decide +kernel, by decide +kernel⟩
abbrev s_law : Stmt := top 41
abbrev N_law : List Str := ["_law_script", "_law_k", "_law_bag_here", "_law_touched", "_law_turn", "_law_words", "_law_text", "_law_texts", "_law_some", "_law_due", "_law_thing", "_law_line", "_law_pin", "_law_hand", "_law_place"]
theorem sc_law : FnScope N_law ["_law_script"] (defScope s_law) := ⟨rfl, rfl, rfl, by decide +kernel, rfl, by decide +kernel, by decide +kernel⟩
structure Bs (mg : Str → Option Value) : Prop where
  b_ValueError : mg "ValueError" = none
  b_abs : mg "abs" = none
  b_all : mg "all" = none
  b_int : mg "int" = none
  b_isinstance : mg "isinstance" = none
  b_len : mg "len" = none
  b_max : mg "max" = none
  b_min : mg "min" = none
  b_range : mg "range" = none
  b_str : mg "str" = none
  b_tuple : mg "tuple" = none
abbrev xn (mg : Str → Option Value) : Str → Option Value := fun x => if x ∈ (["NoText"] : List Str) then mg x else none
theorem xn_at {mg : Str → Option Value} {x : Str} {v : Value} (m : mg x = some v) (h : x ∈ (["NoText"] : List Str) := by decide) : xn mg x = some v := by
  unfold xn
  rw [if_pos h]
  exact m
theorem xn_or {mg : Str → Option Value} {x : Str} {c : Value} (h : xn mg x = some c) : (x = "NoText" ∧ mg "NoText" = some c) := by
  unfold xn at h
  split at h
  · rename_i hm
    simp only [List.mem_cons, List.not_mem_nil, or_false] at hm
    rcases hm with rfl <;> simp [h]
  · cases h
section
variable {P : Program} {w : World} {K : PySem.W.Frag} {mg : Str → Option Value} {base : Heap}
open MT
def P_number_in : PT3 := fun ds μ Φ => ∃ (w : Str) (k : Nat), ds = [.str w, .int k] ∧ k ≤ 640 ∧ w.length ≤ lng ∧ Φ (oD (numIn k w)) μ
theorem len_number_in (ds : List D) (μ : M) (Φ : D → M → Prop) (h : P_number_in ds μ Φ) : ds.length = 2 := by
  obtain ⟨_, _, rfl, _⟩ := h
  rfl
def sgN : D → Nat
  | .str s => s.cps.toList.headD 0
  | _ => 0
theorem digs_map (w : Str) : ((signsD w).map fun d => D.bl (digB (sgN d))) = ((w.cps.toList).map digB).map D.bl := by
  unfold signsD
  rw [List.map_map, List.map_map]
  rfl
theorem fig_in (n : Nat) : decide (n ∈ ("0123456789" : Str).cps.toList) = digB n := by
  unfold digB
  rw [show ("0123456789" : Str).cps.toList = [48, 49, 50, 51, 52, 53, 54, 55, 56, 57] from by decide +kernel]
  by_cases h : 48 ≤ n ∧ n ≤ 57
  · rw [decide_eq_true h, decide_eq_true_iff]
    simp only [List.mem_cons, List.not_mem_nil, or_false]
    omega
  · rw [decide_eq_false h, decide_eq_false_iff_not]
    simp only [List.mem_cons, List.not_mem_nil, or_false]
    omega
theorem ok_number_in {f : Addr} {fd : FuncData} {kws : List (Str × V)} (F : FunD K "number_in" "number_in" (defArgs s_number_in) (defBody s_number_in) (defScope s_number_in) [] kws f fd) (B : Bs mg) (V_FIGURES : Cst mg "FIGURES" (.str "0123456789")) : FnOk P w K mg base CX0 1 f fd ["word", "figures"] (spI K P_number_in) := by
  refine F.ok (CX := CX0) sc_number_in (fun vs H Q E h => spI_len h len_number_in) (fun cdv A outer s H vs Q E hr h => ?_)
  have hu65 := hu65_of hr
  refine ⟨_, (pss_cons (ps_if (PW.pt (pw_or (pt_cmpR op_eq (pv 0) pe_str (by first | exact nomark _ | rfl)) (pw_or (pt_cmpR op_gt (pe_callB (call_lenK (K := K) rfl) (by rfl) B.b_len (by decide +kernel) (pa_cons (pv 0) pa_nil)) (pv 1) (by first | exact nomark _ | rfl)) (pw_or1 (pt_not (pt_val (pe_callB (cr_allK (K := K) rfl rfl) (by rfl) B.b_all (by decide +kernel) (pa_cons (pe_lc (own := [("sign", 2)]) (g := gName 2) (tt := tYes) rfl sc_number_in.nd (pi_str (pv 0)) (blkOk_by (own := [("sign", 2)]) (N := N_number_in) (sc := defScope s_number_in) (by decide +kernel)) (fun _ _ _ _ _ => (pg_name (i := 2) sc_number_in.nd rfl (by first | exact Or.inl rfl | exact Or.inr rfl))) (fun _ _ _ _ _ => pts_nil) (fun _ _ _ _ _ => (pe_cmpR op_in_sign (pv 2) (pe_cst V_FIGURES (by rfl)) (by first | exact nomark _ | rfl)))) pa_nil)))))))) (pss_one (ps_ret pe_non)) pss_nil)
      (pss_one (ps_ret (pe_ifExp (PW.pt (pw_or (pt_cmpR op_eq (pv 0) pe_str (by first | exact nomark _ | rfl)) (pw_or1 (pt_cmpR op_ne (pe_ix (ix_seqK (K := K) rfl) (pv 0) pe_int (fun _ _ => rfl)) pe_str (by first | exact nomark _ | rfl))))) (pe_callTy call_int_str (by rfl) B.b_int (by decide +kernel) (pa_cons (pv 0) pa_nil)) pe_non)))), body_okU h (fun ds μ Φ p => ?_)⟩
  (try dsimp only [cxOf, Cx.nox, Cx.wish, List.map_cons, List.map_nil])
  obtain ⟨w, k, rfl, hk, hw, q⟩ := p
  show AS K _ [some _, some _, none] _ _
  have hz := lng_line hw
  have sl : Sz 31 (w.length : Int) := by unfold Sz; rw [Int.natAbs_natCast]; exact Nat.lt_of_le_of_lt hw (by decide)
  have none_ : numIn k w = none → Φ .non μ := fun e => by rw [e] at q; exact q
  walk_at "go"
  refine ite_d (fun h1 => ?_) (fun h1 => ?_)
  · walk_at "go"
    exact up_of Sub.refl (none_ (by unfold numIn; rw [if_pos (.inl (by rw [h1]; rfl))]))
  walk_at "go"
  refine ite_d (fun h2 => ?_) (fun h2 => ?_)
  · walk_at "go"
    exact up_of Sub.refl (none_ (by unfold numIn; rw [if_pos (.inr (.inl (by omega)))]))
  walk_at "go"
  refine a_lc1 (fun d => .bl (digB (sgN d))) (fun _ => true) (ai_str ?_)
  walk_at "go"
  refine ⟨by rw [signs_len]; exact Nat.lt_of_le_of_lt hw (by decide), fun x hx => at_yes ⟨rfl, rfl⟩, fun x hx _ => ?_, fun l hl => ?_⟩
  · obtain ⟨n, _, rfl⟩ := List.mem_map.mp hx
    walk_at "nf"
    walk_at "go"
    exact ⟨by rw [fig_in]; rfl, rfl⟩
  rw [List.filter_eq_self.mpr (fun _ _ => rfl), digs_map]
  walk_at "go"
  refine rc_all set_same ?_
  rw [show ((w.cps.toList.map digB).all id) = w.cps.toList.all digB by rw [List.all_map]; rfl]
  try refine ⟨_, rfl, ?_⟩
  by_cases h3 : w.cps.toList.all digB = true
  rotate_left
  · rw [show w.cps.toList.all digB = false by simpa using h3]
    walk_at "go"
    exact up_of (sub_new Sub.refl hl) (none_ (by unfold numIn; rw [if_pos (.inr (.inr h3))]))
  rw [h3]
  have hne : TL.tl w ≠ [] := fun e => h1 (TL.ext_tl (by rw [e]; rfl))
  have hlen : w.length ≤ k := by omega
  have hint : PySem.intText? w = some ((dV (TL.tl w) : Nat) : Int) := PySem.intText_digits (digs_iff.mp h3) hne (by omega)
  have lp : w.length ≠ 0 := by rw [TL.len_tl]; exact fun e => hne (List.length_eq_zero_iff.mp e)
  have pre : ¬ (w.length = 0 ∨ k < w.length ∨ ¬ (TL.tl w).all digB = true) := by
    rintro (h | h | h)
    · exact lp h
    · omega
    · exact h h3
  have some_ : (w = "0" ∨ (TL.tl w).head? ≠ some 48) → Φ (.int ((dV (TL.tl w) : Nat) : Int)) μ := fun e => by
    unfold numIn at q
    rw [if_neg pre, if_pos e] at q
    exact q
  obtain ⟨c0, cs, hc⟩ : ∃ c cs, TL.tl w = c :: cs := by
    cases e : TL.tl w with
    | nil => exact absurd e hne
    | cons c cs => exact ⟨c, cs, rfl⟩
  walk_at "go"
  refine ite_d (fun h4 => ?_) (fun h4 => ?_)
  · walk_at "go"
    refine rc_intS hint (by omega) ?_
    exact up_of (sub_new Sub.refl hl) (some_ (.inl h4))
  walk_at "go"
  refine ro_ixS (n := c0) hz (by unfold atI; rw [show w.cps.toList = c0 :: cs from hc]; simp [ixN]) ?_
  walk_at "go"
  have same : ({ cps := #[c0] } : Str) = "0" ↔ c0 = 48 := ⟨fun e => by
    have := congrArg TL.tl e
    exact (List.cons.inj (show [c0] = [48] from this)).1, fun e => by rw [e]; rfl⟩
  by_cases h5 : ({ cps := #[c0] } : Str) = "0"
  · rw [if_neg (by simp [h5])]
    walk_at "go"
    refine up_of (sub_new Sub.refl hl) (none_ ?_)
    unfold numIn
    rw [if_neg pre, if_neg]
    rintro (e | e)
    · exact h4 e
    · rw [hc, same.mp h5] at e
      exact e rfl
  · rw [if_pos (by simp [h5])]
    walk_at "go"
    refine rc_intS hint (by omega) ?_
    refine up_of (sub_new Sub.refl hl) (some_ (.inr ?_))
    rw [hc]
    exact fun e => h5 (same.mpr (Option.some.inj e))
theorem use_number_in {μ : M} {Φ : D → M → Prop} {w : Str} (hw : w.length ≤ lng) (q : Φ (oD (numIn 4 w)) μ) : P_number_in [.str w, .int 4] μ Φ := ⟨w, 4, rfl, by decide, hw, q⟩
theorem big_log {n : Int} (h : n.natAbs < 10 ^ 30) : n.natAbs.log2 < 1920 := by
  by_cases z : n.natAbs = 0
  · rw [z]; decide
  · exact Nat.lt_of_lt_of_le ((Nat.log2_lt z).mpr (show n.natAbs < 2 ^ 100 by omega)) (by decide)
theorem app_len (a b : Str) : (a ++ b).length = a.length + b.length := by
  rw [TL.len_tl, TL.tl_append, List.length_append, ← TL.len_tl, ← TL.len_tl]
theorem len_num {n : Int} (h0 : 0 ≤ n) (h1 : n < 10000) : (numS n).length ≤ 4 := by
  rw [TL.len_tl, tl_numS h0]
  exact len4 (by omega)
theorem log_num {n : Int} (h0 : 0 ≤ n) (h1 : n < 10000) : n.natAbs.log2 < 1920 := by
  by_cases z : n.natAbs = 0
  · rw [z]; decide
  · exact Nat.lt_of_lt_of_le ((Nat.log2_lt z).mpr (show n.natAbs < 2 ^ 14 by omega)) (by decide)
theorem sum_le {ws : List Str} {k : Nat} (h : ∀ w ∈ ws, w.length ≤ k) : (ws.map (·.length)).sum ≤ ws.length * k := by
  induction ws with
  | nil => simp
  | cons a r ih =>
    have i := ih fun w hw => h w (List.mem_cons_of_mem _ hw)
    have j := h a List.mem_cons_self
    rw [List.map_cons, List.sum_cons, List.length_cons, Nat.succ_mul]
    omega
theorem empty_app (x : Str) : Str.empty ++ x = x := TL.ext_tl (by rw [TL.tl_append]; rfl)
def P_show_touched : PT3 := fun ds μ Φ => ∃ ts : List (Int × Bool), ds = [.tup (ts.map touD)] ∧ (∀ t ∈ ts, 0 ≤ t.1 ∧ t.1 < 10000) ∧ ts.length ≤ 100 ∧ Φ (.str (touT ts)) μ
theorem len_show_touched (ds : List D) (μ : M) (Φ : D → M → Prop) (h : P_show_touched ds μ Φ) : ds.length = 1 := by
  obtain ⟨_, rfl, _⟩ := h
  rfl
def P_show_fraction : PT3 := fun ds μ Φ => ∃ f : Fr2, ds = [frD f] ∧ FrOk f ∧ Φ (.str (frS f)) μ
theorem len_show_fraction (ds : List D) (μ : M) (Φ : D → M → Prop) (h : P_show_fraction ds μ Φ) : ds.length = 1 := by
  obtain ⟨_, rfl, _⟩ := h
  rfl
def P_show_line : PT3 := fun ds μ Φ => ∃ ps : List (Fr2 × Fr2), ds = [.tup (ps.map plD)] ∧ (∀ p ∈ ps, FrOk p.1 ∧ FrOk p.2) ∧ ps.length ≤ 9 ∧ Φ (.str (Txt.join " " (ps.map plS))) μ
theorem len_show_line (ds : List D) (μ : M) (Φ : D → M → Prop) (h : P_show_line ds μ Φ) : ds.length = 1 := by
  obtain ⟨_, rfl, _⟩ := h
  rfl
def P_read_touched : PT4 := fun ds μ Φ Ξ => ∃ (d : D) (n : String) (b : Bool), ds = [d] ∧ tyn μ d = some n ∧ kitB n "str" = some b ∧ (b = false → Ξ "NoText" none μ) ∧
  (b = true → ∃ s : Str, d = .str s ∧ s.length ≤ lng ∧ (∀ r, touRes s = some r → Φ r μ) ∧ (touRes s = none → Ξ "NoText" none μ))
theorem len_read_touched (ds : List D) (μ : M) (Φ : D → M → Prop) (Ξ : XW) (h : P_read_touched ds μ Φ Ξ) : ds.length = 1 := by
  obtain ⟨_, _, _, rfl, _⟩ := h
  rfl
theorem ok_show_touched {f : Addr} {fd : FuncData} (F : Fun K "show_touched" "show_touched" s_show_touched f fd) (B : Bs mg) : FnOk P w K mg base CX0 1 f fd ["touched"] (spI K P_show_touched) := by
  refine F.ok sc_show_touched (fun vs H Q E h => spI_len h len_show_touched) (fun cdv A outer s H vs Q E hr h => ?_)
  have hu65 := hu65_of hr
  refine ⟨_, (pss_cons (ps_setLc (i := 1) (own := [("pin", 2), ("side", 3)]) (g := gTup K 2 (gCons (gName 2) (gCons (gName 3) gNil))) (tt := tYes) rfl sc_show_touched.nd rfl rfl (sw_true rfl rfl rfl (by decide +kernel)) (pi_tupK (K := K) rfl (pv 0)) (blkOk_by (own := [("pin", 2), ("side", 3)]) (N := N_show_touched) (sc := defScope s_show_touched) (by decide +kernel)) (fun _ _ _ _ _ => (pg_tup (by rfl) (pgs_cons (pg_name (i := 2) sc_show_touched.nd rfl (by first | exact Or.inl rfl | exact Or.inr rfl)) (pgs_cons (pg_name (i := 3) sc_show_touched.nd rfl (by first | exact Or.inl rfl | exact Or.inr rfl)) pgs_nil)))) (fun _ _ _ _ _ => pts_nil) (fun _ _ _ _ _ => (pe_op op_add_str (pe_callTy call_str_int (by rfl) B.b_str (by decide +kernel) (pa_cons (pv 2) pa_nil)) (pe_ifExp (pt_cmpR op_eq (pv 3) pe_str (by first | exact nomark _ | rfl)) pe_str pe_str))))
      (pss_one (ps_ret (pe_ifExp (pt_cmpR (op_neDK (K := K) rfl hr.units) (pv 1) (pe_lst pa_nil) (by first | exact nomark _ | rfl)) (pe_joinK (K := K) rfl pe_str (pv 1)) pe_str)))), body_okU h (fun ds μ Φ p => ?_)⟩
  (try dsimp only [cxOf, Cx.nox, Cx.wish, List.map_cons, List.map_nil])
  obtain ⟨ts, rfl, ht, few, q⟩ := p
  show AS K _ [some _, none, none, none] _ _
  refine s_seq ?_
  refine s_asg ?_
  refine a_lcp tg_2 (fun d => .str (touS (ofTou d))) (fun _ => true) (ai_T ?_)
  walk_at "go"
  refine ⟨by rw [List.length_map]; exact Nat.lt_of_le_of_lt few (by decide), fun x hx => ?_, fun l hl => ?_⟩
  · obtain ⟨t, ht', rfl⟩ := List.mem_map.mp hx
    obtain ⟨h0, h1⟩ := ht t ht'
    refine ⟨_, ⟨rfl, rfl⟩, rfl, at_yes ⟨rfl, rfl⟩, fun _ => ?_⟩
    walk_at "nf"
    walk_at "go"
    refine rc_strI (log_num h0 h1) ?_
    walk_at "go"
    have l4 := len_num h0 h1
    by_cases c : sideS t.2 = "left"
    · rw [if_pos (by simpa using c)]
      walk_at "go"
      refine ro_addS (Nat.le_trans (Nat.add_le_add_right l4 1) (by decide)) ?_
      rw [ofTou_D]
      refine ⟨?_, rfl⟩
      show D.str _ = D.str (touS t)
      unfold touS
      rw [(left_iff _).mp c]
      rfl
    · rw [if_neg (by simpa using c)]
      walk_at "go"
      refine ro_addS (Nat.le_trans (Nat.add_le_add_right l4 1) (by decide)) ?_
      rw [ofTou_D]
      refine ⟨?_, rfl⟩
      show D.str _ = D.str (touS t)
      unfold touS
      rw [show t.2 = false by simpa using fun e => c ((left_iff _).mpr e)]
      rfl
  rw [List.filter_eq_self.mpr (fun _ _ => rfl), List.map_map, show ts.map ((fun d => D.str (touS (ofTou d))) ∘ touD) = (ts.map touS).map D.str from by rw [List.map_map]; exact List.map_congr_left fun t _ => by show D.str (touS (ofTou (touD t))) = _; rw [ofTou_D]; rfl]
  have s1 := sub_new (Y := .lst ((ts.map touS).map D.str)) (Sub.refl (μ := μ)) hl
  have g1 : (μ.set l (.lst ((ts.map touS).map D.str))) l = some (.lst ((ts.map touS).map D.str)) := set_same
  show AG K _ _ _ (μ.set l (.lst ((ts.map touS).map D.str))) _
  generalize μ.set l (.lst ((ts.map touS).map D.str)) = μ1 at s1 g1 ⊢
  walk_at "go"
  intro p hp
  have lp : l ≠ p := by rintro rfl; rw [g1] at hp; cases hp
  have s2 := sub_new (Y := .lst []) s1 hp
  have strsOk : ∀ x ∈ (ts.map touS).map D.str, OkN 0 x := fun x hx => by
    obtain ⟨w, hw, rfl⟩ := List.mem_map.mp hx
    obtain ⟨t, ht', rfl⟩ := List.mem_map.mp hw
    exact okn_str (strok_tou (ht t ht').1)
  refine ro_neL (n := 0) (by rw [set_ne lp]; exact g1) set_same strsOk (fun x hx => by cases hx) (by decide) ?_
  rw [eqv_nil]
  have g2 : (μ1.set p (.lst [])) l = some (.lst ((ts.map touS).map D.str)) := by rw [set_ne lp]; exact g1
  generalize μ1.set p (.lst []) = μ2 at s2 g2 ⊢
  refine ⟨_, rfl, ?_⟩
  by_cases h : ts = []
  · subst h
    simp only [List.map_nil, List.isEmpty_nil, Bool.not_true, Bool.false_eq_true, if_false]
    walk_at "go"
    exact up_of s2 q
  have hne : ((ts.map touS).map D.str).isEmpty = false := by
    cases ts with
    | nil => exact absurd rfl h
    | cons => rfl
  rw [hne]
  simp only [Bool.not_false, if_true]
  refine m_joinV (a := " ") ?_
  walk_at "go"
  refine ⟨rfl, ?_⟩
  walk_at "go"
  refine ⟨ts.map touS, seq_ref g2, ?_, ?_⟩
  · have := sum_le (ws := ts.map touS) (k := 5) fun w hw => by
      obtain ⟨t, ht', rfl⟩ := List.mem_map.mp hw
      exact touS_len (ht t ht')
    rw [List.length_map] at this ⊢
    rw [show (" " : Str).length = 1 from rfl]
    omega
  unfold touT at q
  rw [if_neg h] at q
  exact up_of s2 q
theorem ok_show_fraction {f : Addr} {fd : FuncData} (F : Fun K "show_fraction" "show_fraction" s_show_fraction f fd) (B : Bs mg) : FnOk P w K mg base CX0 1 f fd ["one"] (spI K P_show_fraction) := by
  refine F.ok sc_show_fraction (fun vs H Q E h => spI_len h len_show_fraction) (fun cdv A outer s H vs Q E hr h => ?_)
  have hu65 := hu65_of hr
  refine ⟨_, (pss_cons (ps_asg (pv 0) (pg_tup (by rfl) (pgs_cons (pg_name (i := 1) sc_show_fraction.nd rfl (by first | exact Or.inl rfl | exact Or.inr rfl)) (pgs_cons (pg_name (i := 2) sc_show_fraction.nd rfl (by first | exact Or.inl rfl | exact Or.inr rfl)) pgs_nil))))
      (pss_one (ps_ret (pe_ifExp (pt_cmpR op_eq (pv 2) pe_int (by first | exact nomark _ | rfl)) (pe_callTy call_str_int (by rfl) B.b_str (by decide +kernel) (pa_cons (pv 1) pa_nil)) (pe_joined (.cons (pe_fmt (pv 1)) (.cons pe_str (.cons (pe_fmt (pv 2)) .nil)))))))), body_ok h (fun ds μ Φ p => ?_)⟩
  (try dsimp only [cxOf, Cx.nox, Cx.wish, List.map_cons, List.map_nil])
  obtain ⟨f, rfl, ok, q⟩ := p
  show AS K _ [some _, none, none] _ _
  walk_at "go"
  by_cases h : f.2 = 1
  · rw [if_pos (by simpa using h)]
    walk_at "go"
    refine rc_strI (big_log ok.top) ?_
    unfold frS at q
    rw [if_pos h] at q
    exact q
  rw [if_neg (by simpa using h)]
  unfold frS at q
  rw [if_neg h] at q
  refine a_js ?_
  walk_at "go"
  have lt := num_len ok.top
  have lb := num_len (n := f.2) (by have := ok.pos; have := ok.bot; omega)
  refine aj_cons (a_fmtI (i := f.1) (big_log ok.top) ?_)
  walk_at "go"
  refine ⟨rfl, numS f.1, rfl, by rw [empty_app]; exact Nat.le_trans lt (by decide), ?_⟩
  rw [empty_app]
  refine aj_cons ?_
  walk_at "go"
  refine ⟨by rw [app_len]; exact Nat.le_trans (Nat.add_le_add_right lt _) (by decide), ?_⟩
  refine aj_cons (a_fmtI (i := f.2) (big_log (by have := ok.pos; have := ok.bot; omega)) ?_)
  walk_at "go"
  refine ⟨rfl, numS f.2, rfl, by rw [app_len, app_len]; exact Nat.le_trans (Nat.add_le_add (Nat.add_le_add_right lt _) lb) (by decide), ?_⟩
  walk_at "go"
  exact q
theorem ok_show_line {f : Addr} {fd : FuncData} (F : Fun K "show_line" "show_line" s_show_line f fd) (B : Bs mg) (G_show_fraction : Def P w K mg base "show_fraction" ["one"] 1 (spI K P_show_fraction)) : FnOk P w K mg base CX0 2 f fd ["places"] (spI K P_show_line) := by
  refine F.ok sc_show_line (fun vs H Q E h => spI_len h len_show_line) (fun cdv A outer s H vs Q E hr h => ?_)
  have hu65 := hu65_of hr
  refine ⟨_, (pss_one (ps_ret (pe_joinK (K := K) rfl pe_str (pe_lc (own := [("x", 1), ("y", 2)]) (g := gTup K 2 (gCons (gName 1) (gCons (gName 2) gNil))) (tt := tYes) rfl sc_show_line.nd (pi_tupK (K := K) rfl (pv 0)) (blkOk_by (own := [("x", 1), ("y", 2)]) (N := N_show_line) (sc := defScope s_show_line) (by decide +kernel)) (fun _ _ _ _ _ => (pg_tup (by rfl) (pgs_cons (pg_name (i := 1) sc_show_line.nd rfl (by first | exact Or.inl rfl | exact Or.inr rfl)) (pgs_cons (pg_name (i := 2) sc_show_line.nd rfl (by first | exact Or.inl rfl | exact Or.inr rfl)) pgs_nil)))) (fun _ _ _ _ _ => pts_nil) (fun _ _ _ _ _ => (pe_op op_add_str (pe_op op_add_str (pe_def G_show_fraction (hr.mono (by decide)) (by rfl) (pa_cons (pv 1) pa_nil)) pe_str) (pe_def G_show_fraction (hr.mono (by decide)) (by rfl) (pa_cons (pv 2) pa_nil)))))))), body_okU h (fun ds μ Φ p => ?_)⟩
  (try dsimp only [cxOf, Cx.nox, Cx.wish, List.map_cons, List.map_nil])
  obtain ⟨ps, rfl, ok, few, q⟩ := p
  show AS K _ [some _, none, none] _ _
  refine s_ret ?_
  refine m_joinV (a := " ") ?_
  walk_at "go"
  refine ⟨rfl, ?_⟩
  refine a_lcp tg_2 (fun d => .str (plS (ofPl d))) (fun _ => true) (ai_T ?_)
  walk_at "go"
  refine ⟨by rw [List.length_map]; exact Nat.lt_of_le_of_lt few (by decide), fun x hx => ?_, fun l hl => ?_⟩
  · obtain ⟨t, ht', rfl⟩ := List.mem_map.mp hx
    obtain ⟨h0, h1⟩ := ok t ht'
    refine ⟨_, ⟨rfl, rfl⟩, rfl, at_yes ⟨rfl, rfl⟩, fun _ => ?_⟩
    walk_at "nf"
    walk_at "go"
    refine ⟨t.1, rfl, h0, ?_⟩
    walk_at "go"
    have l1 := frS_len h0
    have l2 := frS_len h1
    refine ro_addS (Nat.le_trans (Nat.add_le_add_right l1 _) (by decide)) ?_
    walk_at "go"
    refine ⟨t.2, rfl, h1, ?_⟩
    refine ro_addS (by rw [app_len]; exact Nat.le_trans (Nat.add_le_add (Nat.add_le_add_right l1 _) l2) (by decide)) ?_
    exact ⟨rfl, rfl⟩
  rw [List.filter_eq_self.mpr (fun _ _ => rfl), List.map_map, show ps.map ((fun d => D.str (plS (ofPl d))) ∘ plD) = (ps.map plS).map D.str from by rw [List.map_map]; rfl]
  refine ⟨ps.map plS, seq_ref set_same, ?_, up_of (sub_new Sub.refl hl) q⟩
  have := sum_le (ws := ps.map plS) (k := 127) fun w hw => by
    obtain ⟨t, ht', rfl⟩ := List.mem_map.mp hw
    exact plS_len (ok t ht').1 (ok t ht').2
  rw [List.length_map] at this ⊢
  rw [show (" " : Str).length = 1 from rfl]
  omega
theorem ok_read_touched {f : Addr} {fd : FuncData} (F : Fun K "read_touched" "read_touched" s_read_touched f fd) (B : Bs mg) {C_NoText : Addr} (E_NoText : Exc0 K mg "NoText" C_NoText) {C_SIDES : Addr} (V_SIDES : Cst mg "SIDES" (.ref C_SIDES)) (D_SIDES : WDict K w C_SIDES [("L", "left"), ("R", "right")]) (N_number_in_1 : DefN P w K mg base "number_in" ["word", "figures"] 1 [] [(false, 0)] [.int 4] 1 (spI K P_number_in)) : FnOk P w K mg base (L2.CX P w) 3 f fd ["text"] (spX K (xn mg) P_read_touched) := by
  refine F.okX sc_read_touched (fun vs H Q E h => spX_len h len_read_touched) (fun cdv A outer s H vs Q E hr h => ?_)
  have hu65 := hu65_of hr
  refine ⟨_, (pss_cons (ps_if (pt_not (pt_val (pe_callB (call_isiK1 (K := K) rfl) (by rfl) B.b_isinstance (by decide +kernel) (pa_cons (pv 0) (pa_cons (pe_bltn (v := .ty "str") (by rfl) B.b_str (by decide +kernel) rfl) pa_nil))))) (pss_one (ps_raise rfl (takes_of rfl rfl rfl rfl) (pmk_e0 E_NoText (by rfl)))) pss_nil)
      (pss_cons (ps_if (pt_cmpR op_eq (pv 0) pe_str (by first | exact nomark _ | rfl)) (pss_one (ps_ret (pe_tup pa_nil))) pss_nil)
      (pss_cons (ps_set (i := 1) sc_read_touched.nd rfl (by first | exact Or.inl rfl | exact Or.inr rfl) (pe_lst pa_nil))
      (pss_cons (ps_for (passes_of rfl) rfl (pi_listK (K := K) rfl (pe_split (pv 0) pe_str)) (pg_name (i := 2) sc_read_touched.nd rfl (by first | exact Or.inl rfl | exact Or.inr rfl))
      (pss_cons (ps_par (i := 3) (j := 4) rfl sc_read_touched.nd rfl rfl (by decide) rfl rfl (pa_cons (pe_defK N_number_in_1 (hr.mono (by decide)) (by rfl) (pa_cons (pe_slice sl_str (pv 2) po_none (po_some (pe_un un_neg pe_int))) pa_nil) pk_nil) (pa_cons (pe_wget (K := K) (w := w) rfl rfl (pe_cst V_SIDES (by rfl)) (pa_cons (pe_slice sl_str (pv 2) (po_some (pe_un un_neg pe_int)) po_none) pa_nil)) pa_nil)) (by rfl))
      (pss_cons (ps_if (PW.pt (pw_or (pt_cmpR op_isN (pv 3) pe_non (by first | exact nomark _ | rfl)) (pw_or1 (pt_cmpR op_isN (pv 4) pe_non (by first | exact nomark _ | rfl))))) (pss_one (ps_raise rfl (takes_of rfl rfl rfl rfl) (pmk_e0 E_NoText (by rfl)))) pss_nil)
      (pss_one (ps_expr (pe_bm PySem.F.plainAttrs_list PySem.F.slot_list_append PySem.F.type_list_append mt_append (pv 1) (pa_cons (pe_tup (pa_cons (pv 3) (pa_cons (pv 4) pa_nil))) pa_nil)))))))
      (pss_one (ps_ret (pe_callTy (call_tupleK (K := K) rfl) (by rfl) B.b_tuple (by decide +kernel) (pa_cons (pv 1) pa_nil)))))))), body_okXU h (fun ds μ Φ Ξ p => ?_)⟩
  (try dsimp only [cxOf, Cx.nox, Cx.wish, List.map_cons, List.map_nil])
  obtain ⟨d, n, b, rfl, hn, hk, no, yes⟩ := p
  show AS K _ [some _, none, none, none, none] _ _
  refine s_seq ?_
  refine s_if ?_
  refine at_not (at_B ?_)
  walk_at "go"
  refine rc_isi hn hk ?_
  refine ⟨_, rfl, ?_⟩
  cases b with
  | false =>
    simp only [Bool.not_false, if_true]
    refine s_raise0 (xn_at E_NoText.mg) ?_
    exact ⟨μ, Sub.refl, no rfl⟩
  | true =>
  obtain ⟨s, rfl, hs, some_, none_⟩ := yes rfl
  have hz := lng_line hs
  simp only [Bool.not_true, Bool.false_eq_true, if_false]
  walk_at "go"
  refine ite_d (fun h => ?_) (fun h => ?_)
  · walk_at "go"
    refine up_of Sub.refl (some_ _ ?_)
    unfold touRes
    rw [if_pos h]
  have fin : touRes s = if (words s).all (fun w => (touW w).isSome) then some (.tup (((words s).filterMap touW).map touD)) else none := by
    unfold touRes
    rw [if_neg h]
  walk_at "go"
  intro pf hf
  have hf' : μ pf = none := hf
  have s2 := sub_new (Y := .lst []) (Sub.refl (μ := μ)) hf'
  have gf : (μ.set pf (.lst [])) pf = some (.lst []) := set_same
  walk_at "go"
  generalize μ.set pf (.lst []) = μ2 at s2 gf ⊢
  clear hf
  have wf : ∀ w ∈ words s, w.length ≤ lng := fun w hw => Nat.le_trans (words_le hw) hs
  have wn : (words s).length ≤ lng + 2 := Nat.le_trans (words_few s) (Nat.add_le_add_right hs 2)
  refine s_for (ai_L ?_)
  refine m_split (a := s) (b := " ") ?_
  walk_at "go"
  refine ⟨rfl, ?_⟩
  walk_at "go"
  refine ⟨rfl, by decide +kernel, Nat.le_trans (Nat.add_le_add_right hs 2) (by decide), fun pm hpm => ?_⟩
  refine ⟨pm, _, rfl, set_same, ?_⟩
  rw [set_del hpm]
  have pm0 : μ pm = none := by
    cases e : μ pm with
    | none => rfl
    | some x => rw [s2 _ _ e] at hpm; cases hpm
  have nfm : pf ≠ pm := by rintro rfl; rw [gf] at hpm; cases hpm
  refine ⟨fun (j : Nat) τ' μ' => ∃ (ts : List (Int × Bool)) (o2 o3 o4 : Option D), ts.length = j ∧ ((words s).take j).map touW = ts.map some ∧ Sub μ μ' ∧ μ' pf = some (.lst (ts.map touD)) ∧ τ' = [some (.str s), some (.ref pf), o2, o3, o4], ⟨[], none, none, none, rfl, by simp, s2, gf, rfl⟩, ?_, ?_⟩
  · clear gf s2
    rintro j x τ' μ' hj ⟨ts, o2, o3, o4, lj, et, sb, gf, rfl⟩
    obtain ⟨v, hv, rfl⟩ := List.mem_map.mp (List.mem_of_getElem? hj)
    have hvj : (words s)[j]? = some v := by
      rw [List.getElem?_map] at hj
      cases e : (Txt.split s (Str.ofString " "))[j]? with
      | none => rw [e] at hj; cases hj
      | some u => rw [e] at hj; rw [← D.str.inj (Option.some.inj hj)]; exact e
    have zv : v.length ≤ lng := wf v hv
    have jl : j < (words s).length := (List.getElem?_eq_some_iff.mp hvj).1
    have bad : touW v = none → ∀ X, UpX Ξ "NoText" none (μ'.set pm X) := fun z X => ⟨μ, sub_own sb pm0, none_ (by
      rw [fin, if_neg]
      intro hall
      have := List.all_eq_true.mp hall v hv
      rw [z] at this
      cases this)⟩
    walk_at "go"
    refine a_defKI [.int 4] (fun H => .cons (.int 4) .nil) ?_
    walk_at "go"
    refine ⟨rfl, rfl, use_number_in (Nat.le_trans (cut_le _ _ _) zv) ?_⟩
    refine aa_cons ?_
    refine a_wget D_SIDES ?_
    walk_at "go"
    refine ⟨rfl, ?_⟩
    walk_at "go"
    rw [side_look]
    have push : ∀ (t : Int × Bool), touW v = some t → ∀ N : AEnds, (∀ τ2 μ2, (∃ (ts : List (Int × Bool)) (o2 o3 o4 : Option D), ts.length = j + 1 ∧ ((words s).take (j + 1)).map touW = ts.map some ∧ Sub μ μ2 ∧ μ2 pf = some (.lst (ts.map touD)) ∧ τ2 = [some (.str s), some (.ref pf), o2, o3, o4]) → N.nx τ2 μ2) →
        AS K (tDrop (tBM K "list" rAppend (tVar 1) (tCons (tTup (tCons (tVar 3) (tCons (tVar 4) tNil))) tNil))) [some (.str s), some (.ref pf), some (.str v), some (.int t.1), some (.str (sideS t.2))] μ' N := by
      intro t e N hN
      walk_at "go"
      refine m_append (a := pf) (ds := ts.map touD) ?_
      walk_at "go"
      refine ⟨rfl, ⟨_, gf⟩, ?_⟩
      walk_at "go"
      refine ⟨gf, by rw [List.length_map]; exact Nat.lt_of_le_of_lt (show ts.length ≤ lng + 2 by omega) (by decide), hN _ _ ⟨ts ++ [t], _, _, _, by rw [List.length_append, List.length_singleton, lj], ?_, sub_own sb hf', ?_, rfl⟩⟩
      · rw [List.take_succ, hvj, List.map_append, et, List.map_append]
        show ts.map some ++ [touW v] = _
        rw [e]
        rfl
      · show (M.set _ pf _) pf = _
        rw [set_same, List.map_append, List.map_singleton]
    cases hnum : numIn 4 (cutS v none (some (-1))) with
    | none =>
      rw [if_pos (show isN (oD none) = true from rfl), if_pos rfl]
      refine s_raise0 (xn_at E_NoText.mg) ?_
      exact bad (touW_no hnum) _
    | some n =>
    rw [if_neg (show ¬ isN (oD (some n)) = true from Bool.false_ne_true)]
    have tw := touW_side hnum
    by_cases hL : cutS v (some (-1)) none = Str.ofString "L"
    · rw [if_pos hL] at tw ⊢
      rw [Option.elim_some]
      walk_at "go"
      rw [if_neg (show ¬ isN (D.str _) = true from Bool.false_ne_true)]
      refine s_next ?_
      refine push (n, true) tw _ ?_
      exact fun _ _ z => z
    rw [if_neg hL] at tw ⊢
    by_cases hR : cutS v (some (-1)) none = Str.ofString "R"
    · rw [if_pos hR] at tw ⊢
      rw [Option.elim_some]
      walk_at "go"
      rw [if_neg (show ¬ isN (D.str _) = true from Bool.false_ne_true)]
      refine s_next ?_
      refine push (n, false) tw _ ?_
      exact fun _ _ z => z
    rw [if_neg hR] at tw ⊢
    rw [Option.elim_none]
    walk_at "go"
    rw [if_pos (show isN D.non = true from rfl)]
    walk_at "go"
    refine s_raise0 (xn_at E_NoText.mg) ?_
    exact bad tw _
  rintro τ' μ' ⟨ts, o2, o3, o4, lj, et, sb, gf, rfl⟩
  rw [List.length_map, show Txt.split s (Str.ofString " ") = words s from rfl, List.take_length] at et
  show AS K _ _ (μ'.set pm (.lst ((words s).map D.str))) _
  have sb5 := sub_own (Y := .lst ((words s).map D.str)) sb pm0
  have gf5 : (μ'.set pm (.lst ((words s).map D.str))) pf = some (.lst (ts.map touD)) := by rw [set_ne nfm]; exact gf
  generalize μ'.set pm (.lst ((words s).map D.str)) = μ5 at sb5 gf5 ⊢
  walk_at "go"
  refine rc_tuple (seq_ref gf5) ?_
  refine up_of sb5 (some_ _ ?_)
  rw [fin, if_pos]
  · congr 3
    exact filter_of et
  · rw [List.all_eq_true]
    intro w hw
    have : touW w ∈ ts.map some := et ▸ List.mem_map_of_mem hw
    obtain ⟨t, -, e⟩ := List.mem_map.mp this
    rw [← e]
    rfl
theorem use_take {μ : M} {Φ : D → M → Prop} {b : Addr} {n c m : Int} (h : μ b = some (.lst [.int c, .int m])) (hm : BgOk m) (hn : 0 < n) (hz : Sz 4000 n) (q : ∀ d c' m', 0 ≤ d → d < n → Sz 4000 d → BgOk m' → Φ (.int d) (μ.set b (.lst [.int c', .int m']))) : P_l_take [.ref b, .int n] μ Φ := ⟨b, n, c, m, rfl, h, hm, hn, hz, q⟩
theorem use_bag {μ : M} {Φ : D → M → Prop} {ns : List Int} {k : Int} (h0 : 0 ≤ k) (h1 : k ≤ 1000) (q : ∀ p c m, μ p = none → BgOk m → Φ (.ref p) (μ.set p (.lst [.int c, .int m]))) : P_l_bag [.rol (ns.map D.int), .int k] μ Φ := ⟨ns, k, rfl, h0, h1, q⟩
theorem prime8 {k : Int} (h0 : 0 ≤ k) (h1 : k < 8) : ∃ p : Int, atI [D.int 2147483629, D.int 2147483587, D.int 2147483579, D.int 2147483563, D.int 2147483549, D.int 2147483543, D.int 2147483497, D.int 2147483489] k = some (.int p) ∧ 0 < p ∧ p < 2147483648 := by
  have h : k = 0 ∨ k = 1 ∨ k = 2 ∨ k = 3 ∨ k = 4 ∨ k = 5 ∨ k = 6 ∨ k = 7 := by omega
  rcases h with h | h | h | h | h | h | h | h <;> subst h <;> exact ⟨_, rfl, by decide, by decide⟩
theorem ok_l_bag {f : Addr} {fd : FuncData} (F : Fun K "_law_bag" "_law_bag" s_l_bag f fd) (B : Bs mg) : FnOk P w K mg base CX0 2 f fd ["_law_script", "_law_at"] (spI K P_l_bag) := by
  refine F.ok sc_l_bag (fun vs H Q E h => spI_len h len_l_bag) (fun cdv A outer s H vs Q E hr h => ?_)
  have hu65 := hu65_of hr
  refine ⟨_, (pss_cons (ps_set (i := 2) sc_l_bag.nd rfl (by first | exact Or.inl rfl | exact Or.inr rfl) pe_int)
      (pss_cons (ps_if (pt_cmpR op_lt (pv 1) (pe_callB (call_lenK (K := K) rfl) (by rfl) B.b_len (by decide +kernel) (pa_cons (pv 0) pa_nil)) (by first | exact nomark _ | rfl)) (pss_one (ps_set (i := 2) sc_l_bag.nd rfl (by first | exact Or.inl rfl | exact Or.inr rfl) (pe_ix (ix_seqK (K := K) rfl) (pv 0) (pv 1) (fun _ _ => rfl)))) pss_nil)
      (pss_cons (ps_set (i := 3) sc_l_bag.nd rfl (by first | exact Or.inl rfl | exact Or.inr rfl) pe_int)
      (pss_cons (ps_if (pt_cmpR op_ge (pe_callB call_abs (by rfl) B.b_abs (by decide +kernel) (pa_cons (pv 2) pa_nil)) (pe_op op_pow pe_int pe_int) (by first | exact nomark _ | rfl)) (pss_one (ps_set (i := 3) sc_l_bag.nd rfl (by first | exact Or.inl rfl | exact Or.inr rfl) (pe_callB call_abs (by rfl) B.b_abs (by decide +kernel) (pa_cons (pv 2) pa_nil)))) pss_nil)
      (pss_cons (ps_set (i := 4) sc_l_bag.nd rfl (by first | exact Or.inl rfl | exact Or.inr rfl) (pe_lst (pa_cons pe_int (pa_cons pe_int (pa_cons pe_int (pa_cons pe_int (pa_cons pe_int (pa_cons pe_int (pa_cons pe_int (pa_cons pe_int pa_nil))))))))))
      (pss_one (ps_ret (pe_lst (pa_cons (pv 3) (pa_cons (pe_op op_mod (pe_op op_pow (pe_op op_add (pe_op op_add (pe_op op_mod (pv 2) pe_int) (pe_op op_mulW pe_int (pv 1))) pe_int) pe_int) (pe_ix (ix_seqK (K := K) rfl) (pv 4) (pe_op op_mod (pv 1) pe_int) (fun _ _ => rfl))) pa_nil)))))))))), body_okU h (fun ds μ Φ p => ?_)⟩
  (try dsimp only [cxOf, Cx.nox, Cx.wish, List.map_cons, List.map_nil])
  obtain ⟨ns, k, rfl, h0, h1, q⟩ := p
  show AS K _ [some _, some _, none, none, none] _ _
  have sk : Sz 31 k := by unfold Sz; omega
  walk_at "go"
  refine if_cut (fun τ' μ' => μ' = μ ∧ ∃ c : Int, τ' = [some (.rol (ns.map D.int)), some (.int k), some (.int c), none, none]) (fun h => ?_) (fun h => ?_) ?_
  · obtain ⟨z, hz⟩ := map_get (ns := ns) h0 (by simpa using h)
    walk_at "go"
    refine ro_ix rfl hz ?_
    walk_at "go"
    exact ⟨by trivial, _, rfl⟩
  · walk_at "go"
    exact ⟨by trivial, _, rfl⟩
  rintro τ' μ' ⟨rfl, c, rfl⟩
  walk_at "go"
  refine if_cut (fun τ' μ2 => μ2 = μ' ∧ ∃ g : Int, τ' = [some (.rol (ns.map D.int)), some (.int k), some (.int c), some (.int g), none]) (fun h => ?_) (fun h => ?_) ?_
  · walk_at "go"
    exact ⟨by trivial, _, rfl⟩
  · walk_at "go"
    exact ⟨by trivial, _, rfl⟩
  rintro τ' μ2 ⟨rfl, g, rfl⟩
  walk_at "go"
  intro l hl
  obtain ⟨pr, hp, p0, p1⟩ := prime8 (k := k % 8) (Int.emod_nonneg _ (by decide)) (Int.emod_lt_of_pos _ (by decide))
  have hb : (c % 2147483647 + 104729 * k + 7).natAbs < 2 ^ 64 := by
    have := Int.emod_nonneg c (by decide : (2147483647 : Int) ≠ 0)
    have := Int.emod_lt_of_pos c (by decide : (0 : Int) < 2147483647)
    omega
  have cp : CPow (c % 2147483647 + 104729 * k + 7) 5 := ⟨by decide, by decide, hb⟩
  walk_at "go"
  refine ro_ix (seq_ref (by walk_at "mu")) hp ?_
  walk_at "go"
  intro r hr
  have hr' := none_back hr
  refine up_of (sb_sub (sb_new sb_refl hl)) (q r _ _ hr' ⟨Int.emod_nonneg _ (by omega), ?_⟩)
  have := Int.emod_lt_of_pos ((c % 2147483647 + 104729 * k + 7) ^ 5) p0
  omega
theorem ok_l_take {f : Addr} {fd : FuncData} (F : Fun K "_law_take" "_law_take" s_l_take f fd) (B : Bs mg) : FnOk P w K mg base CX0 1 f fd ["_law_bag_here", "_law_many"] (spI K P_l_take) := by
  refine F.ok sc_l_take (fun vs H Q E h => spI_len h len_l_take) (fun cdv A outer s H vs Q E hr h => ?_)
  have hu65 := hu65_of hr
  refine ⟨_, (pss_cons (ps_if (pt_cmpR op_gt (pe_ix (ix_seqK (K := K) rfl) (pv 0) pe_int (fun _ _ => rfl)) pe_int (by first | exact nomark _ | rfl)) (pss_cons (ps_set (i := 2) sc_l_take.nd rfl (by first | exact Or.inl rfl | exact Or.inr rfl) (pe_op op_mod (pe_ix (ix_seqK (K := K) rfl) (pv 0) pe_int (fun _ _ => rfl)) (pv 1)))
      (pss_cons (ps_asg (pe_op op_fdivW (pe_ix (ix_seqK (K := K) rfl) (pv 0) pe_int (fun _ _ => rfl)) (pv 1)) (pg_sub (pv 0) pe_int set_list))
      (pss_one (ps_ret (pv 2))))) pss_nil)
      (pss_cons (ps_asg (pe_op op_mod (pe_op op_add (pe_op op_mulW (pe_ix (ix_seqK (K := K) rfl) (pv 0) pe_int (fun _ _ => rfl)) pe_int) pe_int) pe_int) (pg_sub (pv 0) pe_int set_list))
      (pss_one (ps_ret (pe_op op_mod (pe_op op_mod (pe_op op_pow (pe_op op_fdivW (pe_ix (ix_seqK (K := K) rfl) (pv 0) pe_int (fun _ _ => rfl)) pe_int) pe_int) pe_int) (pv 1)))))), body_ok h (fun ds μ Φ p => ?_)⟩
  (try dsimp only [cxOf, Cx.nox, Cx.wish, List.map_cons, List.map_nil])
  obtain ⟨b, n, c, m, rfl, hb, hm, hn, hz, q⟩ := p
  show AS K _ [some _, some _, none] _ _
  have sm : Sz 31 m := by unfold Sz; have := hm.1; have := hm.2; omega
  walk_at "go"
  refine ite_d (fun h => ?_) (fun h => ?_)
  · walk_at "go"
    exact q _ _ _ (Int.emod_nonneg _ (by omega)) (Int.emod_lt_of_pos _ hn) (sz_mod hn hz) hm
  · walk_at "go"
    exact q _ _ _ (Int.emod_nonneg _ (by omega)) (Int.emod_lt_of_pos _ hn) (sz_mod hn hz) ⟨Int.emod_nonneg _ (by decide), by have := Int.emod_lt_of_pos (m * 48271 + 11) (show (0 : Int) < 2147483647 by decide); omega⟩
theorem sz_lt {n : Int} (h0 : 0 ≤ n) (h : n < 2147483648) : Sz 4000 n := sz_mono (a := 31) (by unfold Sz; omega) (by decide)
theorem at_get {α : Type} {l : List α} {i : Int} (h0 : 0 ≤ i) (h1 : i < l.length) : ∃ x, atI l i = some x ∧ l[i.toNat]? = some x ∧ x ∈ l := by
  have hx : i.toNat < l.length := by omega
  refine ⟨l[i.toNat], ?_, List.getElem?_eq_getElem hx, List.getElem_mem hx⟩
  unfold atI ixN
  rw [if_pos h0, if_pos (by omega), Option.bind_some, List.getElem?_eq_getElem hx]
theorem take_g {μ0 μ : M} {Φ : D → M → Prop} {b : Addr} {n c m : Int} (hs : SubB b μ0 μ) (hb : μ b = some (.lst [.int c, .int m])) (hm : BgOk m) (hn : 0 < n) (hn1 : n < 2147483648) (q : ∀ d μ' c' m', 0 ≤ d → d < n → SubB b μ0 μ' → μ' b = some (.lst [.int c', .int m']) → BgOk m' → Φ (.int d) μ') : P_l_take [.ref b, .int n] μ Φ :=
  use_take hb hm hn (sz_lt (by omega) hn1) fun d c' m' d0 d1 _ hm' => q d _ c' m' d0 d1 (sb_self hs) set_same hm'
theorem take_w {μ : M} {Φ : D → M → Prop} {b : Addr} {n c m : Int} (hb : μ b = some (.lst [.int c, .int m])) (hm : BgOk m) (hn : 0 < n) (hn1 : n < 2 ^ 200) (q : ∀ d μ' c' m', 0 ≤ d → d < n → SubB b μ μ' → μ' b = some (.lst [.int c', .int m']) → BgOk m' → Φ (.int d) μ') : P_l_take [.ref b, .int n] μ Φ :=
  use_take hb hm hn (sz_mono (a := 200) (by unfold Sz; omega) (by decide)) fun d c' m' d0 d1 _ hm' => q d _ c' m' d0 d1 (sb_self (fun _ _ _ h => h)) set_same hm'
theorem pick_list {K : PySem.W.Frag} {τ : T} {μ : M} {Φ : D → M → Prop} {b : Addr} {c m k : Int} {v : Nat} {ds : List D} {ts : TA} (hτ : τ[v]? = some (some (.ref b))) (hb : μ b = some (.lst [.int c, .int m])) (hm : BgOk m) (k0 : 0 < k) (k1 : k < 2 ^ 200) (few : ds.length ≤ sizeLine)
    (hts : ∀ Ψ : List D → M → Prop, Ψ ds μ → AA K ts τ μ Ψ)
    (q : ∀ d, 0 ≤ d → d < k → ∃ e, atI ds d = some e ∧ ∀ μ' c' m', SubB b μ μ' → μ' b = some (.lst [.int c', .int m']) → BgOk m' → Φ e μ') :
    AE K (tOp (rIx K) (tLst ts) (tCall (spI K P_l_take) [] E0 (tCons (tVar v) (tCons (tC (V.int k)) tNil)))) τ μ Φ := by
  refine a_op ?_
  refine a_lst (hts _ ?_)
  refine ⟨few, fun l hl => ?_⟩
  have nl : l ≠ b := by rintro rfl; rw [hb] at hl; cases hl
  refine a_call ?_
  refine aa_cons ?_
  refine a_var hτ ?_
  refine aa_cons ?_
  refine a_int ?_
  refine aa_nil ?_
  refine take_w (by rw [set_ne (Ne.symm nl)]; exact hb) hm k0 k1 fun d μ2 c2 m2 d0 d1 sb2 hb2 hm2 => ?_
  obtain ⟨e, he, q2⟩ := q d d0 d1
  refine ro_ix (seq_ref (sb2 l _ nl set_same)) he ?_
  exact q2 μ2 c2 m2 (sb_trans (sb_new (fun _ _ _ h => h) hl) sb2) hb2 hm2
theorem pickA68 {d : Int} (h0 : 0 ≤ d) (h1 : d < 2) : ∃ z : Int, atI [D.int 4, D.int (10 ^ 29)] d = some (.int z) ∧ 0 < z ∧ z ≤ 10 ^ 29 := by
  have h : d = 0 ∨ d = 1 := by omega
  rcases h with h | h <;> subst h <;> exact ⟨_, rfl, by decide, by decide⟩
theorem pickB68 {d : Int} (h0 : 0 ≤ d) (h1 : d < 2) : ∃ z : Int, atI [D.int 1, D.int (-1)] d = some (.int z) ∧ (z = 1 ∨ z = -1) := by
  have h : d = 0 ∨ d = 1 := by omega
  rcases h with h | h <;> subst h <;> exact ⟨_, rfl, by decide⟩
theorem pickC68 {d : Int} (h0 : 0 ≤ d) (h1 : d < 3) : ∃ z : Int, atI [D.int 1, D.int 9, D.int (10 ^ 29)] d = some (.int z) ∧ 0 < z ∧ z ≤ 10 ^ 29 := by
  have h : d = 0 ∨ d = 1 ∨ d = 2 := by omega
  rcases h with h | h | h <;> subst h <;> exact ⟨_, rfl, by decide, by decide⟩
theorem pickT68 {d : Int} (h0 : 0 ≤ d) (h1 : d < 3) : ∃ z : Int, atI [D.int 3, D.int 12, D.int 81] d = some (.int z) ∧ 0 < z ∧ z ≤ 81 := by
  have h : d = 0 ∨ d = 1 ∨ d = 2 := by omega
  rcases h with h | h | h <;> subst h <;> exact ⟨_, rfl, by decide, by decide⟩
theorem pickP68 {d : Int} (h0 : 0 ≤ d) (h1 : d < 2) : ∃ z : Int, atI [D.int 10, D.int 10000] d = some (.int z) ∧ 0 < z ∧ z ≤ 10000 := by
  have h : d = 0 ∨ d = 1 := by omega
  rcases h with h | h <;> subst h <;> exact ⟨_, rfl, by decide, by decide⟩
theorem pickS68 {d : Int} (h0 : 0 ≤ d) (h1 : d < 2) : ∃ l : Bool, atI [D.str (Str.ofString "left"), D.str (Str.ofString "right")] d = some (.str (sideS l)) := by
  have h : d = 0 ∨ d = 1 := by omega
  rcases h with h | h <;> subst h
  · exact ⟨true, rfl⟩
  · exact ⟨false, rfl⟩
theorem ae_mono {K : PySem.W.Frag} {te : TE} {τ : T} {μ : M} {Φ Ψ : D → M → Prop} (h : AE K te τ μ Ψ) (i : ∀ d μ', Ψ d μ' → Φ d μ') : AE K te τ μ Φ := fun σ H s c Q k => h σ H s c Q fun d μ' v H' f c' r p => k d μ' v H' f c' r (i d μ' p)
theorem pick2 {d : Int} (h0 : 0 ≤ d) (h1 : d < 2) : ∃ z : Int, atI [D.int 20, D.int 99] d = some (.int z) ∧ 0 < z ∧ z < 100 := by
  have h : d = 0 ∨ d = 1 := by omega
  rcases h with h | h <;> subst h <;> exact ⟨_, rfl, by decide, by decide⟩
theorem cut_one {s : Str} {f : Int} (h : 0 ≤ f) : (cutS s (some f) (some (f + 1))).length ≤ 1 := by
  rw [TL.len_tl, tl_cut, List.length_take]
  have e : ∀ (n d : Nat) (i : Int), 0 ≤ i → HT.sIx n d (some i) = min i.toNat n := fun n d i hi => by
    show (if i < 0 then _ else _) = _
    rw [if_neg (by omega)]
  rw [e _ _ _ h, e _ _ _ (by omega)]
  omega
theorem sIx_pos (n d : Nat) {i : Int} (h : 0 ≤ i) : HT.sIx n d (some i) = min i.toNat n := by
  show (if i < 0 then _ else _) = _
  rw [if_neg (by omega)]
theorem cut_lo {s : Str} {k : Int} (h : 0 ≤ k) : (cutS s none (some k)).length ≤ k.toNat := by
  rw [TL.len_tl, tl_cut, List.length_take, sIx_pos _ _ h]
  show min (min k.toNat s.length - 0) _ ≤ _
  omega
theorem cut_hi {s : Str} {k : Int} (h : 0 ≤ k) : (cutS s (some k) none).length ≤ s.length - k.toNat := by
  rw [TL.len_tl, tl_cut, List.length_take, List.length_drop, sIx_pos _ _ h, ← TL.len_tl]
  omega
theorem len_app (a b : Str) : (a ++ b).length = a.length + b.length := by
  rw [TL.len_tl, TL.tl_append, List.length_append, ← TL.len_tl, ← TL.len_tl]
theorem len_part {y : Str} {n : Int} (h : y.length ≤ 1) : (if n = 1 then y else Str.empty).length ≤ 1 := by
  split
  · exact h
  · exact Nat.zero_le _
theorem join_len (a : Str) : ∀ ys : List Str, (Txt.join a ys).length ≤ (ys.map (·.length)).sum + ys.length * a.length
  | [] => by rw [TL.join_eq, TL.len_tl, TL.tl_join]; exact Nat.zero_le _
  | [y] => by rw [TL.join_eq, TL.len_tl, TL.tl_join]; show (TL.tl y).length ≤ _; rw [← TL.len_tl, List.map_cons, List.sum_cons]; omega
  | y :: z :: r => by
    have i := join_len a (z :: r)
    rw [TL.join_eq, TL.len_tl, TL.tl_join] at i ⊢
    show (TL.tl y ++ (TL.tl a ++ TL.joinL (TL.tl a) ((z :: r).map TL.tl))).length ≤ _
    rw [List.length_append, List.length_append, ← TL.len_tl, ← TL.len_tl, List.map_cons (f := fun x : Str => x.length), List.sum_cons, List.length_cons, Nat.succ_mul]
    generalize ((z :: r).map (·.length)).sum = n1 at i ⊢
    generalize (z :: r).length * a.length = n2 at i ⊢
    have i' : (TL.joinL (TL.tl a) (TL.tl z :: List.map TL.tl r)).length ≤ n1 + n2 := i
    have j : y.length + (a.length + (TL.joinL (TL.tl a) (TL.tl z :: List.map TL.tl r)).length) ≤ y.length + n1 + (n2 + a.length) := by omega
    exact j
theorem sum_set (f : Str → Nat) (y : Str) : ∀ (l : List Str) (i : Nat), ((l.set i y).map f).sum ≤ (l.map f).sum + f y
  | [], i => by simp
  | a :: l, 0 => by simp; omega
  | a :: l, i + 1 => by
    have := sum_set f y l i
    rw [List.set_cons_succ, List.map_cons, List.map_cons, List.sum_cons, List.sum_cons]
    omega
theorem mem_sum (f : Str → Nat) {y : Str} : ∀ {l : List Str}, y ∈ l → f y ≤ (l.map f).sum
  | a :: l, h => by
    rw [List.map_cons, List.sum_cons]
    rcases List.mem_cons.mp h with rfl | h
    · omega
    · have := mem_sum f h
      omega
theorem sum_split (f : Str → Nat) (l : List Str) (k : Nat) : (l.map f).sum = ((l.take k).map f).sum + ((l.drop k).map f).sum := by
  rw [← List.sum_append_nat, ← List.map_append, List.take_append_drop]
theorem sum_drop (f : Str → Nat) (l : List Str) (k : Nat) : ((l.drop k).map f).sum ≤ (l.map f).sum := by
  have := sum_split f l k
  omega
theorem at_map {α : Type} {f : α → D} {l : List α} {i : Int} {x : α} (h : atI l i = some x) : atI (l.map f) i = some (f x) := by
  unfold atI at h ⊢
  rw [List.length_map]
  cases e : ixN l.length i with
  | none => rw [e] at h; cases h
  | some j =>
    rw [e, Option.bind_some] at h
    rw [Option.bind_some, List.getElem?_map, h]
    rfl
theorem ix_nat {n : Nat} {i : Int} (h0 : 0 ≤ i) (h1 : i < n) : ixN n i = some i.toNat := by
  unfold ixN
  rw [if_pos h0, if_pos h1]
def lawM4 (ns : List Int) : Int := if (if ((ns.map D.int).length : Int) < 4 then ((ns.map D.int).length : Int) else 4) > 1 then (if ((ns.map D.int).length : Int) < 4 then ((ns.map D.int).length : Int) else 4) else 1
theorem lawM4_le (ns : List Int) : 1 ≤ lawM4 ns ∧ lawM4 ns ≤ 4 := by
  unfold lawM4
  constructor <;> split <;> (try split) <;> omega
theorem set_id {μ : M} {l : Addr} {X : MO} (h : μ l = some X) : μ.set l X = μ := by
  funext a
  by_cases e : a = l
  · rw [e, h]; exact set_same
  · exact set_ne e
def P_l_sign : PT3 := fun ds μ Φ => ∃ (b : Addr) (n c m : Int), ds = [.ref b, .int n] ∧ μ b = some (.lst [.int c, .int m]) ∧ BgOk m ∧ 0 < n ∧ Sz 4000 n ∧ ∀ ch c' m', BgOk m' → Φ (sg ch) (μ.set b (.lst [.int c', .int m']))
theorem len_l_sign (ds : List D) (μ : M) (Φ : D → M → Prop) (h : P_l_sign ds μ Φ) : ds.length = 2 := by
  obtain ⟨_, _, _, _, rfl, _⟩ := h
  rfl
def P_l_bent : PT3 := fun ds μ Φ => ∃ (b : Addr) (s : Str) (c m : Int), ds = [.ref b, .str s] ∧ μ b = some (.lst [.int c, .int m]) ∧ BgOk m ∧ s.length ≤ 8000 ∧ ∀ (z : Str) c' m', z.length ≤ s.length + 2 → BgOk m' → Φ (.str z) (μ.set b (.lst [.int c', .int m']))
theorem len_l_bent (ds : List D) (μ : M) (Φ : D → M → Prop) (h : P_l_bent ds μ Φ) : ds.length = 2 := by
  obtain ⟨_, _, _, _, rfl, _⟩ := h
  rfl
def P_l_word_bent : PT3 := fun ds μ Φ => ∃ (b : Addr) (s : Str) (c m : Int), ds = [.ref b, .str s] ∧ μ b = some (.lst [.int c, .int m]) ∧ BgOk m ∧ s.length ≤ 2000 ∧ ∀ (z : Str) c' m', z.length ≤ lng → BgOk m' → Φ (.str z) (μ.set b (.lst [.int c', .int m']))
theorem len_l_word_bent (ds : List D) (μ : M) (Φ : D → M → Prop) (h : P_l_word_bent ds μ Φ) : ds.length = 2 := by
  obtain ⟨_, _, _, _, rfl, _⟩ := h
  rfl
def P_l_number : PT3 := fun ds μ Φ => ∃ (w : Str) (k : Nat), ds = [.str w, .int k] ∧ k ≤ 640 ∧ w.length ≤ lng ∧ Φ (oD (numIn k w)) μ
theorem len_l_number (ds : List D) (μ : M) (Φ : D → M → Prop) (h : P_l_number ds μ Φ) : ds.length = 2 := by
  obtain ⟨_, _, rfl, _⟩ := h
  rfl
theorem use_l_number {μ : M} {Φ : D → M → Prop} {w : Str} (hw : w.length ≤ lng) (q : Φ (oD (numIn 4 w)) μ) : P_l_number [.str w, .int 4] μ Φ := ⟨w, 4, rfl, by decide, hw, q⟩
def P_l_alone (C : Addr) : PTE := fun cls d a μ Φ => cls = .ref C ∧ d = none ∧ Φ (.bl true) μ
def P_l_read (C : Addr) : PT3 := fun ds μ Φ => ∃ (d : D) (n : String) (b : Bool), ds = [.ref C, d] ∧ tyn μ d = some n ∧ kitB n "str" = some b ∧ (b = false → Φ (.str "none") μ) ∧
  (b = true → ∃ s : Str, d = .str s ∧ s.length ≤ lng ∧ Φ ((touRes s).getD (.str "none")) μ)
theorem len_l_read (C : Addr) (ds : List D) (μ : M) (Φ : D → M → Prop) (h : P_l_read C ds μ Φ) : ds.length = 2 := by
  obtain ⟨_, _, _, rfl, _⟩ := h
  rfl
def P_l_low : PT3 := fun ds μ Φ => ∃ a b : Int, ds = [.int a, .int b] ∧ a.natAbs < 10 ^ 30 ∧ 0 < b ∧ b < 10 ^ 30 ∧ ∀ p q : Int, p.natAbs < 10 ^ 30 → 0 < q → q < 10 ^ 30 → Φ (.tup [.int p, .int q]) μ
theorem len_l_low (ds : List D) (μ : M) (Φ : D → M → Prop) (h : P_l_low ds μ Φ) : ds.length = 2 := by
  obtain ⟨_, _, rfl, _⟩ := h
  rfl
def P_l_touched_in : PT3 := fun ds μ Φ => ∃ s : Str, ds = [.str s] ∧ s.length ≤ lng ∧ Φ ((touRes s).getD .non) μ
theorem len_l_touched_in (ds : List D) (μ : M) (Φ : D → M → Prop) (h : P_l_touched_in ds μ Φ) : ds.length = 1 := by
  obtain ⟨_, rfl, _⟩ := h
  rfl
def P_l_written : PT3 := fun ds μ Φ => ∃ p : Fr2 × Fr2, ds = [plD p] ∧ FrOk p.1 ∧ FrOk p.2 ∧ Φ (.str (plS p)) μ
theorem len_l_written (ds : List D) (μ : M) (Φ : D → M → Prop) (h : P_l_written ds μ Φ) : ds.length = 1 := by
  obtain ⟨_, rfl, _⟩ := h
  rfl
def P_l_some_line : PT3 := fun ds μ Φ => ∃ (b : Addr) (c m : Int), ds = [.ref b] ∧ μ b = some (.lst [.int c, .int m]) ∧ BgOk m ∧
  ∀ (ps : List (Fr2 × Fr2)) (c' m' : Int), (∀ p ∈ ps, FrOk p.1 ∧ FrOk p.2) → ps.length ≤ 9 → BgOk m' → Φ (.tup (ps.map plD)) (μ.set b (.lst [.int c', .int m']))
theorem len_l_some_line (ds : List D) (μ : M) (Φ : D → M → Prop) (h : P_l_some_line ds μ Φ) : ds.length = 1 := by
  obtain ⟨_, _, _, rfl, _⟩ := h
  rfl
theorem ok_l_sign {f : Addr} {fd : FuncData} (F : Fun K "_law_sign" "_law_sign" s_l_sign f fd) (B : Bs mg) (G_l_take : Def P w K mg base "_law_take" ["_law_bag_here", "_law_many"] 1 (spI K P_l_take)) : FnOk P w K mg base CX0 3 f fd ["_law_bag_here", "_law_most"] (spI K P_l_sign) := by
  refine F.ok sc_l_sign (fun vs H Q E h => spI_len h len_l_sign) (fun cdv A outer s H vs Q E hr h => ?_)
  have hu65 := hu65_of hr
  refine ⟨_, (pss_cons (ps_set (i := 2) sc_l_sign.nd rfl (by first | exact Or.inl rfl | exact Or.inr rfl) (pe_op op_add_str pe_str pe_str))
      (pss_cons (ps_set (i := 2) sc_l_sign.nd rfl (by first | exact Or.inl rfl | exact Or.inr rfl) (pe_op op_add_str (pv 2) pe_str))
      (pss_one (ps_ret (pe_ix (ix_seqK (K := K) rfl) (pv 2) (pe_def G_l_take (hr.mono (by decide)) (by rfl) (pa_cons (pv 0) (pa_cons (pe_callB (call_min2 rfl) (by rfl) B.b_min (by decide +kernel) (pa_cons (pv 1) (pa_cons (pe_callB (call_lenK (K := K) rfl) (by rfl) B.b_len (by decide +kernel) (pa_cons (pv 2) pa_nil)) pa_nil))) pa_nil))) (fun _ _ => rfl)))))), body_okU h (fun ds μ Φ p => ?_)⟩
  (try dsimp only [cxOf, Cx.nox, Cx.wish, List.map_cons, List.map_nil])
  obtain ⟨b, n, c, m, rfl, hb, hm, hn, hz, q⟩ := p
  show AS K _ [some _, some _, none] _ _
  walk_at "go"
  have hl : (Str.ofString "0123456789:. ;LR-/, " ++ Str.ofString "!\"#$&'()*+<=>?@ABCDEFGHIJKMNOPQSTUVWXYZ[]^_`" ++ Str.ofString "abcdefghijklmnopqrstuvwxyz{|}~\\").length = 95 := by decide +kernel
  generalize (Str.ofString "0123456789:. ;LR-/, " ++ Str.ofString "!\"#$&'()*+<=>?@ABCDEFGHIJKMNOPQSTUVWXYZ[]^_`" ++ Str.ofString "abcdefghijklmnopqrstuvwxyz{|}~\\") = w at hl ⊢
  rw [hl]
  have r95 : ∀ k : Int, 0 < k → k ≤ 95 → P_l_take [.ref b, .int k] μ fun e μ2 => RO K (rIx K) (.str w) e μ2 (Up Φ) := fun k k0 k1 => by
    refine use_take hb hm k0 (sz_lt (by omega) (by omega)) fun d c' m' d0 d1 _ hm' => ?_
    obtain ⟨x, hx, -, -⟩ := at_get (l := w.cps.toList) d0 (by rw [Array.length_toList]; exact Int.lt_of_lt_of_le (show d < ((95 : Nat) : Int) by omega) (Int.ofNat_le.mpr (Nat.le_of_eq hl.symm)))
    exact ro_ixS (by rw [hl]; decide) hx (up (q _ _ _ hm'))
  split
  · exact r95 _ (by decide) (by decide)
  · exact r95 _ hn (by omega)
theorem ok_l_bent {f : Addr} {fd : FuncData} (F : Fun K "_law_bent" "_law_bent" s_l_bent f fd) (B : Bs mg) (G_l_sign : Def P w K mg base "_law_sign" ["_law_bag_here", "_law_most"] 3 (spI K P_l_sign)) (G_l_take : Def P w K mg base "_law_take" ["_law_bag_here", "_law_many"] 1 (spI K P_l_take)) : FnOk P w K mg base CX0 4 f fd ["_law_bag_here", "_law_text"] (spI K P_l_bent) := by
  refine F.ok sc_l_bent (fun vs H Q E h => spI_len h len_l_bent) (fun cdv A outer s H vs Q E hr h => ?_)
  have hu65 := hu65_of hr
  refine ⟨_, (pss_cons (ps_for PassesOwn.never rfl (pi_range1 (by rfl) B.b_range (pa_cons (pe_def G_l_take (hr.mono (by decide)) (by rfl) (pa_cons (pv 0) (pa_cons pe_int pa_nil))) pa_nil)) (pg_name (i := 2) sc_l_bent.nd rfl (by first | exact Or.inl rfl | exact Or.inr rfl))
      (pss_cons (ps_par (i := 3) (j := 4) rfl sc_l_bent.nd rfl rfl (by decide) rfl rfl (pa_cons (pe_def G_l_take (hr.mono (by decide)) (by rfl) (pa_cons (pv 0) (pa_cons pe_int pa_nil))) (pa_cons (pe_def G_l_take (hr.mono (by decide)) (by rfl) (pa_cons (pv 0) (pa_cons (pe_op op_add (pe_callB (call_lenK (K := K) rfl) (by rfl) B.b_len (by decide +kernel) (pa_cons (pv 1) pa_nil)) pe_int) pa_nil))) pa_nil)) (by rfl))
      (pss_cons (ps_set (i := 5) sc_l_bent.nd rfl (by first | exact Or.inl rfl | exact Or.inr rfl) (pe_def G_l_sign (hr.mono (by decide)) (by rfl) (pa_cons (pv 0) (pa_cons (pe_ix (ix_seqK (K := K) rfl) (pe_lst (pa_cons pe_int (pa_cons pe_int pa_nil))) (pe_def G_l_take (hr.mono (by decide)) (by rfl) (pa_cons (pv 0) (pa_cons pe_int pa_nil))) (fun _ _ => rfl)) pa_nil))))
      (pss_cons (ps_if (pt_cmpR op_eq (pv 3) pe_int (by first | exact nomark _ | rfl)) (pss_cons (ps_set (i := 6) sc_l_bent.nd rfl (by first | exact Or.inl rfl | exact Or.inr rfl) (pe_def G_l_take (hr.mono (by decide)) (by rfl) (pa_cons (pv 0) (pa_cons (pe_op op_add (pe_callB (call_lenK (K := K) rfl) (by rfl) B.b_len (by decide +kernel) (pa_cons (pv 1) pa_nil)) pe_int) pa_nil))))
      (pss_one (ps_set (i := 5) sc_l_bent.nd rfl (by first | exact Or.inl rfl | exact Or.inr rfl) (pe_slice sl_str (pv 1) (po_some (pv 6)) (po_some (pe_op op_add (pv 6) pe_int)))))) pss_nil)
      (pss_cons (ps_set (i := 7) sc_l_bent.nd rfl (by first | exact Or.inl rfl | exact Or.inr rfl) (pe_slice sl_str (pv 1) (po_some (pe_op op_add (pv 4) (pe_callTy call_int1 (by rfl) B.b_int (by decide +kernel) (pa_cons (pe_cmpR op_ne (pv 3) pe_int (by first | exact nomark _ | rfl)) pa_nil)))) po_none))
      (pss_one (ps_set (i := 1) sc_l_bent.nd rfl (by first | exact Or.inl rfl | exact Or.inr rfl) (pe_op op_add_str (pe_op op_add_str (pe_slice sl_str (pv 1) po_none (po_some (pv 4))) (pe_op op_mul_sb (pv 5) (pe_callTy call_int1 (by rfl) B.b_int (by decide +kernel) (pa_cons (pe_cmpR op_ne (pv 3) pe_int (by first | exact nomark _ | rfl)) pa_nil)))) (pv 7)))))))))
      (pss_one (ps_ret (pv 1)))), body_okU h (fun ds μ Φ p => ?_)⟩
  (try dsimp only [cxOf, Cx.nox, Cx.wish, List.map_cons, List.map_nil])
  obtain ⟨b, s, c, m, rfl, hb, hm, hs, q⟩ := p
  show AS K _ [some _, some _, none, none, none, none, none, none] _ _
  walk_at "go"
  refine s_for (ai_1 ?_)
  walk_at "go"
  refine take_g (μ0 := μ) (fun _ _ _ h => h) hb hm (by decide) (by decide) fun t μ1 c1 m1 t0 t1 sb1 hb1 hm1 => ?_
  walk_at "go"
  refine ⟨by omega, by omega, fun (j : Nat) τ' μ' => ∃ (z : Str) (c m : Int) (o2 o3 o4 o5 o6 o7 : Option D), z.length ≤ s.length + j ∧ BgOk m ∧ SubB b μ μ' ∧ μ' b = some (.lst [.int c, .int m]) ∧ τ' = [some (.ref b), some (.str z), o2, o3, o4, o5, o6, o7], ⟨s, c1, m1, none, none, none, none, none, none, Nat.le_refl _, hm1, sb1, hb1, rfl⟩, ?_, ?_⟩
  rotate_left
  · rintro τ' μ' ⟨z, c, m, o2, o3, o4, o5, o6, o7, hz, hm, sb, hb, rfl⟩
    walk_at "go"
    refine up_of (sb_end sb hb) (q z c m ?_ hm)
    rw [List.length_map, List.length_range] at hz
    omega
  rintro j x τ' μ' hj ⟨z, c, m, o2, o3, o4, o5, o6, o7, hz, hm, sb, hb, rfl⟩
  have jl : j < 2 := by
    have := (List.getElem?_eq_some_iff.mp hj).1
    rw [List.length_map, List.length_range] at this
    omega
  have zs : z.length ≤ lng := Nat.le_trans (show z.length ≤ 8002 by omega) (by decide)
  have z1 : (z.length : Int) + 1 < 2147483648 := by omega
  walk_at "go"
  refine take_g sb hb hm (by decide) (by decide) fun w μ2 c2 m2 w0 w1 sb2 hb2 hm2 => ?_
  walk_at "go"
  refine take_g sb2 hb2 hm2 (by omega) z1 fun sp μ3 c3 m3 p0 p1 sb3 hb3 hm3 => ?_
  walk_at "go"
  intro l hl
  have nl : l ≠ b := by rintro rfl; rw [hb3] at hl; cases hl
  have sb4 := sb_new (Y := .lst [D.int 20, D.int 99]) sb3 hl
  have hb4 : (μ3.set l (.lst [D.int 20, D.int 99])) b = some (.lst [.int c3, .int m3]) := by rw [set_ne (Ne.symm nl)]; exact hb3
  refine a_call ?_
  walk_at "go"
  refine take_g (μ0 := μ3.set l (.lst [D.int 20, D.int 99])) (fun _ _ _ h => h) hb4 hm3 (by decide) (by decide) fun d2 μ5 c5 m5 d20 d21 sb5 hb5 hm5 => ?_
  obtain ⟨n2, hn2, n20, n21⟩ := pick2 d20 d21
  refine ro_ix (seq_ref (sb5 l _ nl set_same)) hn2 ?_
  walk_at "go"
  have sb6 := sb_trans sb4 sb5
  refine ⟨b, n2, c5, m5, rfl, hb5, hm5, n20, sz_lt (by omega) (by omega), fun ch c6 m6 hm6 => ?_⟩
  have sb7 := sb_self (Y := .lst [.int c6, .int m6]) sb6
  have hb7 : (μ5.set b (.lst [.int c6, .int m6])) b = some (.lst [.int c6, .int m6]) := set_same
  show AG K _ _ _ (μ5.set b (.lst [.int c6, .int m6])) _
  generalize μ5.set b (.lst [.int c6, .int m6]) = μ7 at sb7 hb7 ⊢
  clear hb5 sb5 sb6 hb4 sb4 hl nl hn2
  walk_at "go"
  refine if_cut (fun τ' μ' => ∃ (y : Str) (c m : Int) (o6 : Option D), y.length ≤ 1 ∧ BgOk m ∧ SubB b μ μ' ∧ μ' b = some (.lst [.int c, .int m]) ∧ τ' = [some (.ref b), some (.str z), some x, some (.int w), some (.int sp), some (.str y), o6, o7]) (fun _ => ?_) (fun _ => ?_) ?_
  · walk_at "go"
    refine take_g sb7 hb7 hm6 (by omega) z1 fun fr μ8 c8 m8 f0 f1 sb8 hb8 hm8 => ?_
    walk_at "go"
    exact ⟨_, _, _, _, cut_one f0, hm8, sb8, hb8, rfl⟩
  · walk_at "go"
    exact ⟨⟨#[ch]⟩, _, _, _, Nat.le_refl 1, hm6, sb7, hb7, rfl⟩
  rintro τ' μ8 ⟨y, c8, m8, o6', ly, hm8, sb8, hb8, rfl⟩
  walk_at "go"
  refine ro_mul_sb (by split <;> simp) ?_
  generalize hn : (if (!decide (w = 1)) = true then (1 : Int) else 0) = n1
  generalize hk : (if (!decide (w = 0)) = true then (1 : Int) else 0) = k1
  have k10 : 0 ≤ k1 := by rw [← hk]; split <;> decide
  have b1 := len_part (n := n1) ly
  have b2 := cut_lo (s := z) (k := sp) p0
  have b3 := cut_hi (s := z) (k := sp + k1) (by omega)
  generalize (if n1 = 1 then y else Str.empty) = y1 at b1
  generalize cutS z none (some sp) = y2 at b2
  generalize cutS z (some (sp + k1)) none = y3 at b3
  have zz : z.length ≤ 8002 := by omega
  refine ro_addS (Nat.le_trans (show y2.length + y1.length ≤ 8010 by omega) (by decide)) ?_
  walk_at "go"
  refine ro_addS (by rw [len_app]; exact Nat.le_trans (show y2.length + y1.length + y3.length ≤ 8010 by omega) (by decide)) ?_
  walk_at "go"
  refine ⟨_, c8, m8, _, _, _, _, _, _, ?_, hm8, sb8, hb8, rfl⟩
  rw [len_app, len_app]
  omega
theorem ok_l_word_bent {f : Addr} {fd : FuncData} (F : Fun K "_law_word_bent" "_law_word_bent" s_l_word_bent f fd) (B : Bs mg) (G_l_take : Def P w K mg base "_law_take" ["_law_bag_here", "_law_many"] 1 (spI K P_l_take)) : FnOk P w K mg base CX0 3 f fd ["_law_bag_here", "_law_text"] (spI K P_l_word_bent) := by
  refine F.ok sc_l_word_bent (fun vs H Q E h => spI_len h len_l_word_bent) (fun cdv A outer s H vs Q E hr h => ?_)
  have hu65 := hu65_of hr
  refine ⟨_, (pss_cons (ps_set (i := 2) sc_l_word_bent.nd rfl (by first | exact Or.inl rfl | exact Or.inr rfl) (pe_split (pv 1) pe_str))
      (pss_cons (ps_par (i := 3) (j := 4) rfl sc_l_word_bent.nd rfl rfl (by decide) rfl rfl (pa_cons (pe_def G_l_take (hr.mono (by decide)) (by rfl) (pa_cons (pv 0) (pa_cons (pe_callB (call_lenK (K := K) rfl) (by rfl) B.b_len (by decide +kernel) (pa_cons (pv 2) pa_nil)) pa_nil))) (pa_cons (pe_def G_l_take (hr.mono (by decide)) (by rfl) (pa_cons (pv 0) (pa_cons (pe_callB (call_lenK (K := K) rfl) (by rfl) B.b_len (by decide +kernel) (pa_cons (pv 2) pa_nil)) pa_nil))) pa_nil)) (by rfl))
      (pss_cons (ps_set (i := 5) sc_l_word_bent.nd rfl (by first | exact Or.inl rfl | exact Or.inr rfl) (pe_def G_l_take (hr.mono (by decide)) (by rfl) (pa_cons (pv 0) (pa_cons pe_int pa_nil))))
      (pss_cons (ps_if (pt_cmpR op_eq (pv 5) pe_int (by first | exact nomark _ | rfl)) (pss_one (ps_expr (pe_bm PySem.F.plainAttrs_list PySem.F.slot_list_pop PySem.F.type_list_pop mt_popAt (pv 2) (pa_cons (pv 3) pa_nil)))) (pss_one (ps_if (pt_cmpR op_eq (pv 5) pe_int (by first | exact nomark _ | rfl)) (pss_one (ps_expr (pe_bm PySem.F.plainAttrs_list PySem.F.slot_list_insert PySem.F.type_list_insert mt_insert (pv 2) (pa_cons (pv 3) (pa_cons (pe_ix (ix_seqK (K := K) rfl) (pv 2) (pv 4) (fun _ _ => rfl)) pa_nil))))) (pss_cons (ps_set (i := 6) sc_l_word_bent.nd rfl (by first | exact Or.inl rfl | exact Or.inr rfl) (pe_ix (ix_seqK (K := K) rfl) (pv 2) (pv 3) (fun _ _ => rfl)))
      (pss_cons (ps_asg (pe_ix (ix_seqK (K := K) rfl) (pv 2) (pv 4) (fun _ _ => rfl)) (pg_sub (pv 2) (pv 3) set_list))
      (pss_one (ps_asg (pv 6) (pg_sub (pv 2) (pv 4) set_list))))))))
      (pss_one (ps_ret (pe_joinK (K := K) rfl pe_str (pv 2)))))))), body_okU h (fun ds μ Φ p => ?_)⟩
  (try dsimp only [cxOf, Cx.nox, Cx.wish, List.map_cons, List.map_nil])
  obtain ⟨b, s, c, m, rfl, hb, hm, hs, q⟩ := p
  show AS K _ [some _, some _, none, none, none, none, none] _ _
  walk_at "go"
  refine m_split (a := s) (b := " ") ?_
  walk_at "go"
  refine ⟨rfl, ?_⟩
  walk_at "go"
  refine ⟨rfl, by decide +kernel, Nat.le_trans (Nat.add_le_add_right hs 2) (by decide), fun p hp => ?_⟩
  have total := words_sum s
  have many := words_few s
  have one := List.length_pos_iff.mpr (words_ne s)
  show AG K _ _ _ (μ.set p (.lst ((words s).map D.str))) _
  generalize words s = ws at total many one ⊢
  have np : p ≠ b := by rintro rfl; rw [hb] at hp; cases hp
  have sb0 := sb_new (Y := .lst (ws.map D.str)) (fun _ _ _ h => h : SubB b μ μ) hp
  have gp : (μ.set p (.lst (ws.map D.str))) p = some (.lst (ws.map D.str)) := set_same
  have gb : (μ.set p (.lst (ws.map D.str))) b = some (.lst [.int c, .int m]) := by rw [set_ne (Ne.symm np)]; exact hb
  generalize μ.set p (.lst (ws.map D.str)) = μ0 at sb0 gp gb ⊢
  have lw : (ws.length : Int) < 2147483648 := by omega
  walk_at "go"
  refine take_g (μ0 := μ0) (fun _ _ _ h => h) gb hm (by rw [List.length_map]; omega) (by rw [List.length_map]; exact lw) fun at_ μ1 c1 m1 a0 a1 sb1 gb1 hm1 => ?_
  rw [List.length_map] at a1
  have gp1 := sb1 _ _ np gp
  walk_at "go"
  refine take_g (μ0 := μ1) (fun _ _ _ h => h) gb1 hm1 (by rw [List.length_map]; omega) (by rw [List.length_map]; exact lw) fun far μ2 c2 m2 f0 f1 sb2 gb2 hm2 => ?_
  rw [List.length_map] at f1
  have gp2 := sb2 _ _ np gp1
  walk_at "go"
  refine take_g (μ0 := μ2) (fun _ _ _ h => h) gb2 hm2 (by decide) (by decide) fun way μ3 c3 m3 w0 w1 sb3 gb3 hm3 => ?_
  have gp3 := sb3 _ _ np gp2
  have sbx := sb_trans (sb_trans (sb_trans sb0 sb1) sb2) sb3
  have sbx' : ∀ X, SubB b μ (μ3.set p X) := fun X a m' ha e => by
    rw [set_ne (by rintro rfl; rw [hp] at e; cases e)]
    exact sbx a m' ha e
  have gbx : ∀ X, (μ3.set p X) b = some (.lst [.int c3, .int m3]) := fun X => by rw [set_ne (Ne.symm np)]; exact gb3
  obtain ⟨xa, hxa, -, ma⟩ := at_get (l := ws) a0 a1
  obtain ⟨xf, hxf, -, mf⟩ := at_get (l := ws) f0 f1
  have la := mem_sum (·.length) ma
  have lf := mem_sum (·.length) mf
  clear sb0 sb1 sb2 sb3 gp gp1 gp2 gb gb1 gb2 hm1 hm2 sbx
  walk_at "go"
  refine if_cut (fun τ' μ' => ∃ (ys : List Str) (o6 : Option D), (ys.map (·.length)).sum ≤ 6000 ∧ ys.length ≤ 2010 ∧ μ' = μ3.set p (.lst (ys.map D.str)) ∧ τ' = [some (.ref b), some (.str s), some (.ref p), some (.int at_), some (.int far), some (.int way), o6]) (fun _ => ?_) (fun _ => ?_) ?_
  · walk_at "go"
    refine m_popI (a := p) (ds := ws.map D.str) (i := at_) (d := .str xa) a0 (by rw [List.length_map]; omega) ?_ ?_
    · exact at_map hxa
    walk_at "go"
    refine ⟨rfl, ⟨_, gp3⟩, ?_⟩
    walk_at "go"
    refine ⟨rfl, gp3, ws.take at_.toNat ++ ws.drop (at_.toNat + 1), none, ?_, ?_, ?_, rfl⟩
    · have := sum_split (·.length) ws at_.toNat
      have := sum_drop (·.length) (ws.drop at_.toNat) 1
      rw [List.drop_drop] at this
      rw [List.map_append, List.sum_append_nat]
      omega
    · rw [List.length_append, List.length_take, List.length_drop]
      omega
    · rw [List.map_append, List.map_take, List.map_drop]
  · walk_at "go"
    refine ite_d (fun _ => ?_) (fun _ => ?_)
    · walk_at "go"
      refine m_insert (a := p) ?_
      walk_at "go"
      refine ⟨rfl, ⟨_, gp3⟩, ?_⟩
      walk_at "go"
      refine ⟨at_.toNat, by rw [Int.toNat_of_nonneg a0], ⟨_, gp3⟩, ?_⟩
      walk_at "go"
      refine ro_ix (seq_ref gp3) (at_map hxf) ?_
      refine ⟨_, gp3, by rw [List.length_map]; omega, by rw [List.length_map]; exact Nat.lt_of_le_of_lt (show ws.length ≤ 2002 by omega) (by decide), ws.take at_.toNat ++ [xf] ++ ws.drop at_.toNat, none, ?_, ?_, ?_, rfl⟩
      · have := sum_split (·.length) ws at_.toNat
        rw [List.map_append, List.map_append, List.sum_append_nat, List.sum_append_nat, List.map_singleton, List.sum_singleton]
        omega
      · rw [List.length_append, List.length_append, List.length_take, List.length_drop, List.length_singleton]
        omega
      · rw [List.map_append, List.map_append, List.map_take, List.map_drop, List.map_singleton]
    · walk_at "go"
      refine ro_ix (seq_ref gp3) (at_map hxa) ?_
      walk_at "go"
      refine ro_ix (seq_ref gp3) (at_map hxf) ?_
      walk_at "go"
      refine set_lst gp3 (ix_nat a0 (by rw [List.length_map]; exact a1)) ?_
      walk_at "go"
      refine set_lst set_same (ix_nat f0 (by rw [List.length_set, List.length_map]; exact f1)) ?_
      refine ⟨(ws.set at_.toNat xf).set far.toNat xa, _, ?_, ?_, ?_, rfl⟩
      · have h1 := sum_set (·.length) xa (ws.set at_.toNat xf) far.toNat
        have h2 := sum_set (·.length) xf ws at_.toNat
        omega
      · rw [List.length_set, List.length_set]
        omega
      · rw [set_set, List.map_set, List.map_set]
  rintro τ' μ' ⟨ys, o6, y0, y1, rfl, rfl⟩
  walk_at "go"
  refine m_joinV (a := " ") ?_
  walk_at "go"
  refine ⟨rfl, ?_⟩
  walk_at "go"
  refine ⟨ys, seq_ref set_same, ?_, ?_⟩
  · rw [show (" " : Str).length = 1 from rfl]
    omega
  refine up_of (sb_end (sbx' _) (gbx _)) (q _ c3 m3 (Nat.le_trans (join_len _ _) ?_) hm3)
  rw [show (" " : Str).length = 1 from rfl]
  show _ ≤ 10000
  omega
theorem ok_l_number {f : Addr} {fd : FuncData} (F : Fun K "_law_number" "_law_number" s_l_number f fd) (B : Bs mg) : FnOk P w K mg base CX0 2 f fd ["_law_word", "_law_most"] (spI K P_l_number) := by
  refine F.ok sc_l_number (fun vs H Q E h => spI_len h len_l_number) (fun cdv A outer s H vs Q E hr h => ?_)
  have hu65 := hu65_of hr
  refine ⟨_, (pss_cons (ps_if (PW.pt (pw_or (pt_cmpR op_eq (pv 0) pe_str (by first | exact nomark _ | rfl)) (pw_or (pt_cmpR op_gt (pe_callB (call_lenK (K := K) rfl) (by rfl) B.b_len (by decide +kernel) (pa_cons (pv 0) pa_nil)) (pv 1) (by first | exact nomark _ | rfl)) (pw_or1 (pt_not (pt_val (pe_callB (cr_allK (K := K) rfl rfl) (by rfl) B.b_all (by decide +kernel) (pa_cons (pe_lc (own := [("_law_sign_here", 2)]) (g := gName 2) (tt := tYes) rfl sc_l_number.nd (pi_str (pv 0)) (blkOk_by (own := [("_law_sign_here", 2)]) (N := N_l_number) (sc := defScope s_l_number) (by decide +kernel)) (fun _ _ _ _ _ => (pg_name (i := 2) sc_l_number.nd rfl (by first | exact Or.inl rfl | exact Or.inr rfl))) (fun _ _ _ _ _ => pts_nil) (fun _ _ _ _ _ => (pe_cmpR op_in_sign (pv 2) pe_str (by first | exact nomark _ | rfl)))) pa_nil)))))))) (pss_one (ps_ret pe_non)) pss_nil)
      (pss_one (ps_ret (pe_ifExp (PW.pt (pw_or (pt_cmpR op_eq (pv 0) pe_str (by first | exact nomark _ | rfl)) (pw_or1 (pt_cmpR op_ne (pe_ix (ix_seqK (K := K) rfl) (pv 0) pe_int (fun _ _ => rfl)) pe_str (by first | exact nomark _ | rfl))))) (pe_callTy call_int_str (by rfl) B.b_int (by decide +kernel) (pa_cons (pv 0) pa_nil)) pe_non)))), body_okU h (fun ds μ Φ p => ?_)⟩
  (try dsimp only [cxOf, Cx.nox, Cx.wish, List.map_cons, List.map_nil])
  obtain ⟨w, k, rfl, hk, hw, q⟩ := p
  show AS K _ [some _, some _, none] _ _
  have hz := lng_line hw
  have sl : Sz 31 (w.length : Int) := by unfold Sz; rw [Int.natAbs_natCast]; exact Nat.lt_of_le_of_lt hw (by decide)
  have none_ : numIn k w = none → Φ .non μ := fun e => by rw [e] at q; exact q
  walk_at "go"
  refine ite_d (fun h1 => ?_) (fun h1 => ?_)
  · walk_at "go"
    exact up_of Sub.refl (none_ (by unfold numIn; rw [if_pos (.inl (by rw [h1]; rfl))]))
  walk_at "go"
  refine ite_d (fun h2 => ?_) (fun h2 => ?_)
  · walk_at "go"
    exact up_of Sub.refl (none_ (by unfold numIn; rw [if_pos (.inr (.inl (by omega)))]))
  walk_at "go"
  refine a_lc1 (fun d => .bl (digB (sgN d))) (fun _ => true) (ai_str ?_)
  walk_at "go"
  refine ⟨by rw [signs_len]; exact Nat.lt_of_le_of_lt hw (by decide), fun x hx => at_yes ⟨rfl, rfl⟩, fun x hx _ => ?_, fun l hl => ?_⟩
  · obtain ⟨n, _, rfl⟩ := List.mem_map.mp hx
    walk_at "nf"
    walk_at "go"
    exact ⟨by rw [fig_in]; rfl, rfl⟩
  rw [List.filter_eq_self.mpr (fun _ _ => rfl), digs_map]
  walk_at "go"
  refine rc_all set_same ?_
  rw [show ((w.cps.toList.map digB).all id) = w.cps.toList.all digB by rw [List.all_map]; rfl]
  try refine ⟨_, rfl, ?_⟩
  by_cases h3 : w.cps.toList.all digB = true
  rotate_left
  · rw [show w.cps.toList.all digB = false by simpa using h3]
    walk_at "go"
    exact up_of (sub_new Sub.refl hl) (none_ (by unfold numIn; rw [if_pos (.inr (.inr h3))]))
  rw [h3]
  have hne : TL.tl w ≠ [] := fun e => h1 (TL.ext_tl (by rw [e]; rfl))
  have hlen : w.length ≤ k := by omega
  have hint : PySem.intText? w = some ((dV (TL.tl w) : Nat) : Int) := PySem.intText_digits (digs_iff.mp h3) hne (by omega)
  have lp : w.length ≠ 0 := by rw [TL.len_tl]; exact fun e => hne (List.length_eq_zero_iff.mp e)
  have pre : ¬ (w.length = 0 ∨ k < w.length ∨ ¬ (TL.tl w).all digB = true) := by
    rintro (h | h | h)
    · exact lp h
    · omega
    · exact h h3
  have some_ : (w = "0" ∨ (TL.tl w).head? ≠ some 48) → Φ (.int ((dV (TL.tl w) : Nat) : Int)) μ := fun e => by
    unfold numIn at q
    rw [if_neg pre, if_pos e] at q
    exact q
  obtain ⟨c0, cs, hc⟩ : ∃ c cs, TL.tl w = c :: cs := by
    cases e : TL.tl w with
    | nil => exact absurd e hne
    | cons c cs => exact ⟨c, cs, rfl⟩
  walk_at "go"
  refine ite_d (fun h4 => ?_) (fun h4 => ?_)
  · walk_at "go"
    refine rc_intS hint (by omega) ?_
    exact up_of (sub_new Sub.refl hl) (some_ (.inl h4))
  walk_at "go"
  refine ro_ixS (n := c0) hz (by unfold atI; rw [show w.cps.toList = c0 :: cs from hc]; simp [ixN]) ?_
  walk_at "go"
  have same : ({ cps := #[c0] } : Str) = "0" ↔ c0 = 48 := ⟨fun e => by
    have := congrArg TL.tl e
    exact (List.cons.inj (show [c0] = [48] from this)).1, fun e => by rw [e]; rfl⟩
  by_cases h5 : ({ cps := #[c0] } : Str) = "0"
  · rw [if_neg (by simp [h5])]
    walk_at "go"
    refine up_of (sub_new Sub.refl hl) (none_ ?_)
    unfold numIn
    rw [if_neg pre, if_neg]
    rintro (e | e)
    · exact h4 e
    · rw [hc, same.mp h5] at e
      exact e rfl
  · rw [if_pos (by simp [h5])]
    walk_at "go"
    refine rc_intS hint (by omega) ?_
    refine up_of (sub_new Sub.refl hl) (some_ (.inr ?_))
    rw [hc]
    exact fun e => h5 (same.mpr (Option.some.inj e))
theorem ok_l_alone {f : Addr} {fd : FuncData} (F : Fun K "_law_alone" "_law_alone" s_l_alone f fd) (B : Bs mg) {C_NoText : Addr} (X_NoText : ExcC K C_NoText) {C_BoardError : Addr} (V_BoardError : Cst mg "BoardError" (.ref C_BoardError)) {C_Crossed : Addr} (V_Crossed : Cst mg "Crossed" (.ref C_Crossed)) {C_NoBoard : Addr} (V_NoBoard : Cst mg "NoBoard" (.ref C_NoBoard)) {C_NoFraction : Addr} (V_NoFraction : Cst mg "NoFraction" (.ref C_NoFraction)) {C_NoGate : Addr} (V_NoGate : Cst mg "NoGate" (.ref C_NoGate)) {C_NoLayer : Addr} (V_NoLayer : Cst mg "NoLayer" (.ref C_NoLayer)) {C_NoLine : Addr} (V_NoLine : Cst mg "NoLine" (.ref C_NoLine)) {C_NoNet : Addr} (V_NoNet : Cst mg "NoNet" (.ref C_NoNet)) {C_NoNets : Addr} (V_NoNets : Cst mg "NoNets" (.ref C_NoNets)) {C_NoPin : Addr} (V_NoPin : Cst mg "NoPin" (.ref C_NoPin)) {C_NoRoom : Addr} (V_NoRoom : Cst mg "NoRoom" (.ref C_NoRoom)) {C_NoRoute : Addr} (V_NoRoute : Cst mg "NoRoute" (.ref C_NoRoute)) {C_NoRow : Addr} (V_NoRow : Cst mg "NoRow" (.ref C_NoRow)) (V_NoText : Cst mg "NoText" (.ref C_NoText)) {C_NoWay : Addr} (V_NoWay : Cst mg "NoWay" (.ref C_NoWay)) {C_NoWire : Addr} (V_NoWire : Cst mg "NoWire" (.ref C_NoWire)) {C_Taken : Addr} (V_Taken : Cst mg "Taken" (.ref C_Taken)) {C_Undone : Addr} (V_Undone : Cst mg "Undone" (.ref C_Undone)) (Q_NoText_BoardError : PySem.W.kitOne K (.ref C_NoText) (.ref C_BoardError) = some true) (Q_NoText_Crossed : PySem.W.kitOne K (.ref C_NoText) (.ref C_Crossed) = some false) (Q_NoText_NoBoard : PySem.W.kitOne K (.ref C_NoText) (.ref C_NoBoard) = some false) (Q_NoText_NoFraction : PySem.W.kitOne K (.ref C_NoText) (.ref C_NoFraction) = some false) (Q_NoText_NoGate : PySem.W.kitOne K (.ref C_NoText) (.ref C_NoGate) = some false) (Q_NoText_NoLayer : PySem.W.kitOne K (.ref C_NoText) (.ref C_NoLayer) = some false) (Q_NoText_NoLine : PySem.W.kitOne K (.ref C_NoText) (.ref C_NoLine) = some false) (Q_NoText_NoNet : PySem.W.kitOne K (.ref C_NoText) (.ref C_NoNet) = some false) (Q_NoText_NoNets : PySem.W.kitOne K (.ref C_NoText) (.ref C_NoNets) = some false) (Q_NoText_NoPin : PySem.W.kitOne K (.ref C_NoText) (.ref C_NoPin) = some false) (Q_NoText_NoRoom : PySem.W.kitOne K (.ref C_NoText) (.ref C_NoRoom) = some false) (Q_NoText_NoRoute : PySem.W.kitOne K (.ref C_NoText) (.ref C_NoRoute) = some false) (Q_NoText_NoRow : PySem.W.kitOne K (.ref C_NoText) (.ref C_NoRow) = some false) (Q_NoText_NoText : PySem.W.kitOne K (.ref C_NoText) (.ref C_NoText) = some true) (Q_NoText_NoWay : PySem.W.kitOne K (.ref C_NoText) (.ref C_NoWay) = some false) (Q_NoText_NoWire : PySem.W.kitOne K (.ref C_NoText) (.ref C_NoWire) = some false) (Q_NoText_Taken : PySem.W.kitOne K (.ref C_NoText) (.ref C_Taken) = some false) (Q_NoText_Undone : PySem.W.kitOne K (.ref C_NoText) (.ref C_Undone) = some false) (Q_NoText_ValueError : PySem.W.kitOne K (.ref C_NoText) (.type "ValueError") = some true) : FnE P w K mg base 1 f fd "_law_e" (spE K (P_l_alone C_NoText)) := by
  refine fun_okE F sc_l_alone fun cdv A outer s H Q pp cls d hr hz hf h => ?_
  refine ⟨_, (pss_cons (ps_if (pt_val (pe_callB (call_isP (K := K) rfl (List.mem_singleton.mpr rfl) hz hf) (by rfl) B.b_isinstance (by decide +kernel) (pa_cons (pv 0) (pa_cons (pe_tup (pa_cons (pe_cst V_NoFraction (by rfl)) (pa_cons (pe_cst V_NoBoard (by rfl)) (pa_cons (pe_cst V_NoWay (by rfl)) (pa_cons (pe_cst V_NoLine (by rfl)) (pa_cons (pe_cst V_NoNets (by rfl)) (pa_cons (pe_cst V_Taken (by rfl)) (pa_cons (pe_cst V_NoRow (by rfl)) (pa_cons (pe_cst V_NoPin (by rfl)) pa_nil))))))))) pa_nil)))) (pss_one (ps_ret pe_bl)) pss_nil)
      (pss_cons (ps_if (pt_val (pe_callB (call_isP (K := K) rfl (List.mem_singleton.mpr rfl) hz hf) (by rfl) B.b_isinstance (by decide +kernel) (pa_cons (pv 0) (pa_cons (pe_tup (pa_cons (pe_cst V_NoLayer (by rfl)) (pa_cons (pe_cst V_NoNet (by rfl)) (pa_cons (pe_cst V_NoGate (by rfl)) (pa_cons (pe_cst V_NoWire (by rfl)) (pa_cons (pe_cst V_NoRoom (by rfl)) (pa_cons (pe_cst V_Crossed (by rfl)) (pa_cons (pe_cst V_Undone (by rfl)) (pa_cons (pe_cst V_NoRoute (by rfl)) pa_nil))))))))) pa_nil)))) (pss_one (ps_ret pe_bl)) pss_nil)
      (pss_one (ps_ret (pe_and (pe_callB (call_isP (K := K) rfl (List.mem_singleton.mpr rfl) hz hf) (by rfl) B.b_isinstance (by decide +kernel) (pa_cons (pv 0) (pa_cons (pe_cst V_NoText (by rfl)) pa_nil))) (pe_and (pe_callB (call_isP (K := K) rfl (List.mem_singleton.mpr rfl) hz hf) (by rfl) B.b_isinstance (by decide +kernel) (pa_cons (pv 0) (pa_cons (pe_cst V_BoardError (by rfl)) pa_nil))) (pe_one (pe_callB (call_isP (K := K) rfl (List.mem_singleton.mpr rfl) hz hf) (by rfl) B.b_isinstance (by decide +kernel) (pa_cons (pv 0) (pa_cons (pe_bltn (v := .ty "ValueError") (by rfl) B.b_ValueError (by decide +kernel) rfl) pa_nil)))))))))), body_okE h (fun μ Φ p => ?_)⟩
  (try dsimp only [L2H.cxH, cxOf, Cx.nox, Cx.wish, List.map_cons, List.map_nil])
  obtain ⟨ec, rfl, q⟩ := p
  show AS K _ [some _] _ _
  have ed : Xdk μ none := .inl rfl
  walk_at "go"
  refine rc_isYt [C_NoFraction, C_NoBoard, C_NoWay, C_NoLine, C_NoNets, C_Taken, C_NoRow, C_NoPin] ec ed X_NoText (b := false) ?_ ?_
  · refine kitAny_cons Q_NoText_NoFraction (fun _ => kitAny_cons Q_NoText_NoBoard (fun _ => kitAny_cons Q_NoText_NoWay (fun _ => kitAny_cons Q_NoText_NoLine (fun _ => kitAny_cons Q_NoText_NoNets (fun _ => kitAny_cons Q_NoText_Taken (fun _ => kitAny_cons Q_NoText_NoRow (fun _ => kitAny_cons Q_NoText_NoPin (fun _ => kitAny_nil) ?_) ?_) ?_) ?_) ?_) ?_) ?_) ?_ <;> exact fun z => nomatch z
  walk_at "go"
  refine rc_isYt [C_NoLayer, C_NoNet, C_NoGate, C_NoWire, C_NoRoom, C_Crossed, C_Undone, C_NoRoute] ec ed X_NoText (b := false) ?_ ?_
  · refine kitAny_cons Q_NoText_NoLayer (fun _ => kitAny_cons Q_NoText_NoNet (fun _ => kitAny_cons Q_NoText_NoGate (fun _ => kitAny_cons Q_NoText_NoWire (fun _ => kitAny_cons Q_NoText_NoRoom (fun _ => kitAny_cons Q_NoText_Crossed (fun _ => kitAny_cons Q_NoText_Undone (fun _ => kitAny_cons Q_NoText_NoRoute (fun _ => kitAny_nil) ?_) ?_) ?_) ?_) ?_) ?_) ?_) ?_ <;> exact fun z => nomatch z
  walk_at "go"
  refine rc_isY1 ec ed X_NoText Q_NoText_NoText ?_
  walk_at "go"
  refine rc_isY1 ec ed X_NoText Q_NoText_BoardError ?_
  walk_at "go"
  refine rc_isYb ec ed X_NoText Q_NoText_ValueError ?_
  walk_at "go"
  exact q
theorem ok_l_read {f : Addr} {fd : FuncData} (F : Fun K "_law_read" "_law_read" s_l_read f fd) (B : Bs mg) {C_NoText : Addr} (E_NoText : Exc0 K mg "NoText" C_NoText) {C_read_touched : Addr} (V_read_touched : Cst mg "read_touched" (.ref C_read_touched)) (H_NoText_NoText : PySem.W.exmOne K (.ref C_NoText) (.ref C_NoText) = some true) (G_l_alone : DefE P w K mg base "_law_alone" "_law_e" 1 (spE K (P_l_alone C_NoText))) (G_read_touched : DefX P w K mg base "read_touched" ["text"] 3 (spX K (xn mg) P_read_touched)) : FnOk P w K mg base CX0 5 f fd ["_law_reader", "_law_text"] (spI K (P_l_read C_read_touched)) := by
  refine F.ok sc_l_read (fun vs H Q E h => spI_len h (len_l_read C_read_touched)) (fun cdv A outer s H vs Q E hr h => ?_)
  have hu65 := hu65_of hr
  refine ex_run (pss_one (ps_try_as (i := 2) rfl rfl sc_l_read.nd rfl rfl ⟨by rfl, by decide, Or.inl E_NoText.mg⟩ takes0 (fun W pn xe tk po => (pss_one (ps_ret (pe_callVX (K := K) (k := 4) (i := 0) rfl tk (held_cons (heldX G_read_touched V_read_touched) held_nil) (hr.mono (by decide)) rfl (by first | exact Or.inl rfl | exact Or.inr (Or.inl rfl)) (pa_cons (pv 1) pa_nil))))) (fun a oe cls d pn hz hf => (pss_one (ps_ret (pe_ifExp (pt_val (pe_callE List.mem_cons_self hz hf G_l_alone (roomE (hr.mono (by decide))) (by rfl) (pv 2))) pe_str pe_str)))))) (body_okR h (fun ds μ Φ p => ?_))
  (try dsimp only [cxOf, Cx.nox, Cx.wish, List.map_cons, List.map_nil])
  obtain ⟨d, n, b, rfl, hn, hk, no, yes⟩ := p
  show AS K _ [some _, some _, none] _ _
  refine s_tryAs (xn mg) (tb := fun W => tRet (tCallVX K (xn mg) [(C_read_touched, P_read_touched)] 0 (WE W) (tCons (tVar 1) tNil))) (fun x => x == "NoText") (fun z cls hz => ?_) fun W => ?_
  · obtain ⟨rfl, e⟩ := xn_or hz
    cases E_NoText.mg.symm.trans e
    exact H_NoText_NoText
  have ec : ∀ cls, xn mg "NoText" = some cls → cls = .ref C_NoText := fun cls hc => by
    obtain ⟨_, e⟩ := xn_or hc
    exact (Option.some.inj (E_NoText.mg.symm.trans e)).symm
  refine s_retX (a_callVX (P := P_read_touched) (f := C_read_touched) (List.mem_singleton.mpr rfl) rfl ?_)
  walk_at "go"
  refine ⟨d, n, b, rfl, hn, hk, fun hb => .inl ⟨rfl, fun a cls hc => ?_⟩, fun hb => ?_⟩
  · cases ec cls hc
    walk_at "go"
    refine a_callE ?_
    walk_at "go"
    refine ⟨rfl, rfl, rfl, ?_⟩
    walk_at "go"
    exact no hb
  obtain ⟨s, rfl, hs, q⟩ := yes hb
  refine ⟨s, rfl, hs, fun r hr => ?_, fun hr => .inl ⟨rfl, fun a cls hc => ?_⟩⟩
  · rw [hr] at q
    exact q
  · rw [hr] at q
    cases ec cls hc
    walk_at "go"
    refine a_callE ?_
    walk_at "go"
    refine ⟨rfl, rfl, rfl, ?_⟩
    walk_at "go"
    exact q
theorem ok_l_low {f : Addr} {fd : FuncData} (F : Fun K "_law_low" "_law_low" s_l_low f fd) (B : Bs mg) : FnOk P w K mg base CX0 2 f fd ["_law_over", "_law_under"] (spI K P_l_low) := by
  refine F.ok sc_l_low (fun vs H Q E h => spI_len h len_l_low) (fun cdv A outer s H vs Q E hr h => ?_)
  have hu65 := hu65_of hr
  refine ⟨_, (pss_cons (ps_par (i := 2) (j := 3) rfl sc_l_low.nd rfl rfl (by decide) rfl rfl (pa_cons (pe_callB call_abs (by rfl) B.b_abs (by decide +kernel) (pa_cons (pv 0) pa_nil)) (pa_cons (pv 1) pa_nil)) (by rfl))
      (pss_cons (ps_while PassesOwn.never (pt_cmpR op_gt (pv 2) pe_int (by first | exact nomark _ | rfl)) (pss_one (ps_par (i := 2) (j := 3) rfl sc_l_low.nd rfl rfl (by decide) rfl rfl (pa_cons (pe_op op_mod (pv 3) (pv 2)) (pa_cons (pv 2) pa_nil)) (by rfl))))
      (pss_one (ps_ret (pe_tup (pa_cons (pe_op op_fdivW (pv 0) (pv 3)) (pa_cons (pe_op op_fdivW (pv 1) (pv 3)) pa_nil))))))), body_okU h (fun ds μ Φ p => ?_)⟩
  (try dsimp only [cxOf, Cx.nox, Cx.wish, List.map_cons, List.map_nil])
  obtain ⟨a, b, rfl, ha, b0, hb, q⟩ := p
  show AS K _ [some _, some _, none, none] _ _
  walk_at "go"
  have big : (10 : Int) ^ 30 < 2 ^ 100 := by decide
  refine s_while (fun m τ' μ' => ∃ one other : Int, m = one.toNat ∧ 0 ≤ one ∧ 0 < other ∧ one < 10 ^ 30 ∧ (∀ d : Int, d ∣ one → d ∣ other → d ∣ b) ∧ other < 10 ^ 30 ∧ μ' = μ ∧ τ' = [some (.int a), some (.int b), some (.int one), some (.int other)]) (if a < 0 then -a else a).toNat ⟨(if a < 0 then -a else a), b, rfl, ?_, b0, ?_, fun d _ h => h, hb, rfl, rfl⟩ ?_
  · split <;> omega
  · split <;> omega
  rintro m τ' μ' ⟨one, other, rfl, o0, t0, o1, dv, t1, rfl, rfl⟩
  walk_at "go"
  by_cases h : (0 : Int) < one
  · rw [if_pos (by simpa using h)]
    walk_at "go"
    have m0 := Int.emod_nonneg other (show one ≠ 0 by omega)
    have m1 := Int.emod_lt_of_pos other h
    refine ⟨(other % one).toNat, by omega, other % one, one, rfl, m0, h, by omega, fun d h1 h2 => dv d h2 ?_, o1, trivial, rfl⟩
    have e := Int.emod_add_mul_ediv other one
    rw [← e]
    exact Int.dvd_add h1 (Int.dvd_trans h2 (Int.dvd_mul_right _ _))
  rw [if_neg (by simpa using h)]
  have z : one = 0 := by omega
  subst z
  have db : other ∣ b := dv other (Int.dvd_zero _) (Int.dvd_refl _)
  walk_at "go"
  have so : Sz 100 other := by unfold Sz; omega
  have hd : CDivW a other := divw_of (b := 100) t0 so (by decide)
  have hd2 : CDivW b other := divw_of (b := 100) t0 so (by decide)
  refine ro_c hd ?_
  walk_at "go"
  obtain ⟨k, rfl⟩ := db
  have k0 : 0 < k := by
    rcases Int.lt_or_le 0 k with h | h
    · exact h
    · have := Int.mul_nonpos_of_nonneg_of_nonpos (Int.le_of_lt t0) h
      omega
  have kb : k ≤ other * k := by
    have := Int.mul_le_mul_of_nonneg_right (show 1 ≤ other by omega) (Int.le_of_lt k0)
    omega
  rw [Int.mul_ediv_cancel_left k (show other ≠ 0 by omega)]
  exact up (q _ _ (Nat.lt_of_le_of_lt (Int.natAbs_ediv_le_natAbs a other) ha) k0 (by omega))
theorem ok_l_touched_in {f : Addr} {fd : FuncData} (F : Fun K "_law_touched_in" "_law_touched_in" s_l_touched_in f fd) (B : Bs mg) (G_l_number : Def P w K mg base "_law_number" ["_law_word", "_law_most"] 2 (spI K P_l_number)) : FnOk P w K mg base CX0 4 f fd ["_law_text"] (spI K P_l_touched_in) := by
  refine F.ok sc_l_touched_in (fun vs H Q E h => spI_len h len_l_touched_in) (fun cdv A outer s H vs Q E hr h => ?_)
  have hu65 := hu65_of hr
  refine ⟨_, (pss_cons (ps_if (pt_cmpR op_eq (pv 0) pe_str (by first | exact nomark _ | rfl)) (pss_one (ps_ret (pe_tup pa_nil))) pss_nil)
      (pss_cons (ps_set (i := 1) sc_l_touched_in.nd rfl (by first | exact Or.inl rfl | exact Or.inr rfl) (pe_split (pv 0) pe_str))
      (pss_cons (ps_set (i := 2) sc_l_touched_in.nd rfl (by first | exact Or.inl rfl | exact Or.inr rfl) (pe_lst pa_nil))
      (pss_cons (ps_for PassesOwn.never rfl (pi_listK (K := K) rfl (pv 1)) (pg_name (i := 3) sc_l_touched_in.nd rfl (by first | exact Or.inl rfl | exact Or.inr rfl))
      (pss_cons (ps_set (i := 4) sc_l_touched_in.nd rfl (by first | exact Or.inl rfl | exact Or.inr rfl) (pe_def G_l_number (hr.mono (by decide)) (by rfl) (pa_cons (pe_slice sl_str (pv 3) po_none (po_some (pe_un un_neg pe_int))) (pa_cons pe_int pa_nil))))
      (pss_cons (ps_if (PW.pt (pw_or (pt_cmpR op_isN (pv 4) pe_non (by first | exact nomark _ | rfl)) (pw_or1 (pt_cmpR (op_notInFK (K := K) rfl) (pe_ix (ix_seqK (K := K) rfl) (pv 3) (pe_un un_neg pe_int) (fun _ _ => rfl)) (pe_tup (pa_cons pe_str (pa_cons pe_str pa_nil))) (by first | exact nomark _ | rfl))))) (pss_one (ps_ret pe_non)) pss_nil)
      (pss_one (ps_expr (pe_bm PySem.F.plainAttrs_list PySem.F.slot_list_append PySem.F.type_list_append mt_append (pv 2) (pa_cons (pe_tup (pa_cons (pv 4) (pa_cons (pe_dget (hu_of hr) (pe_disp (pps_cons pe_str pe_str (pps_cons pe_str pe_str pps_nil)) rfl rfl (by simp) (by decide)) (pe_ix (ix_seqK (K := K) rfl) (pv 3) (pe_un un_neg pe_int) (fun _ _ => rfl)) (fun _ _ => rfl)) pa_nil))) pa_nil)))))))
      (pss_one (ps_ret (pe_callTy (call_tupleK (K := K) rfl) (by rfl) B.b_tuple (by decide +kernel) (pa_cons (pv 2) pa_nil)))))))), body_okU h (fun ds μ Φ p => ?_)⟩
  (try dsimp only [cxOf, Cx.nox, Cx.wish, List.map_cons, List.map_nil])
  obtain ⟨s, rfl, hs, q⟩ := p
  show AS K _ [some _, none, none, none, none] _ _
  walk_at "go"
  refine ite_d (fun h => ?_) (fun h => ?_)
  · walk_at "go"
    unfold touRes at q
    rw [if_pos h] at q
    exact up q
  have fin : touRes s = if (words s).all (fun w => (touW w).isSome) then some (.tup (((words s).filterMap touW).map touD)) else none := by
    unfold touRes
    rw [if_neg h]
  walk_at "go"
  refine m_split (a := s) (b := " ") ?_
  walk_at "go"
  refine ⟨rfl, ?_⟩
  walk_at "go"
  refine ⟨rfl, by decide +kernel, Nat.le_trans (Nat.add_le_add_right hs 2) (by decide), fun p hp => ?_⟩
  have s0 := sub_new (Y := .lst ((words s).map D.str)) (Sub.refl (μ := μ)) hp
  have gp : (μ.set p (.lst ((words s).map D.str))) p = some (.lst ((words s).map D.str)) := set_same
  show AG K _ _ _ (μ.set p (.lst ((words s).map D.str))) _
  generalize μ.set p (.lst ((words s).map D.str)) = μ0 at s0 gp ⊢
  clear hp
  have wf : ∀ w ∈ words s, w.length ≤ lng := fun w hw => Nat.le_trans (words_le hw) hs
  have wn : (words s).length ≤ lng + 2 := Nat.le_trans (words_few s) (Nat.add_le_add_right hs 2)
  walk_at "go"
  intro pf hf
  have hf' : μ0 pf = none := hf
  have s2 := sub_new (Y := .lst []) (Sub.refl (μ := μ0)) hf'
  have gf : (μ0.set pf (.lst [])) pf = some (.lst []) := set_same
  walk_at "go"
  generalize μ0.set pf (.lst []) = μ2 at s2 gf ⊢
  clear hf
  refine s_for (ai_L ?_)
  walk_at "go"
  refine ⟨p, _, rfl, s2 _ _ gp, ?_⟩
  have npf : pf ≠ p := by rintro rfl; rw [gp] at hf'; cases hf'
  have gf2 : (μ2.del p) pf = some (.lst []) := by rw [Z.del_ne npf]; exact gf
  have s3 : ∀ μ', Sub (μ0.del p) μ' → Sub μ0 (μ'.set p (.lst ((words s).map D.str))) := fun μ' sb a m e => by
    by_cases h : a = p
    · rw [h] at e ⊢
      rw [gp] at e
      rw [set_same]
      exact e
    · rw [set_ne h]
      exact sb a m (by rw [Z.del_ne h]; exact e)
  have s4 : Sub (μ0.del p) (μ2.del p) := fun a m e => by
    by_cases h : a = p
    · rw [h, Z.del_same] at e
      cases e
    · rw [Z.del_ne h] at e ⊢
      exact s2 a m e
  have hf2 : (μ0.del p) pf = none := by rw [Z.del_ne npf]; exact hf'
  refine ⟨fun (j : Nat) τ' μ' => ∃ (ts : List (Int × Bool)) (o3 o4 : Option D), ts.length = j ∧ ((words s).take j).map touW = ts.map some ∧ Sub (μ0.del p) μ' ∧ μ' pf = some (.lst (ts.map touD)) ∧ τ' = [some (.str s), some (.ref p), some (.ref pf), o3, o4], ⟨[], none, none, rfl, by simp, s4, gf2, rfl⟩, ?_, ?_⟩
  · clear gf gf2 s2 s4
    rintro j x τ' μ' hj ⟨ts, o3, o4, lj, et, sb, gf, rfl⟩
    obtain ⟨v, hv, rfl⟩ := List.mem_map.mp (List.mem_of_getElem? hj)
    have hvj : (words s)[j]? = some v := by
      rw [List.getElem?_map] at hj
      cases e : (words s)[j]? with
      | none => rw [e] at hj; cases hj
      | some u => rw [e] at hj; rw [← D.str.inj (Option.some.inj hj)]
    have zv : v.length ≤ lng := wf v hv
    have jl : j < (words s).length := (List.getElem?_eq_some_iff.mp hvj).1
    have bad : touW v = none → ∀ {μ2}, Sub (μ0.del p) μ2 → Up Φ .non (μ2.set p (.lst ((words s).map D.str))) := fun z μ2 sb2 => by
      rw [fin, if_neg (fun hall => by
        have := List.all_eq_true.mp hall v hv
        rw [z] at this
        cases this)] at q
      exact up_of (fun a m e => s3 μ2 sb2 a m (s0 a m e)) q
    walk_at "go"
    refine use_l_number (Nat.le_trans (cut_le _ _ _) zv) ?_
    walk_at "go"
    cases hnum : numIn 4 (cutS v none (some (-1))) with
    | none =>
      rw [if_pos (show isN (oD none) = true from rfl), if_pos rfl]
      walk_at "go"
      exact bad (touW_no hnum) sb
    | some n =>
    rw [if_neg (show ¬ isN (oD (some n)) = true from Bool.false_ne_true)]
    have tw := touW_side hnum
    walk_at "go"
    obtain ⟨ch, hch, ech⟩ := last_cut (num_ne hnum)
    have push : ∀ (l : Bool), touW v = some (n, l) → cutS v (some (-1)) none = sideL l → ∀ N : AEnds, (∀ τ2 μ2, (∃ (ts : List (Int × Bool)) (o3 o4 : Option D), ts.length = j + 1 ∧ ((words s).take (j + 1)).map touW = ts.map some ∧ Sub (μ0.del p) μ2 ∧ μ2 pf = some (.lst (ts.map touD)) ∧ τ2 = [some (.str s), some (.ref p), some (.ref pf), o3, o4]) → N.nx τ2 μ2) →
        AS K (tDrop (tBM K "list" rAppend (tVar 2) (tCons (tTup (tCons (tVar 4) (tCons (tDGet (tTexts "L" "left" "R" "right") (tOp (rIx K) (tVar 3) (tUn (rU fun i => V.int (-i)) (tC (V.int 1))))) tNil))) tNil))) [some (.str s), some (.ref p), some (.ref pf), some (.str v), some (oD (some n))] μ' N := by
      intro l e el N hN
      refine s_drop ?_
      refine m_append (a := pf) (ds := ts.map touD) ?_
      walk_at "go"
      refine ⟨rfl, ⟨_, gf⟩, ?_⟩
      refine a_tup ?_
      walk_at "go"
      refine a_dget ?_
      refine a_disp2 (by decide +kernel) fun pd hpd => ?_
      have nd : pd ≠ pf := by rintro rfl; rw [gf] at hpd; cases hpd
      walk_at "go"
      refine ro_ixS (n := ch) (lng_line zv) hch ?_
      rw [ech, el]
      refine ⟨pd, .str (sideS l), rfl, .inl ⟨_, .inr (sideL l), set_same, rfl, ?_⟩, ?_⟩
      · cases l
        · rw [Z.valD_cons, if_neg (by decide +kernel), Z.valD_cons, if_pos (by decide +kernel)]
          rfl
        · rw [Z.valD_cons, if_pos (by decide +kernel)]
          rfl
      walk_at "go"
      refine ⟨by rw [set_ne (Ne.symm nd)]; exact gf, by rw [List.length_map]; exact Nat.lt_of_le_of_lt (show ts.length ≤ lng + 2 by omega) (by decide), hN _ _ ⟨ts ++ [(n, l)], _, _, by rw [List.length_append, List.length_singleton, lj], ?_, sub_own (sub_new sb hpd) hf2, ?_, rfl⟩⟩
      · rw [List.take_succ, hvj, List.map_append, et, List.map_append]
        show ts.map some ++ [touW v] = _
        rw [e]
        rfl
      · show (M.set _ pf _) pf = _
        rw [set_same, List.map_append, List.map_singleton]
        rfl
    refine ro_ixS (n := ch) (lng_line zv) hch ?_
    rw [ech]
    walk_at "go"
    refine ro_inF ["L", "R"] ?_
    refine ⟨_, rfl, ?_⟩
    by_cases hL : cutS v (some (-1)) none = Str.ofString "L"
    · rw [if_pos hL] at tw
      rw [if_neg (by simp [hL])]
      refine s_next ?_
      refine push true tw hL _ ?_
      exact fun _ _ z => z
    rw [if_neg hL] at tw
    by_cases hR : cutS v (some (-1)) none = Str.ofString "R"
    · rw [if_pos hR] at tw
      rw [if_neg (by simp [hR])]
      refine s_next ?_
      refine push false tw hR _ ?_
      exact fun _ _ z => z
    rw [if_neg hR] at tw
    rw [if_pos (by simp [hL, hR])]
    walk_at "go"
    exact bad tw sb
  rintro τ' μ' ⟨ts, o3, o4, lj, et, sb, gf3, rfl⟩
  rw [List.length_map, List.take_length] at et
  show AS K _ _ (μ'.set p (.lst ((words s).map D.str))) _
  have sb5 := s3 μ' sb
  have gf5 : (μ'.set p (.lst ((words s).map D.str))) pf = some (.lst (ts.map touD)) := by rw [set_ne npf]; exact gf3
  generalize μ'.set p (.lst ((words s).map D.str)) = μ5 at sb5 gf5 ⊢
  walk_at "go"
  refine rc_tuple (seq_ref gf5) ?_
  have all : (words s).all (fun w => (touW w).isSome) = true := by
    rw [List.all_eq_true]
    intro w hw
    have : touW w ∈ ts.map some := et ▸ List.mem_map_of_mem hw
    obtain ⟨t, -, e⟩ := List.mem_map.mp this
    rw [← e]
    rfl
  rw [fin, if_pos all, filter_of et] at q
  exact up_of (fun a m e => sb5 a m (s0 a m e)) q
theorem ok_l_written {f : Addr} {fd : FuncData} (F : Fun K "_law_written" "_law_written" s_l_written f fd) (B : Bs mg) : FnOk P w K mg base CX0 2 f fd ["_law_place"] (spI K P_l_written) := by
  refine F.ok sc_l_written (fun vs H Q E h => spI_len h len_l_written) (fun cdv A outer s H vs Q E hr h => ?_)
  have hu65 := hu65_of hr
  refine ⟨_, (pss_one (ps_ret (pe_joinK (K := K) rfl pe_str (pe_lc (own := [("_law_top", 1), ("_law_bottom", 2)]) (g := gTup K 2 (gCons (gName 1) (gCons (gName 2) gNil))) (tt := tYes) rfl sc_l_written.nd (pi_tupK (K := K) rfl (pv 0)) (blkOk_by (own := [("_law_top", 1), ("_law_bottom", 2)]) (N := N_l_written) (sc := defScope s_l_written) (by decide +kernel)) (fun _ _ _ _ _ => (pg_tup (by rfl) (pgs_cons (pg_name (i := 1) sc_l_written.nd rfl (by first | exact Or.inl rfl | exact Or.inr rfl)) (pgs_cons (pg_name (i := 2) sc_l_written.nd rfl (by first | exact Or.inl rfl | exact Or.inr rfl)) pgs_nil)))) (fun _ _ _ _ _ => pts_nil) (fun _ _ _ _ _ => (pe_op op_add_str (pe_callTy call_str_int (by rfl) B.b_str (by decide +kernel) (pa_cons (pv 1) pa_nil)) (pe_op op_mul_sb (pe_op op_add_str pe_str (pe_callTy call_str_int (by rfl) B.b_str (by decide +kernel) (pa_cons (pv 2) pa_nil))) (pe_callTy call_int1 (by rfl) B.b_int (by decide +kernel) (pa_cons (pe_cmpR op_ne (pv 2) pe_int (by first | exact nomark _ | rfl)) pa_nil))))))))), body_okU h (fun ds μ Φ p => ?_)⟩
  (try dsimp only [cxOf, Cx.nox, Cx.wish, List.map_cons, List.map_nil])
  obtain ⟨p, rfl, ok0, ok1, q⟩ := p
  show AS K _ [some _, none, none] _ _
  refine s_ret ?_
  refine m_joinV (a := ",") ?_
  walk_at "go"
  refine ⟨rfl, ?_⟩
  refine a_lcp tg_2 (fun d => .str (frS (ofFr d))) (fun _ => true) (ai_T ?_)
  walk_at "go"
  refine ⟨fun x hx => ?_, fun l hl => ?_⟩
  · have hx' : ∃ fr : Fr2, FrOk fr ∧ x = frD fr := by
      simp only [List.mem_cons, List.not_mem_nil, or_false] at hx
      rcases hx with rfl | rfl
      · exact ⟨_, ok0, rfl⟩
      · exact ⟨_, ok1, rfl⟩
    clear hx
    obtain ⟨fr, ok, rfl⟩ := hx'
    have lt := num_len ok.top
    have lb := num_len (n := fr.2) (by have := ok.pos; have := ok.bot; omega)
    refine ⟨_, ⟨rfl, rfl⟩, rfl, at_yes ⟨rfl, rfl⟩, fun _ => ?_⟩
    walk_at "nf"
    walk_at "go"
    refine rc_strI (big_log ok.top) ?_
    walk_at "go"
    refine rc_strI (big_log (by have := ok.pos; have := ok.bot; omega)) ?_
    walk_at "go"
    refine ro_addS (Nat.le_trans (Nat.add_le_add_left lb _) (by decide)) ?_
    walk_at "go"
    refine ro_mul_sb (by split <;> simp) ?_
    by_cases h : fr.2 = 1
    · rw [if_neg (show ¬ ((if (!decide (fr.2 = 1)) = true then (1 : Int) else 0) = 1) by rw [if_neg (by simp [h])]; decide)]
      refine ro_addS (Nat.le_trans (Nat.add_le_add_right lt _) (by decide)) ?_
      refine ⟨?_, rfl⟩
      show D.str _ = D.str (frS fr)
      unfold frS
      rw [if_pos h]
      congr 1
    · rw [if_pos (show (if (!decide (fr.2 = 1)) = true then (1 : Int) else 0) = 1 by rw [if_pos (by simp [h])])]
      refine ro_addS (by rw [app_len]; exact Nat.le_trans (Nat.add_le_add lt (Nat.add_le_add_left lb _)) (by decide)) ?_
      refine ⟨?_, rfl⟩
      show D.str _ = D.str (frS fr)
      unfold frS
      rw [if_neg h]
      congr 1
      exact TL.ext_tl (by simp only [TL.tl_append, List.append_assoc])
  rw [List.filter_eq_self.mpr (fun _ _ => rfl)]
  refine ⟨[frS p.1, frS p.2], seq_ref set_same, ?_, ?_⟩
  · have l1 := frS_len ok0
    have l2 := frS_len ok1
    simp only [List.map_cons, List.map_nil, List.sum_cons, List.sum_nil, List.length_cons, List.length_nil]
    rw [show ("," : Str).length = 1 from rfl]
    omega
  · exact up_of (sub_new Sub.refl hl) q
theorem ok_l_some_line {f : Addr} {fd : FuncData} (F : Fun K "_law_some_line" "_law_some_line" s_l_some_line f fd) (B : Bs mg) (G_l_low : Def P w K mg base "_law_low" ["_law_over", "_law_under"] 2 (spI K P_l_low)) (G_l_take : Def P w K mg base "_law_take" ["_law_bag_here", "_law_many"] 1 (spI K P_l_take)) : FnOk P w K mg base CX0 3 f fd ["_law_bag_here"] (spI K P_l_some_line) := by
  refine F.ok sc_l_some_line (fun vs H Q E h => spI_len h len_l_some_line) (fun cdv A outer s H vs Q E hr h => ?_)
  have hu65 := hu65_of hr
  refine ⟨_, (pss_cons (ps_set (i := 1) sc_l_some_line.nd rfl (by first | exact Or.inl rfl | exact Or.inr rfl) (pe_lst pa_nil))
      (pss_cons (ps_for PassesOwn.never rfl (pi_range1 (by rfl) B.b_range (pa_cons (pe_op op_add pe_int (pe_def G_l_take (hr.mono (by decide)) (by rfl) (pa_cons (pv 0) (pa_cons pe_int pa_nil)))) pa_nil)) (pg_name (i := 2) sc_l_some_line.nd rfl (by first | exact Or.inl rfl | exact Or.inr rfl))
      (pss_cons (ps_set (i := 3) sc_l_some_line.nd rfl (by first | exact Or.inl rfl | exact Or.inr rfl) (pe_lst pa_nil))
      (pss_cons (ps_for PassesOwn.never rfl (pi_range1 (by rfl) B.b_range (pa_cons pe_int pa_nil)) (pg_name (i := 4) sc_l_some_line.nd rfl (by first | exact Or.inl rfl | exact Or.inr rfl))
      (pss_cons (ps_set (i := 5) sc_l_some_line.nd rfl (by first | exact Or.inl rfl | exact Or.inr rfl) (pe_op op_mulW (pe_def G_l_take (hr.mono (by decide)) (by rfl) (pa_cons (pv 0) (pa_cons (pe_ix (ix_seqK (K := K) rfl) (pe_lst (pa_cons pe_int (pa_cons (pe_op op_pow pe_int pe_int) pa_nil))) (pe_def G_l_take (hr.mono (by decide)) (by rfl) (pa_cons (pv 0) (pa_cons pe_int pa_nil))) (fun _ _ => rfl)) pa_nil))) (pe_ix (ix_seqK (K := K) rfl) (pe_lst (pa_cons pe_int (pa_cons (pe_un un_neg pe_int) pa_nil))) (pe_def G_l_take (hr.mono (by decide)) (by rfl) (pa_cons (pv 0) (pa_cons pe_int pa_nil))) (fun _ _ => rfl))))
      (pss_one (ps_expr (pe_bm PySem.F.plainAttrs_list PySem.F.slot_list_append PySem.F.type_list_append mt_append (pv 3) (pa_cons (pe_def G_l_low (hr.mono (by decide)) (by rfl) (pa_cons (pv 5) (pa_cons (pe_op op_add pe_int (pe_def G_l_take (hr.mono (by decide)) (by rfl) (pa_cons (pv 0) (pa_cons (pe_ix (ix_seqK (K := K) rfl) (pe_lst (pa_cons pe_int (pa_cons pe_int (pa_cons (pe_op op_pow pe_int pe_int) pa_nil)))) (pe_def G_l_take (hr.mono (by decide)) (by rfl) (pa_cons (pv 0) (pa_cons pe_int pa_nil))) (fun _ _ => rfl)) pa_nil)))) pa_nil))) pa_nil))))))
      (pss_one (ps_expr (pe_bm PySem.F.plainAttrs_list PySem.F.slot_list_append PySem.F.type_list_append mt_append (pv 1) (pa_cons (pe_callTy (call_tupleK (K := K) rfl) (by rfl) B.b_tuple (by decide +kernel) (pa_cons (pv 3) pa_nil)) pa_nil)))))))
      (pss_one (ps_ret (pe_callTy (call_tupleK (K := K) rfl) (by rfl) B.b_tuple (by decide +kernel) (pa_cons (pv 1) pa_nil)))))), body_okU h (fun ds μ Φ p => ?_)⟩
  (try dsimp only [cxOf, Cx.nox, Cx.wish, List.map_cons, List.map_nil])
  obtain ⟨b, c, m, rfl, hb, hm, q⟩ := p
  show AS K _ [some _, none, none, none, none, none] _ _
  walk_at "go"
  intro pl hl
  have nl : pl ≠ b := by rintro rfl; rw [hb] at hl; cases hl
  have hpn : μ pl = none := hl
  have sb1 := sb_new (Y := .lst []) (fun _ _ _ h => h : SubB b μ μ) hl
  have gl1 : (μ.set pl (.lst [])) pl = some (.lst []) := set_same
  have hb1 : (μ.set pl (.lst [])) b = some (.lst [.int c, .int m]) := by rw [set_ne (Ne.symm nl)]; exact hb
  walk_at "go"
  generalize μ.set pl (.lst []) = μ1 at sb1 gl1 hb1 ⊢
  clear hl
  have sbp : ∀ (μ' : M) X, SubB b μ μ' → SubB b μ (μ'.set pl X) := fun μ' X sb a m' ha e => by
    rw [set_ne (by rintro rfl; rw [hpn] at e; cases e)]
    exact sb a m' ha e
  refine s_for (ai_1 ?_)
  walk_at "go"
  refine take_w hb1 hm (by decide) (by decide) fun t μ2 c2 m2 t0 t1 sb2 hb2 hm2 => ?_
  walk_at "go"
  refine ⟨by omega, by omega, fun (j : Nat) τ' μ' => ∃ (ps : List (Fr2 × Fr2)) (c m : Int) (o2 o3 o4 o5 : Option D), ps.length = j ∧ (∀ p ∈ ps, FrOk p.1 ∧ FrOk p.2) ∧ BgOk m ∧ SubB b μ μ' ∧ μ' pl = some (.lst (ps.map plD)) ∧ μ' b = some (.lst [.int c, .int m]) ∧ τ' = [some (.ref b), some (.ref pl), o2, o3, o4, o5], ⟨[], c2, m2, none, none, none, none, rfl, by simp, hm2, sb_trans sb1 sb2, sb2 _ _ nl gl1, hb2, rfl⟩, ?_, ?_⟩
  · clear sb1 sb2 gl1 hb1 hb2 hm2
    rintro j x τ' μ' hj ⟨ps, c, m, o2, o3, o4, o5, lj, tw, hm, sb, gl, hb, rfl⟩
    have jl : j < 9 := by
      have := (List.getElem?_eq_some_iff.mp hj).1
      rw [List.length_map, List.length_range] at this
      omega
    walk_at "go"
    intro pp hp
    have np : pp ≠ b := by rintro rfl; rw [hb] at hp; cases hp
    have npl : pl ≠ pp := by rintro rfl; rw [gl] at hp; cases hp
    have hppn : μ pp = none := by
      cases e : μ pp with
      | none => rfl
      | some x => rw [sb _ _ np e] at hp; cases hp
    have sb3 := sb_new (Y := .lst []) sb hp
    have gp3 : (μ'.set pp (.lst [])) pp = some (.lst []) := set_same
    have gl3 : (μ'.set pp (.lst [])) pl = some (.lst (ps.map plD)) := by rw [set_ne npl]; exact gl
    have hb3 : (μ'.set pp (.lst [])) b = some (.lst [.int c, .int m]) := by rw [set_ne (Ne.symm np)]; exact hb
    walk_at "go"
    generalize μ'.set pp (.lst []) = μ3 at sb3 gp3 gl3 hb3 ⊢
    clear hp sb gl hb
    have big : (10 : Int) ^ 29 < 2 ^ 100 := by decide
    refine s_for (ai_1 ?_)
    walk_at "go"
    refine ⟨by decide, by decide, fun (i : Nat) τ' μ' => ∃ (fs : List Fr2) (c m : Int) (o4 o5 : Option D), fs.length = i ∧ (∀ f ∈ fs, FrOk f) ∧ BgOk m ∧ SubB b μ μ' ∧ μ' pl = some (.lst (ps.map plD)) ∧ μ' pp = some (.lst (fs.map frD)) ∧ μ' b = some (.lst [.int c, .int m]) ∧ τ' = [some (.ref b), some (.ref pl), some x, some (.ref pp), o4, o5], ⟨[], c, m, _, _, rfl, by simp, hm, sb3, gl3, gp3, hb3, rfl⟩, ?_, ?_⟩
    · clear sb3 gl3 gp3 hb3 hm
      rintro i e τ' μ' hi ⟨fs, c, m, o4, o5, li, fw, hm, sb, gl, gp, hb, rfl⟩
      have il : i < 2 := by
        have := (List.getElem?_eq_some_iff.mp hi).1
        simpa using this
      refine g_name ?_
      walk_at "nf"
      refine s_seq ?_
      refine s_asg ?_
      refine a_op ?_
      refine a_call ?_
      refine aa_cons ?_
      refine a_var rfl ?_
      refine aa_cons ?_
      refine pick_list rfl hb hm (by decide) (by decide) (Nat.le_of_ble_eq_true rfl) (ds := [D.int 4, D.int (10 ^ 29)]) (fun Ψ h => ?_) fun d d0 d1 => ?_
      · have cp : CPow 10 29 := ⟨by decide, by decide, by decide⟩
        walk_at "go"
        exact h
      obtain ⟨z, hz, z0, z1⟩ := pickA68 d0 d1
      refine ⟨_, hz, fun μ4 c4 m4 sb4 hb4 hm4 => ?_⟩
      refine aa_nil ?_
      refine take_w hb4 hm4 z0 (by omega) fun up μ5 c5 m5 u0 u1 sb5 hb5 hm5 => ?_
      refine pick_list rfl hb5 hm5 (by decide) (by decide) (Nat.le_of_ble_eq_true rfl) (ds := [D.int 1, D.int (-1)]) (fun Ψ h => ?_) fun d d0 d1 => ?_
      · walk_at "go"
        exact h
      obtain ⟨sg, hsg, sg1⟩ := pickB68 d0 d1
      refine ⟨_, hsg, fun μ6 c6 m6 sb6 hb6 hm6 => ?_⟩
      have ua : (up * sg).natAbs < 10 ^ 30 := by
        rcases sg1 with rfl | rfl <;> omega
      refine ro_c (mulw_of (a := 100) (b := 2) (by unfold Sz; omega) (by rcases sg1 with rfl | rfl <;> (unfold Sz; decide)) (by decide)) ?_
      walk_at "nf"
      refine g_name ?_
      walk_at "nf"
      refine s_drop ?_
      have sb7 : SubB b μ' μ6 := sb_trans (sb_trans sb4 sb5) sb6
      refine m_append (a := pp) (ds := fs.map frD) ?_
      refine a_var rfl ?_
      refine ⟨rfl, ⟨_, sb7 _ _ np gp⟩, ?_⟩
      refine a_call ?_
      refine aa_cons ?_
      refine a_var rfl ?_
      refine aa_cons ?_
      refine a_op ?_
      refine a_int ?_
      refine a_call ?_
      refine aa_cons ?_
      refine a_var rfl ?_
      refine aa_cons ?_
      refine pick_list rfl hb6 hm6 (by decide) (by decide) (Nat.le_of_ble_eq_true rfl) (ds := [D.int 1, D.int 9, D.int (10 ^ 29)]) (fun Ψ h => ?_) fun d d0 d1 => ?_
      · have cp : CPow 10 29 := ⟨by decide, by decide, by decide⟩
        walk_at "go"
        exact h
      obtain ⟨w, hw, w0, w1⟩ := pickC68 d0 d1
      refine ⟨_, hw, fun μ8 c8 m8 sb8 hb8 hm8 => ?_⟩
      refine aa_nil ?_
      refine take_w hb8 hm8 w0 (by omega) fun lo μ9 c9 m9 l0 l1 sb9 hb9 hm9 => ?_
      have sb10 : SubB b μ' μ9 := sb_trans sb7 (sb_trans sb8 sb9)
      walk_at "go"
      refine ⟨up * sg, 1 + lo, rfl, ua, by omega, by omega, fun p q p1 q0 q1 => ?_⟩
      refine ⟨sb10 _ _ np gp, by rw [List.length_map]; exact Nat.lt_of_le_of_lt (show fs.length ≤ 2 by omega) (by decide), fs ++ [(p, q)], c9, m9, _, _, by rw [List.length_append, List.length_singleton, li], fun f hf => (List.mem_append.mp hf).elim (fw f) fun z => by rw [List.mem_singleton.mp z]; exact ⟨p1, q0, q1⟩, hm9, ?_, ?_, ?_, ?_, rfl⟩
      · exact fun a X ha e => by
          show (M.set _ pp _) a = _
          rw [set_ne (by rintro rfl; rw [hppn] at e; cases e)]
          exact sb10 a X ha (sb a X ha e)
      · show (M.set _ pp _) pl = _
        rw [set_ne npl]
        exact sb10 _ _ nl gl
      · show (M.set _ pp _) pp = _
        rw [set_same, List.map_append, List.map_singleton]
      · show (M.set _ pp _) b = _
        rw [set_ne (Ne.symm np)]
        exact hb9
    rintro τ' μ' ⟨fs, c, m, o4, o5, li, fw, hm, sb, gl, gp, hb, rfl⟩
    have l2 : fs.length = 2 := by rw [li]; rfl
    obtain ⟨f1, f2, rfl⟩ : ∃ a b, fs = [a, b] := by
      match fs, l2 with
      | [a, b], _ => exact ⟨a, b, rfl⟩
    walk_at "go"
    refine m_append (a := pl) (ds := ps.map plD) ?_
    walk_at "go"
    refine ⟨rfl, ⟨_, gl⟩, ?_⟩
    walk_at "go"
    refine rc_tuple (seq_ref gp) ?_
    refine ⟨gl, by rw [List.length_map]; exact Nat.lt_of_le_of_lt (show ps.length ≤ 9 by omega) (by decide), ps ++ [(f1, f2)], c, m, _, _, _, _, by rw [List.length_append, List.length_singleton, lj], fun p hp => (List.mem_append.mp hp).elim (tw p) fun z => by rw [List.mem_singleton.mp z]; exact ⟨fw f1 (by simp), fw f2 (by simp)⟩, hm, sbp _ _ sb, ?_, ?_, rfl⟩
    · show (M.set _ pl _) pl = _
      rw [set_same, List.map_append, List.map_singleton]
      rfl
    · show (M.set _ pl _) b = _
      rw [set_ne (Ne.symm nl)]
      exact hb
  rintro τ' μ' ⟨ps, c, m, o2, o3, o4, o5, lj, tw, hm, sb, gl, hb, rfl⟩
  rw [List.length_map, List.length_range] at lj
  walk_at "go"
  refine rc_tuple (seq_ref gl) ?_
  exact up_of (sb_end sb hb) (q ps c m tw (by omega) hm)
theorem ok_law {f : Addr} {fd : FuncData} (F : Fun K "law" "law" s_law f fd) (B : Bs mg) {C_read_touched : Addr} (V_read_touched : Cst mg "read_touched" (.ref C_read_touched)) (G_l_bag : Def P w K mg base "_law_bag" ["_law_script", "_law_at"] 2 (spI K P_l_bag)) (G_l_bent : Def P w K mg base "_law_bent" ["_law_bag_here", "_law_text"] 4 (spI K P_l_bent)) (G_l_read : Def P w K mg base "_law_read" ["_law_reader", "_law_text"] 5 (spI K (P_l_read C_read_touched))) (G_l_some_line : Def P w K mg base "_law_some_line" ["_law_bag_here"] 3 (spI K P_l_some_line)) (G_l_take : Def P w K mg base "_law_take" ["_law_bag_here", "_law_many"] 1 (spI K P_l_take)) (G_l_touched_in : Def P w K mg base "_law_touched_in" ["_law_text"] 4 (spI K P_l_touched_in)) (G_l_word_bent : Def P w K mg base "_law_word_bent" ["_law_bag_here", "_law_text"] 3 (spI K P_l_word_bent)) (G_l_written : Def P w K mg base "_law_written" ["_law_place"] 2 (spI K P_l_written)) (G_show_line : Def P w K mg base "show_line" ["places"] 2 (spI K P_show_line)) (G_show_touched : Def P w K mg base "show_touched" ["touched"] 1 (spI K P_show_touched)) : FnOk P w K mg base CX0 6 f fd ["_law_script"] (spI K P_law) := by
  refine F.ok sc_law (fun vs H Q E h => spI_len h len_law) (fun cdv A outer s H vs Q E hr h => ?_)
  have hu65 := hu65_of hr
  refine ⟨_, (pss_cons (ps_for PassesOwn.never rfl (pi_range1 (by rfl) B.b_range (pa_cons (pe_callB (call_max2 rfl) (by rfl) B.b_max (by decide +kernel) (pa_cons pe_int (pa_cons (pe_callB (call_min2 rfl) (by rfl) B.b_min (by decide +kernel) (pa_cons pe_int (pa_cons (pe_callB (call_lenK (K := K) rfl) (by rfl) B.b_len (by decide +kernel) (pa_cons (pv 0) pa_nil)) pa_nil))) pa_nil))) pa_nil)) (pg_name (i := 1) sc_law.nd rfl (by first | exact Or.inl rfl | exact Or.inr rfl))
      (pss_cons (ps_set (i := 2) sc_law.nd rfl (by first | exact Or.inl rfl | exact Or.inr rfl) (pe_def G_l_bag (hr.mono (by decide)) (by rfl) (pa_cons (pv 0) (pa_cons (pv 1) pa_nil))))
      (pss_cons (ps_set (i := 3) sc_law.nd rfl (by first | exact Or.inl rfl | exact Or.inr rfl) (pe_lst pa_nil))
      (pss_cons (ps_for PassesOwn.never rfl (pi_range1 (by rfl) B.b_range (pa_cons (pe_def G_l_take (hr.mono (by decide)) (by rfl) (pa_cons (pv 2) (pa_cons (pe_ix (ix_seqK (K := K) rfl) (pe_lst (pa_cons pe_int (pa_cons pe_int (pa_cons pe_int pa_nil)))) (pe_def G_l_take (hr.mono (by decide)) (by rfl) (pa_cons (pv 2) (pa_cons pe_int pa_nil))) (fun _ _ => rfl)) pa_nil))) pa_nil)) (pg_name (i := 4) sc_law.nd rfl (by first | exact Or.inl rfl | exact Or.inr rfl))
      (pss_one (ps_expr (pe_bm PySem.F.plainAttrs_list PySem.F.slot_list_append PySem.F.type_list_append mt_append (pv 3) (pa_cons (pe_tup (pa_cons (pe_def G_l_take (hr.mono (by decide)) (by rfl) (pa_cons (pv 2) (pa_cons (pe_ix (ix_seqK (K := K) rfl) (pe_lst (pa_cons pe_int (pa_cons pe_int pa_nil))) (pe_def G_l_take (hr.mono (by decide)) (by rfl) (pa_cons (pv 2) (pa_cons pe_int pa_nil))) (fun _ _ => rfl)) pa_nil))) (pa_cons (pe_ix (ix_seqK (K := K) rfl) (pe_lst (pa_cons pe_str (pa_cons pe_str pa_nil))) (pe_def G_l_take (hr.mono (by decide)) (by rfl) (pa_cons (pv 2) (pa_cons pe_int pa_nil))) (fun _ _ => rfl)) pa_nil))) pa_nil)))))
      (pss_cons (ps_setLc (i := 5) (own := [("_law_pin", 12), ("_law_hand", 13)]) (g := gTup K 2 (gCons (gName 12) (gCons (gName 13) gNil))) (tt := tYes) rfl sc_law.nd rfl rfl (sw_true rfl rfl rfl (by decide +kernel)) (pi_listK (K := K) rfl (pv 3)) (blkOk_by (own := [("_law_pin", 12), ("_law_hand", 13)]) (N := N_law) (sc := defScope s_law) (by decide +kernel)) (fun _ _ _ _ _ => (pg_tup (by rfl) (pgs_cons (pg_name (i := 12) sc_law.nd rfl (by first | exact Or.inl rfl | exact Or.inr rfl)) (pgs_cons (pg_name (i := 13) sc_law.nd rfl (by first | exact Or.inl rfl | exact Or.inr rfl)) pgs_nil)))) (fun _ _ _ _ _ => pts_nil) (fun _ _ _ _ _ => (pe_op op_add_str (pe_callTy call_str_int (by rfl) B.b_str (by decide +kernel) (pa_cons (pv 12) pa_nil)) (pe_dget (hu_of hr) (pe_disp (pps_cons pe_str pe_str (pps_cons pe_str pe_str pps_nil)) rfl rfl (by simp) (by decide)) (pv 13) (fun _ _ => rfl)))))
      (pss_cons (ps_set (i := 6) sc_law.nd rfl (by first | exact Or.inl rfl | exact Or.inr rfl) (pe_ifExp (pt_cmpR (op_neDK (K := K) rfl hr.units) (pv 5) (pe_lst pa_nil) (by first | exact nomark _ | rfl)) (pe_joinK (K := K) rfl pe_str (pv 5)) pe_str))
      (pss_cons (ps_if (PW.pt (pw_or (pt_cmpR op_ne (pe_def G_show_touched (hr.mono (by decide)) (by rfl) (pa_cons (pe_callTy (call_tupleK (K := K) rfl) (by rfl) B.b_tuple (by decide +kernel) (pa_cons (pv 3) pa_nil)) pa_nil)) (pv 6) (by first | exact nomark _ | rfl)) (pw_or1 (pt_cmpR (op_neDK (K := K) rfl hr.units) (pe_def G_l_read (hr.mono (by decide)) (by rfl) (pa_cons (pe_cst V_read_touched (by rfl)) (pa_cons (pv 6) pa_nil))) (pe_callTy (call_tupleK (K := K) rfl) (by rfl) B.b_tuple (by decide +kernel) (pa_cons (pv 3) pa_nil)) (by first | exact nomark _ | rfl))))) (pss_one (ps_ret pe_bl)) pss_nil)
      (pss_cons (ps_set (i := 7) sc_law.nd rfl (by first | exact Or.inl rfl | exact Or.inr rfl) (pe_op op_cat (pe_lc (own := [("_law_turn", 4)]) (g := gName 4) (tt := tYes) rfl sc_law.nd (pi_range1 (by rfl) B.b_range (pa_cons pe_int pa_nil)) (blkOk_by (own := [("_law_turn", 4)]) (N := N_law) (sc := defScope s_law) (by decide +kernel)) (fun _ _ _ _ _ => (pg_name (i := 4) sc_law.nd rfl (by first | exact Or.inl rfl | exact Or.inr rfl))) (fun _ _ _ _ _ => pts_nil) (fun _ _ _ _ _ => (pe_def G_l_bent (hr.mono (by decide)) (by rfl) (pa_cons (pv 2) (pa_cons (pv 6) pa_nil))))) (pe_lst (pa_cons (pe_def G_l_word_bent (hr.mono (by decide)) (by rfl) (pa_cons (pv 2) (pa_cons (pv 6) pa_nil))) (pa_cons (pe_def G_l_bent (hr.mono (by decide)) (by rfl) (pa_cons (pv 2) (pa_cons pe_str pa_nil))) pa_nil)))))
      (pss_cons (ps_set (i := 7) sc_law.nd rfl (by first | exact Or.inl rfl | exact Or.inr rfl) (pe_op op_cat (pv 7) (pe_lst (pa_cons pe_str (pa_cons pe_str (pa_cons pe_str (pa_cons pe_str (pa_cons pe_str (pa_cons pe_str (pa_cons pe_str (pa_cons pe_str (pa_cons pe_str (pa_cons (pe_joinK (K := K) rfl pe_str (pe_op op_rep (pe_lst (pa_cons pe_str pa_nil)) pe_int)) (pa_cons (pe_op op_add_str (pv 6) pe_str) pa_nil))))))))))))))
      (pss_cons (ps_for PassesOwn.never rfl (pi_listK (K := K) rfl (pv 7)) (pg_name (i := 8) sc_law.nd rfl (by first | exact Or.inl rfl | exact Or.inr rfl))
      (pss_cons (ps_set (i := 9) sc_law.nd rfl (by first | exact Or.inl rfl | exact Or.inr rfl) (pe_def G_l_touched_in (hr.mono (by decide)) (by rfl) (pa_cons (pv 8) pa_nil)))
      (pss_one (ps_if (pt_cmpR (op_neDK (K := K) rfl hr.units) (pe_def G_l_read (hr.mono (by decide)) (by rfl) (pa_cons (pe_cst V_read_touched (by rfl)) (pa_cons (pv 8) pa_nil))) (pe_ifExp (pt_cmpR op_isN (pv 9) pe_non (by first | exact nomark _ | rfl)) pe_str (pv 9)) (by first | exact nomark _ | rfl)) (pss_one (ps_ret pe_bl)) pss_nil))))
      (pss_cons (ps_for PassesOwn.never rfl (pi_tupK (K := K) rfl (pe_tup (pa_cons pe_non (pa_cons pe_int (pa_cons pe_bl (pa_cons (pe_tup pa_nil) (pa_cons (pv 3) (pa_cons (pe_tup (pa_cons (pv 6) pa_nil)) pa_nil)))))))) (pg_name (i := 10) sc_law.nd rfl (by first | exact Or.inl rfl | exact Or.inr rfl))
      (pss_one (ps_if (pt_cmpR op_ne (pe_def G_l_read (hr.mono (by decide)) (by rfl) (pa_cons (pe_cst V_read_touched (by rfl)) (pa_cons (pv 10) pa_nil))) pe_str (by first | exact nomark _ | rfl)) (pss_one (ps_ret pe_bl)) pss_nil)))
      (pss_cons (ps_set (i := 11) sc_law.nd rfl (by first | exact Or.inl rfl | exact Or.inr rfl) (pe_def G_l_some_line (hr.mono (by decide)) (by rfl) (pa_cons (pv 2) pa_nil)))
      (pss_one (ps_if (pt_cmpR op_ne (pe_def G_show_line (hr.mono (by decide)) (by rfl) (pa_cons (pv 11) pa_nil)) (pe_joinK (K := K) rfl pe_str (pe_lc (own := [("_law_place", 14)]) (g := gName 14) (tt := tYes) rfl sc_law.nd (pi_tupK (K := K) rfl (pv 11)) (blkOk_by (own := [("_law_place", 14)]) (N := N_law) (sc := defScope s_law) (by decide +kernel)) (fun _ _ _ _ _ => (pg_name (i := 14) sc_law.nd rfl (by first | exact Or.inl rfl | exact Or.inr rfl))) (fun _ _ _ _ _ => pts_nil) (fun _ _ _ _ _ => (pe_def G_l_written (hr.mono (by decide)) (by rfl) (pa_cons (pv 14) pa_nil))))) (by first | exact nomark _ | rfl)) (pss_one (ps_ret pe_bl)) pss_nil))))))))))))))
      (pss_one (ps_ret pe_bl))), body_okU h (fun ds μ Φ p => ?_)⟩
  (try dsimp only [cxOf, Cx.nox, Cx.wish, List.map_cons, List.map_nil])
  obtain ⟨ns, rfl, hl, q⟩ := p
  show AS K _ [some _, none, none, none, none, none, none, none, none, none, none, none, none, none, none] _ _
  walk_at "go"
  refine s_for1 (lawM4 ns) (fun i τ' μ' => ∃ o1 o2 o3 o4 o5 o6 o7 o8 o9 o10 o11 o12 o13 o14 : Option D, τ' = [some (.rol (ns.map D.int)), o1, o2, o3, o4, o5, o6, o7, o8, o9, o10, o11, o12, o13, o14]) ?h ?hs ?hd
  case h =>
    walk_at "go"
    refine ⟨rfl, ?_, ?_, ?_⟩
    · have := lawM4_le ns; omega
    · have := lawM4_le ns; omega
    · exact ⟨_, _, _, _, _, _, _, _, _, _, _, _, _, _, rfl⟩
  case hd =>
    rintro τ' μ' ⟨o1, o2, o3, o4, o5, o6, o7, o8, o9, o10, o11, o12, o13, o14, rfl⟩
    walk_at "go"
    exact up (q _)
  case hs =>
    rintro i τ' μ' hi ⟨o1, o2, o3, o4, o5, o6, o7, o8, o9, o10, o11, o12, o13, o14, rfl⟩
    have hi6 : (i : Int) ≤ 6 := by have := lawM4_le ns; omega
    walk_at "go"
    refine use_bag (by omega) (by omega) fun b c m hb hm => ?_
    have gb : (μ'.set b (.lst [.int c, .int m])) b = some (.lst [.int c, .int m]) := set_same
    walk_at "go"
    intro pt hpt
    have nt : pt ≠ b := by rintro rfl; rw [gb] at hpt; cases hpt
    have gt1 : ((μ'.set b (.lst [.int c, .int m])).set pt (.lst [])) pt = some (.lst []) := set_same
    have gb1 : ((μ'.set b (.lst [.int c, .int m])).set pt (.lst [])) b = some (.lst [.int c, .int m]) := by rw [set_ne (Ne.symm nt)]; exact gb
    walk_at "go"
    generalize ((μ'.set b (.lst [.int c, .int m])).set pt (.lst [])) = μ1 at gt1 gb1 ⊢
    clear hpt gb hb
    refine s_for (ai_1 ?_)
    refine aa_cons ?_
    refine a_call ?_
    refine aa_cons ?_
    refine a_var rfl ?_
    refine aa_cons ?_
    refine pick_list rfl gb1 hm (by decide) (by decide) (Nat.le_of_ble_eq_true rfl) (ds := [D.int 3, D.int 12, D.int 81]) (fun Ψ h => ?_) fun d d0 d1 => ?_
    · walk_at "go"
      exact h
    obtain ⟨z, hz, z0, z1⟩ := pickT68 d0 d1
    refine ⟨_, hz, fun μ2 c2 m2 sb2 gb2 hm2 => ?_⟩
    refine aa_nil ?_
    refine take_w gb2 hm2 z0 (by omega) fun t μ3 c3 m3 t0 t1 sb3 gb3 hm3 => ?_
    have gt3 := sb3 _ _ nt (sb2 _ _ nt gt1)
    walk_at "go"
    refine ⟨by omega, by omega, fun (j : Nat) τ' μ' => ∃ (ts : List (Int × Bool)) (c m : Int) (o4 : Option D), ts.length = j ∧ (∀ t ∈ ts, 0 ≤ t.1 ∧ t.1 < 10000) ∧ BgOk m ∧ μ' pt = some (.lst (ts.map touD)) ∧ μ' b = some (.lst [.int c, .int m]) ∧ τ' = [some (.rol (ns.map D.int)), some (.int i), some (.ref b), some (.ref pt), o4, o5, o6, o7, o8, o9, o10, o11, o12, o13, o14], ⟨[], c3, m3, _, rfl, by simp, hm3, gt3, gb3, rfl⟩, ?_, ?_⟩
    · clear gt3 gb3 hm3 sb2 sb3 gt1 gb1 gb2 hm2 hm
      rintro j x τ' μ' hj ⟨ts, c, m, o4, lj, tw, hm, gt, gb, rfl⟩
      have jl : j < 81 := by
        have := (List.getElem?_eq_some_iff.mp hj).1
        rw [List.length_map, List.length_range] at this
        omega
      refine g_name ?_
      walk_at "nf"
      refine s_drop ?_
      refine m_append (a := pt) (ds := ts.map touD) ?_
      refine a_var rfl ?_
      refine ⟨rfl, ⟨_, gt⟩, ?_⟩
      refine a_tup ?_
      refine aa_cons ?_
      refine a_call ?_
      refine aa_cons ?_
      refine a_var rfl ?_
      refine aa_cons ?_
      refine pick_list rfl gb hm (by decide) (by decide) (Nat.le_of_ble_eq_true rfl) (ds := [D.int 10, D.int 10000]) (fun Ψ h => ?_) fun d d0 d1 => ?_
      · walk_at "go"
        exact h
      obtain ⟨z, hz, z0, z1⟩ := pickP68 d0 d1
      refine ⟨_, hz, fun μ4 c4 m4 sb4 gb4 hm4 => ?_⟩
      refine aa_nil ?_
      refine take_w gb4 hm4 z0 (by omega) fun pin μ5 c5 m5 p0 p1 sb5 gb5 hm5 => ?_
      refine aa_cons ?_
      refine pick_list rfl gb5 hm5 (by decide) (by decide) (Nat.le_of_ble_eq_true rfl) (ds := [D.str (Str.ofString "left"), D.str (Str.ofString "right")]) (fun Ψ h => ?_) fun d d0 d1 => ?_
      · walk_at "go"
        exact h
      obtain ⟨l, hl⟩ := pickS68 d0 d1
      refine ⟨_, hl, fun μ6 c6 m6 sb6 gb6 hm6 => ?_⟩
      refine aa_nil ?_
      have gt6 := sb6 _ _ nt (sb5 _ _ nt (sb4 _ _ nt gt))
      refine ⟨Nat.le_of_ble_eq_true rfl, gt6, by rw [List.length_map]; exact Nat.lt_of_le_of_lt (show ts.length ≤ 81 by omega) (by decide), ts ++ [(pin, l)], c6, m6, _, by rw [List.length_append, List.length_singleton, lj], fun t h => (List.mem_append.mp h).elim (tw t) fun e => by rw [List.mem_singleton.mp e]; exact ⟨p0, by show pin < 10000; omega⟩, hm6, ?_, ?_, rfl⟩
      · show (M.set _ pt _) pt = _
        rw [set_same, List.map_append, List.map_singleton]
      · show (M.set _ pt _) b = _
        rw [set_ne (Ne.symm nt)]
        exact gb6
    clear gt3 gb3 hm3 sb2 sb3 gt1 gb1 gb2 hm2 hm
    rintro τ' μ4 ⟨ts, c, m, o4, lj, tw, hm, gt, gb, rfl⟩
    rw [List.length_map, List.length_range] at lj
    have few : ts.length ≤ 80 := by omega
    dsimp only [id]
    walk_at "go"
    refine a_lc tg_2 (ai_L ?_)
    walk_at "go"
    refine ⟨pt, _, rfl, gt, ?_⟩
    have gb0 : (μ4.del pt) b = some (.lst [.int c, .int m]) := by rw [Z.del_ne (Ne.symm nt)]; exact gb
    refine ⟨fun j acc μ2 => acc = (ts.take j).map (fun t => D.str (touS t)) ∧ μ2 b = some (.lst [.int c, .int m]), ⟨rfl, gb0⟩, ?_, ?_⟩
    · clear gb gt gb0
      rintro j e acc μ2 he ⟨rfl, gb⟩
      obtain ⟨t, ht, rfl⟩ := List.mem_map.mp (List.mem_of_getElem? he)
      have htj : ts[j]? = some t := by
        rw [List.getElem?_map] at he
        cases e0 : ts[j]? with
        | none => rw [e0] at he; cases he
        | some u =>
          rw [e0] at he
          have := congrArg ofTou (Option.some.inj he)
          rw [ofTou_D, ofTou_D] at this
          rw [this]
      have jl : j < ts.length := (List.getElem?_eq_some_iff.mp htj).1
      obtain ⟨h0, h1⟩ := tw t ht
      refine ⟨_, ⟨rfl, rfl⟩, rfl, ?_⟩
      refine at_yes ?_
      rw [if_pos rfl]
      walk_at "nf"
      walk_at "go"
      refine rc_strI (log_num h0 h1) ?_
      refine a_dget ?_
      refine a_disp2 (by decide +kernel) fun pd hpd => ?_
      have nd : pd ≠ b := by rintro rfl; rw [gb] at hpd; cases hpd
      walk_at "go"
      refine ⟨pd, .str (sideL t.2), rfl, .inl ⟨_, .inr (sideS t.2), set_same, rfl, ?_⟩, ?_⟩
      · cases t.2
        · rw [Z.valD_cons, if_neg (by decide +kernel), Z.valD_cons, if_pos (by decide +kernel)]
          rfl
        · rw [Z.valD_cons, if_pos (by decide +kernel)]
          rfl
      have l4 := len_num h0 h1
      have l1 : (sideL t.2).length = 1 := by cases t.2 <;> rfl
      refine ro_addS (by rw [l1]; exact Nat.le_trans (Nat.add_le_add_right l4 1) (by decide)) ?_
      refine ⟨by rw [List.length_map, List.length_take]; exact Nat.lt_of_le_of_lt (show min j ts.length ≤ 80 by omega) (by decide), ?_, by rw [set_ne (Ne.symm nd)]; exact gb⟩
      rw [List.take_succ, htj, List.map_append]
      rfl
    rintro acc μ2 ⟨rfl, gb2⟩ pw hpw
    rw [List.length_map, List.take_length, show ts.map (fun t => D.str (touS t)) = (ts.map touS).map D.str from by rw [List.map_map]; rfl]
    have gt5 : (μ2.set pt (.lst (ts.map touD))) pt = some (.lst (ts.map touD)) := set_same
    have gb5 : (μ2.set pt (.lst (ts.map touD))) b = some (.lst [.int c, .int m]) := by rw [set_ne (Ne.symm nt)]; exact gb2
    show AG K _ _ _ ((μ2.set pt (.lst (ts.map touD))).set pw _) _
    have hpw' : (μ2.set pt (.lst (ts.map touD))) pw = none := hpw
    generalize μ2.set pt (.lst (ts.map touD)) = μ5 at gt5 gb5 hpw' ⊢
    clear hpw gb2 gb0 gb gt
    have nwb : pw ≠ b := by rintro rfl; rw [gb5] at hpw'; cases hpw'
    have nwt : pw ≠ pt := by rintro rfl; rw [gt5] at hpw'; cases hpw'
    have gt6 : (μ5.set pw (.lst ((ts.map touS).map D.str))) pt = some (.lst (ts.map touD)) := by rw [set_ne (Ne.symm nwt)]; exact gt5
    have gb6 : (μ5.set pw (.lst ((ts.map touS).map D.str))) b = some (.lst [.int c, .int m]) := by rw [set_ne (Ne.symm nwb)]; exact gb5
    have gw6 : (μ5.set pw (.lst ((ts.map touS).map D.str))) pw = some (.lst ((ts.map touS).map D.str)) := set_same
    generalize μ5.set pw (.lst ((ts.map touS).map D.str)) = μ6 at gt6 gb6 gw6 ⊢
    clear gt5 gb5 hpw'
    refine g_name ?_
    walk_at "nf"
    refine s_seq ?_
    refine s_asg ?_
    refine ae_mono (Ψ := fun d μ' => d = .str (touT ts) ∧ μ' pt = some (.lst (ts.map touD)) ∧ μ' b = some (.lst [.int c, .int m])) ?_ ?_
    · walk_at "go"
      intro p hp
      have np : pw ≠ p := by rintro rfl; rw [gw6] at hp; cases hp
      have npt : pt ≠ p := by rintro rfl; rw [gt6] at hp; cases hp
      have npb : b ≠ p := by rintro rfl; rw [gb6] at hp; cases hp
      have strsOk : ∀ x ∈ (ts.map touS).map D.str, OkN 0 x := fun x hx => by
        obtain ⟨w, hw, rfl⟩ := List.mem_map.mp hx
        obtain ⟨t, ht', rfl⟩ := List.mem_map.mp hw
        exact okn_str (strok_tou (tw t ht').1)
      refine ro_neL (n := 0) (by rw [set_ne np]; exact gw6) set_same strsOk (fun x hx => by cases hx) (by decide) ?_
      rw [eqv_nil]
      have g2 : (μ6.set p (.lst [])) pw = some (.lst ((ts.map touS).map D.str)) := by rw [set_ne np]; exact gw6
      have gt7 : (μ6.set p (.lst [])) pt = some (.lst (ts.map touD)) := by rw [set_ne npt]; exact gt6
      have gb7 : (μ6.set p (.lst [])) b = some (.lst [.int c, .int m]) := by rw [set_ne npb]; exact gb6
      generalize μ6.set p (.lst []) = μ7 at g2 gt7 gb7 ⊢
      refine ⟨_, rfl, ?_⟩
      by_cases h : ts = []
      · subst h
        simp only [List.map_nil, List.isEmpty_nil, Bool.not_true, Bool.false_eq_true, if_false]
        walk_at "go"
        exact ⟨rfl, gt7, gb7⟩
      have hne : ((ts.map touS).map D.str).isEmpty = false := by
        cases ts with
        | nil => exact absurd rfl h
        | cons => rfl
      rw [hne]
      simp only [Bool.not_false, if_true]
      refine m_joinV (a := " ") ?_
      walk_at "go"
      refine ⟨rfl, ?_⟩
      walk_at "go"
      refine ⟨ts.map touS, seq_ref g2, ?_, ?_, gt7, gb7⟩
      · have := sum_le (ws := ts.map touS) (k := 5) fun w hw => by
          obtain ⟨t, ht', rfl⟩ := List.mem_map.mp hw
          exact touS_len (tw t ht')
        rw [List.length_map] at this ⊢
        rw [show (" " : Str).length = 1 from rfl]
        omega
      unfold touT
      rw [if_neg h]
    rintro d μ7 ⟨rfl, gt7, gb7⟩
    clear gt6 gb6 gw6
    have wt : (touT ts).length ≤ 1000 := by
      unfold touT
      split
      · exact Nat.le_of_ble_eq_true rfl
      · refine Nat.le_trans (join_len _ _) ?_
        have := sum_le (ws := ts.map touS) (k := 5) fun w hw => by
          obtain ⟨t, ht', rfl⟩ := List.mem_map.mp hw
          exact touS_len (tw t ht')
        rw [List.length_map] at this ⊢
        rw [show (" " : Str).length = 1 from rfl]
        omega
    walk_at "go"
    refine rc_tuple (seq_ref gt7) ?_
    walk_at "go"
    refine ⟨ts, rfl, tw, by omega, ?_⟩
    walk_at "go"
    rw [if_neg (by simp)]
    walk_at "go"
    refine ⟨_, "str", true, rfl, rfl, by decide +kernel, fun h => (by cases h), fun _ => ⟨touT ts, rfl, Nat.le_trans wt (by decide), ?_⟩⟩
    rw [touRes_T tw, Option.getD_some]
    walk_at "go"
    refine rc_tuple (seq_ref gt7) ?_
    walk_at "go"
    refine ro_neD ((okn_tous ts).ok (by decide)) ((okn_tous ts).ok (by decide)) ?_
    rw [eqv_self (okn_tous ts)]
    refine ⟨_, rfl, ?_⟩
    simp only [Bool.not_true, Bool.false_eq_true, if_false, if_true]
    walk_at "go"
    refine a_lc tg_name (ai_1 ?_)
    walk_at "go"
    refine ⟨by decide, by decide, fun j acc μ2 => ∃ (zs : List Str) (c m : Int), zs.length = j ∧ (∀ z ∈ zs, z.length ≤ lng) ∧ acc = zs.map D.str ∧ BgOk m ∧ μ2 = μ7.set b (.lst [.int c, .int m]), ⟨[], c, m, rfl, by simp, rfl, hm, (set_id gb7).symm⟩, ?_, ?_⟩
    · rintro j e acc μ2 he ⟨zs, c2, m2, lz, hz, rfl, hm2, rfl⟩
      have hj : j < 3 := by
        have := (List.getElem?_eq_some_iff.mp he).1
        simpa using this
      refine ⟨_, rfl, rfl, ?_⟩
      refine at_yes ?_
      rw [if_pos rfl]
      walk_at "nf"
      walk_at "go"
      refine ⟨b, touT ts, c2, m2, rfl, set_same, hm2, Nat.le_trans wt (by decide), fun z c3 m3 z1 hm3 => ?_⟩
      refine ⟨by rw [List.length_map]; exact Nat.lt_of_le_of_lt (show zs.length ≤ 3 by omega) (by decide), zs ++ [z], c3, m3, by simp [lz], fun f hf => (List.mem_append.mp hf).elim (hz f) fun e => ?_, by simp, hm3, by rw [set_set]⟩
      rw [List.mem_singleton.mp e]
      exact Nat.le_trans z1 (Nat.le_trans (Nat.add_le_add_right wt 2) (by decide))
    rintro acc μ2 ⟨zs, c2, m2, lz, hz, rfl, hm2, rfl⟩ p6 hp6
    replace lz : zs.length = 3 := by rw [lz]; rfl
    have hp6' : (μ7.set b (.lst [.int c2, .int m2])) p6 = none := hp6
    have n6b : p6 ≠ b := by rintro rfl; rw [set_same] at hp6'; cases hp6'
    have n6t : p6 ≠ pt := by rintro rfl; rw [set_ne n6b, gt7] at hp6'; cases hp6'
    have gt8 : ((μ7.set b (.lst [.int c2, .int m2])).set p6 (.lst (zs.map D.str))) pt = some (.lst (ts.map touD)) := by rw [set_ne (Ne.symm n6t), set_ne nt]; exact gt7
    have gb8 : ((μ7.set b (.lst [.int c2, .int m2])).set p6 (.lst (zs.map D.str))) b = some (.lst [.int c2, .int m2]) := by rw [set_ne (Ne.symm n6b)]; exact set_same
    have g68 : ((μ7.set b (.lst [.int c2, .int m2])).set p6 (.lst (zs.map D.str))) p6 = some (.lst (zs.map D.str)) := set_same
    show AE K _ _ ((μ7.set b (.lst [.int c2, .int m2])).set p6 (.lst (zs.map D.str))) _
    generalize ((μ7.set b (.lst [.int c2, .int m2])).set p6 (.lst (zs.map D.str))) = μ8 at gt8 gb8 g68 ⊢
    clear hp6 hp6' gb7 gt7 hm
    walk_at "go"
    refine ⟨b, touT ts, c2, m2, rfl, gb8, hm2, Nat.le_trans wt (by decide), fun z4 c3 m3 hz4 hm3 => ?_⟩
    walk_at "go"
    refine ⟨b, "7L 9R", c3, m3, rfl, set_same, hm3, by decide +kernel, fun z5 c4 m4 hz5 hm4 => ?_⟩
    rw [set_set]
    have hz5' : z5.length ≤ lng := Nat.le_trans hz5 (by decide +kernel)
    have gt9 : (μ8.set b (.lst [.int c4, .int m4])) pt = some (.lst (ts.map touD)) := by rw [set_ne nt]; exact gt8
    have gb9 : (μ8.set b (.lst [.int c4, .int m4])) b = some (.lst [.int c4, .int m4]) := set_same
    have g69 : (μ8.set b (.lst [.int c4, .int m4])) p6 = some (.lst (zs.map D.str)) := by rw [set_ne n6b]; exact g68
    generalize μ8.set b (.lst [.int c4, .int m4]) = μ9 at gt9 gb9 g69 ⊢
    clear hm2 hm3 gt8 gb8 g68
    walk_at "go"
    intro q1 hq1
    have m1t : q1 ≠ pt := by rintro rfl; rw [gt9] at hq1; cases hq1
    have m1b : q1 ≠ b := by rintro rfl; rw [gb9] at hq1; cases hq1
    have m16 : q1 ≠ p6 := by rintro rfl; rw [g69] at hq1; cases hq1
    have a1 := sub_new (Y := .lst [D.str z4, D.str z5]) (Sub.refl (μ := μ9)) hq1
    refine ro_cat (ds := zs.map D.str) (es := [D.str z4, D.str z5]) (a1 _ _ g69) set_same (by rw [List.length_map, lz]; exact Nat.le_of_ble_eq_true rfl) fun q2 hq2 => ?_
    have a2 := sub_new (Y := .lst (zs.map D.str ++ [D.str z4, D.str z5])) a1 hq2
    have g10 : ((μ9.set q1 (.lst [D.str z4, D.str z5])).set q2 (.lst (zs.map D.str ++ [D.str z4, D.str z5]))) q2 = some (.lst ((zs ++ [z4, z5]).map D.str)) := by rw [set_same, List.map_append]; rfl
    have hz9 : ∀ z ∈ zs ++ [z4, z5], z.length ≤ lng := by
      intro z h
      simp only [List.mem_append, List.mem_cons, List.not_mem_nil, or_false] at h
      rcases h with h | rfl | rfl
      · exact hz z h
      · exact hz4
      · exact hz5'
    have l9 : (zs ++ [z4, z5]).length = 5 := by rw [List.length_append, lz]; rfl
    have gt10 := a2 _ _ gt9
    have gb10 := a2 _ _ gb9
    generalize ((μ9.set q1 (.lst [D.str z4, D.str z5])).set q2 (.lst (zs.map D.str ++ [D.str z4, D.str z5]))) = μ10 at g10 gt10 gb10 ⊢
    generalize zs ++ [z4, z5] = t9 at g10 hz9 l9
    clear hq1 hq2 a1 a2 gt9 gb9 g69 hz4 hz5 hz5' hz lz
    have wtl : (touT ts).length ≤ lng := Nat.le_trans wt (by decide)
    have wt1 : (touT ts).length + 1 ≤ lng := Nat.le_trans (Nat.add_le_add_right wt 1) (by decide)
    walk_at "go"
    refine m_joinV (a := " ") ?_
    walk_at "go"
    refine ⟨rfl, ?_⟩
    walk_at "go"
    intro r1 hr1
    have b1 := sub_new (Y := .lst [D.str (Str.ofString "1L")]) (Sub.refl (μ := μ10)) hr1
    walk_at "go"
    refine ro_rep (ds := [D.str (Str.ofString "1L")]) set_same (by decide) (Nat.le_of_ble_eq_true rfl) fun r2 hr2 => ?_
    have b2 := sub_new (Y := .lst (List.replicate (Int.toNat 81) [D.str (Str.ofString "1L")]).flatten) b1 hr2
    have ef : (List.replicate (Int.toNat 81) [D.str (Str.ofString "1L")]).flatten = (List.replicate 81 (Str.ofString "1L")).map D.str := by
      rw [List.map_replicate]
      rfl
    rw [ef] at b2 ⊢
    refine ⟨List.replicate 81 (Str.ofString "1L"), seq_ref set_same, by decide +kernel, ?_⟩
    have zj : (Txt.join " " (List.replicate 81 (Str.ofString "1L"))).length ≤ lng := Nat.le_trans (join_len _ _) (by decide +kernel)
    generalize Txt.join " " (List.replicate 81 (Str.ofString "1L")) = jt at zj ⊢
    have g11 := b2 _ _ g10
    have gt11 := b2 _ _ gt10
    have gb11 := b2 _ _ gb10
    generalize M.set _ r2 (.lst ((List.replicate 81 (Str.ofString "1L")).map D.str)) = μ11 at g11 gt11 gb11 b2 ⊢
    clear b1 b2 ef hr1 hr2 g10 gt10 gb10
    walk_at "go"
    intro q3 hq3
    have m32 : q3 ≠ q2 := by rintro rfl; rw [g11] at hq3; cases hq3
    have more : ∃ us : List Str, [D.str (Str.ofString ""), D.str (Str.ofString " "), D.str (Str.ofString "--"), D.str (Str.ofString "- -"), D.str (Str.ofString "L"), D.str (Str.ofString "7"), D.str (Str.ofString "7l"), D.str (Str.ofString "07L"), D.str (Str.ofString "7L-"), D.str jt, D.str (touT ts ++ Str.ofString " ")] = us.map D.str ∧ us.length = 11 ∧ ∀ u ∈ us, u.length ≤ lng := by
      refine ⟨[Str.ofString "", Str.ofString " ", Str.ofString "--", Str.ofString "- -", Str.ofString "L", Str.ofString "7", Str.ofString "7l", Str.ofString "07L", Str.ofString "7L-", jt, touT ts ++ Str.ofString " "], rfl, rfl, fun u hu => ?_⟩
      simp only [List.mem_cons, List.not_mem_nil, or_false] at hu
      rcases hu with rfl | rfl | rfl | rfl | rfl | rfl | rfl | rfl | rfl | rfl | rfl
      any_goals decide +kernel
      · exact zj
      · rw [len_app]; exact wt1
    obtain ⟨us, eus, lus, zus⟩ := more
    show RO K rCat _ _ (μ11.set q3 (.lst [D.str (Str.ofString ""), D.str (Str.ofString " "), D.str (Str.ofString "--"), D.str (Str.ofString "- -"), D.str (Str.ofString "L"), D.str (Str.ofString "7"), D.str (Str.ofString "7l"), D.str (Str.ofString "07L"), D.str (Str.ofString "7L-"), D.str jt, D.str (touT ts ++ Str.ofString " ")])) _
    rw [eus]
    have d1 := sub_new (Y := .lst (us.map D.str)) (Sub.refl (μ := μ11)) hq3
    refine ro_cat (ds := t9.map D.str) (es := us.map D.str) (d1 _ _ g11) set_same (by rw [List.length_map, List.length_map, l9, lus]; exact Nat.le_of_ble_eq_true rfl) fun q4 hq4 => ?_
    have d2 := sub_new (Y := .lst (t9.map D.str ++ us.map D.str)) d1 hq4
    have gA : ((μ11.set q3 (.lst (us.map D.str))).set q4 (.lst (t9.map D.str ++ us.map D.str))) q4 = some (.lst ((t9 ++ us).map D.str)) := by rw [set_same, List.map_append]
    have hzA : ∀ z ∈ t9 ++ us, z.length ≤ lng := fun z h => (List.mem_append.mp h).elim (hz9 z) (zus z)
    have gtA := d2 _ _ gt11
    have gbA := d2 _ _ gb11
    have n4t : q4 ≠ pt := by rintro rfl; rw [d1 _ _ gt11] at hq4; cases hq4
    have n4b : q4 ≠ b := by rintro rfl; rw [d1 _ _ gb11] at hq4; cases hq4
    generalize ((μ11.set q3 (.lst (us.map D.str))).set q4 (.lst (t9.map D.str ++ us.map D.str))) = μA at gA gtA gbA ⊢
    generalize t9 ++ us = tx at gA hzA
    clear hq3 hq4 d1 d2 g11 gt11 gb11 hz9 l9 eus lus zus zj
    refine g_name ?_
    walk_at "nf"
    refine s_seq ?_
    refine s_for (ai_L ?_)
    walk_at "go"
    refine ⟨q4, _, rfl, gA, fun j τ' μ2 => μ2 = μA.del q4 ∧ ∃ o8 o9 : Option D, τ' = [some (D.rol (List.map D.int ns)), some (D.int ↑i), some (D.ref b), some (D.ref pt), o4, some (D.ref pw),
          some (D.str (touT ts)), some (D.ref q4), o8, o9, o10, o11, o12, o13, o14], ⟨rfl, o8, o9, rfl⟩, ?_, ?_⟩
    · rintro j e τ' μ2 he ⟨rfl, o8, o9, rfl⟩
      obtain ⟨s, hs, rfl⟩ := List.mem_map.mp (List.mem_of_getElem? he)
      have zs := hzA s hs
      walk_at "go"
      refine ⟨s, rfl, zs, ?_⟩
      walk_at "go"
      refine ⟨_, "str", true, rfl, rfl, by decide +kernel, fun h => (by cases h), fun _ => ⟨s, rfl, zs, ?_⟩⟩
      cases er : touRes s with
      | none =>
        rw [Option.getD_none, Option.getD_none]
        walk_at "go"
        rw [if_pos (show isN D.non = true from rfl)]
        walk_at "go"
        have ok0 : OkN 0 (.str (Str.ofString "none")) := okn_str (by decide +kernel)
        refine ro_neD (ok0.ok (by decide)) (ok0.ok (by decide)) ?_
        rw [eqv_self ok0]
        refine ⟨_, rfl, ?_⟩
        simp only [Bool.not_true, Bool.false_eq_true, if_false, if_true]
        walk_at "go"
        exact ⟨rfl, _, _, rfl⟩
      | some r =>
        rw [Option.getD_some, Option.getD_some]
        obtain ⟨ok, ds, rfl⟩ := tou_some er
        walk_at "go"
        rw [if_neg (show ¬ (isN (D.tup ds) = true) from Bool.false_ne_true)]
        walk_at "go"
        refine ro_neD (ok.ok (by decide)) (ok.ok (by decide)) ?_
        rw [eqv_self ok]
        refine ⟨_, rfl, ?_⟩
        simp only [Bool.not_true, Bool.false_eq_true, if_false, if_true]
        walk_at "go"
        exact ⟨rfl, _, _, rfl⟩
    rintro τ' μ2 ⟨rfl, o8, o9, rfl⟩
    dsimp only
    have gtB : ((μA.del q4).set q4 (.lst (tx.map D.str))) pt = some (.lst (ts.map touD)) := by rw [del_set gA]; exact gtA
    have gbB : ((μA.del q4).set q4 (.lst (tx.map D.str))) b = some (.lst [.int c4, .int m4]) := by rw [del_set gA]; exact gbA
    generalize (μA.del q4).set q4 (.lst (tx.map D.str)) = μB at gtB gbB ⊢
    clear gA gtA gbA hzA
    refine s_seq ?_
    refine s_for (ai_T ?_)
    walk_at "go"
    refine ⟨fun j τ' μ2 => μ2 = μB ∧ ∃ o10 : Option D, τ' = [some (D.rol (List.map D.int ns)), some (D.int ↑i), some (D.ref b), some (D.ref pt), o4, some (D.ref pw),
          some (D.str (touT ts)), some (D.ref q4), o8, o9, o10, o11, o12, o13, o14], ⟨rfl, o10, rfl⟩, ?_, ?_⟩
    · rintro j e τ' μ2 he ⟨rfl, o10, rfl⟩
      have kind : ∃ n, tyn μ2 e = some n ∧ kitB n "str" = some false := by
        have he := List.mem_of_getElem? he
        simp only [List.mem_cons, List.not_mem_nil, or_false] at he
        rcases he with rfl | rfl | rfl | rfl | rfl | rfl
        · exact ⟨"NoneType", rfl, by decide +kernel⟩
        · exact ⟨"int", rfl, by decide +kernel⟩
        · exact ⟨"bool", rfl, by decide +kernel⟩
        · exact ⟨"tuple", rfl, by decide +kernel⟩
        · exact ⟨"list", by unfold tyn; simp only; rw [gtB], by decide +kernel⟩
        · exact ⟨"tuple", rfl, by decide +kernel⟩
      obtain ⟨n, hn, hk⟩ := kind
      walk_at "go"
      refine ⟨_, n, false, rfl, hn, hk, fun _ => ?_, fun h => (by cases h)⟩
      walk_at "go"
      rw [if_neg (by simp)]
      walk_at "go"
      exact ⟨rfl, _, rfl⟩
    rintro τ' μ2 ⟨rfl, o10, rfl⟩
    dsimp only [id]
    walk_at "go"
    refine ⟨b, c4, m4, rfl, gbB, hm4, fun ps c5 m5 okp few9 hm5 => ?_⟩
    walk_at "go"
    refine ⟨ps, rfl, okp, few9, ?_⟩
    walk_at "go"
    refine m_joinV (a := " ") ?_
    walk_at "go"
    refine ⟨rfl, ?_⟩
    refine a_lc1 (fun d => .str (plS (ofPl d))) (fun _ => true) (ai_T ?_)
    walk_at "go"
    refine ⟨by rw [List.length_map]; exact Nat.lt_of_le_of_lt few9 (by decide), fun x hx => at_yes ⟨rfl, rfl⟩, fun x hx _ => ?_, fun l hl => ?_⟩
    · obtain ⟨p, hp, rfl⟩ := List.mem_map.mp hx
      obtain ⟨h0, h1⟩ := okp p hp
      walk_at "nf"
      walk_at "go"
      refine ⟨p, rfl, h0, h1, ?_⟩
      exact ⟨rfl, rfl⟩
    rw [List.filter_eq_self.mpr (fun _ _ => rfl), List.map_map, show ps.map ((fun d => D.str (plS (ofPl d))) ∘ plD) = (ps.map plS).map D.str from by rw [List.map_map]; rfl]
    refine ⟨ps.map plS, seq_ref set_same, ?_, ?_⟩
    · have := sum_le (ws := ps.map plS) (k := 127) fun w hw => by
        obtain ⟨t, ht', rfl⟩ := List.mem_map.mp hw
        exact plS_len (okp t ht').1 (okp t ht').2
      rw [List.length_map] at this ⊢
      rw [show (" " : Str).length = 1 from rfl]
      omega
    walk_at "go"
    rw [if_neg (by simp)]
    walk_at "go"
    exact ⟨_, _, _, _, _, _, _, _, _, _, _, _, _, _, rfl⟩
end
theorem all_mk {l : PySem.W.OpenLaw} {w : World} {K : PySem.W.Frag} {h : Heap} {mg : Str → Option Value} {fa : Addr} (X : K.In h) (G : h.Ns mainGlobals mg) (hfa : mg "law" = some (.ref fa))
    {f1 f2 f3 f4 f5 f6 f7 f8 f9 f10 f11 f12 f13 f14 f15 f16 f17 f18 : Addr}
    {od1 an1 od2 an2 od3 an3 od4 an4 od5 an5 od6 an6 od7 an7 od8 an8 od9 an9 od10 an10 od11 an11 od12 an12 od13 an13 od14 an14 od15 an15 od16 an16 od17 an17 od18 an18 : Option Addr}
    {sl1 sl2 sl3 sl4 sl5 sl6 sl7 sl8 sl9 sl10 sl11 sl12 sl13 sl14 sl15 sl16 sl17 sl18 : Array (Option Value)}
    {oc1 dc1 pm1 cd1 ct1 oc2 kV2 dc2 pm2 cd2 ct2 oc3 kV3 dc3 pm3 cd3 ct3 oc4 kV4 dc4 pm4 cd4 ct4 oc5 kV5 dc5 pm5 cd5 ct5 oc6 kV6 dc6 pm6 cd6 ct6 oc7 kV7 dc7 pm7 cd7 ct7 oc8 kV8 dc8 pm8 cd8 ct8 oc9 kV9 dc9 pm9 cd9 ct9 oc10 kV10 dc10 pm10 cd10 ct10 oc11 kV11 dc11 pm11 cd11 ct11 oc12 kV12 dc12 pm12 cd12 ct12 oc13 kV13 dc13 pm13 cd13 ct13 oc14 kV14 dc14 pm14 cd14 ct14 oc15 kV15 dc15 pm15 cd15 ct15 oc16 kV16 dc16 pm16 cd16 ct16 oc17 kV17 dc17 pm17 cd17 ct17 oc18 kV18 dc18 pm18 cd18 ct18 : Value}
    {C_NoText : Addr}
    {C_BoardError : Addr}
    {C_Crossed : Addr}
    {C_NoBoard : Addr}
    {C_NoFraction : Addr}
    {C_NoGate : Addr}
    {C_NoLayer : Addr}
    {C_NoLine : Addr}
    {C_NoNet : Addr}
    {C_NoNets : Addr}
    {C_NoPin : Addr}
    {C_NoRoom : Addr}
    {C_NoRoute : Addr}
    {C_NoRow : Addr}
    {C_NoWay : Addr}
    {C_NoWire : Addr}
    {C_Taken : Addr}
    {C_Undone : Addr}
    {tk_FIGURES : Tok}
    {C_SIDES : Addr} {n_SIDES : Nat} {h_SIDES0 h_SIDES1 : Int} {t_SIDES0 u_SIDES0 t_SIDES1 u_SIDES1 : Tok}
    {D1 : Addr}
    {tk1_figures : Tok}
    (aC_NoText : PySem.W.nsIn K mainGlobals "NoText" = some (some (.ref C_NoText)))
    (kc_NoText : PySem.W.keepIn K (.ref C_NoText) = true)
    (eC_NoText : PySem.W.subIn K (.ref C_NoText) (.type "BaseException") = some true)
    (tC_NoText : PySem.W.typeIn K (.ref C_NoText) = some (.type "type"))
    (iS_NoText : PySem.W.isClsIn K C_NoText = true)
    (q_NoText : PySem.W.excIn K C_NoText [.type "ValueError", .type "Exception", .type "BaseException", .type "object"] "ValueError.__new__" = true)
    (sub_NoText_NoText : PySem.W.subIn K (.ref C_NoText) (.ref C_NoText) = some true)
    (aC_BoardError : PySem.W.nsIn K mainGlobals "BoardError" = some (some (.ref C_BoardError)))
    (aC_Crossed : PySem.W.nsIn K mainGlobals "Crossed" = some (some (.ref C_Crossed)))
    (aC_NoBoard : PySem.W.nsIn K mainGlobals "NoBoard" = some (some (.ref C_NoBoard)))
    (aC_NoFraction : PySem.W.nsIn K mainGlobals "NoFraction" = some (some (.ref C_NoFraction)))
    (aC_NoGate : PySem.W.nsIn K mainGlobals "NoGate" = some (some (.ref C_NoGate)))
    (aC_NoLayer : PySem.W.nsIn K mainGlobals "NoLayer" = some (some (.ref C_NoLayer)))
    (aC_NoLine : PySem.W.nsIn K mainGlobals "NoLine" = some (some (.ref C_NoLine)))
    (aC_NoNet : PySem.W.nsIn K mainGlobals "NoNet" = some (some (.ref C_NoNet)))
    (aC_NoNets : PySem.W.nsIn K mainGlobals "NoNets" = some (some (.ref C_NoNets)))
    (aC_NoPin : PySem.W.nsIn K mainGlobals "NoPin" = some (some (.ref C_NoPin)))
    (aC_NoRoom : PySem.W.nsIn K mainGlobals "NoRoom" = some (some (.ref C_NoRoom)))
    (aC_NoRoute : PySem.W.nsIn K mainGlobals "NoRoute" = some (some (.ref C_NoRoute)))
    (aC_NoRow : PySem.W.nsIn K mainGlobals "NoRow" = some (some (.ref C_NoRow)))
    (aC_NoWay : PySem.W.nsIn K mainGlobals "NoWay" = some (some (.ref C_NoWay)))
    (aC_NoWire : PySem.W.nsIn K mainGlobals "NoWire" = some (some (.ref C_NoWire)))
    (aC_Taken : PySem.W.nsIn K mainGlobals "Taken" = some (some (.ref C_Taken)))
    (aC_Undone : PySem.W.nsIn K mainGlobals "Undone" = some (some (.ref C_Undone)))
    (xg_NoText : PySem.W.findIn K (.ref C_NoText) "__getattribute__" = some (some (.builtin "BaseException.__getattribute__")))
    (xk_NoText : PySem.W.findIn K (.ref C_NoText) "__getattr__" = some none)
    (xd_NoText : PySem.W.hasDictIn K C_NoText = true)
    (xa_NoText : PySem.W.findIn K (.ref C_NoText) "__class__" = some (some (.builtin "object.__class__")))
    (xn_NoText : PySem.W.specialIn K (.builtin "object.__class__") "__get__" = some (some (.builtin "getset_descriptor.__get__")))
    (xt_NoText : PySem.W.takesIn K (.builtin "object.__class__") = some true)
    (xm_NoText : PySem.W.mroIn K C_NoText (.type "object") = some true)
    (xs_NoText : PySem.W.subIn K (.ref C_NoText) (.ref C_NoText) = some true)
    (yi_BoardError : PySem.W.isClsIn K C_BoardError = true)
    (yt_BoardError : PySem.W.typeIn K (.ref C_BoardError) = some (.type "type"))
    (yi_Crossed : PySem.W.isClsIn K C_Crossed = true)
    (yt_Crossed : PySem.W.typeIn K (.ref C_Crossed) = some (.type "type"))
    (yi_NoBoard : PySem.W.isClsIn K C_NoBoard = true)
    (yt_NoBoard : PySem.W.typeIn K (.ref C_NoBoard) = some (.type "type"))
    (yi_NoFraction : PySem.W.isClsIn K C_NoFraction = true)
    (yt_NoFraction : PySem.W.typeIn K (.ref C_NoFraction) = some (.type "type"))
    (yi_NoGate : PySem.W.isClsIn K C_NoGate = true)
    (yt_NoGate : PySem.W.typeIn K (.ref C_NoGate) = some (.type "type"))
    (yi_NoLayer : PySem.W.isClsIn K C_NoLayer = true)
    (yt_NoLayer : PySem.W.typeIn K (.ref C_NoLayer) = some (.type "type"))
    (yi_NoLine : PySem.W.isClsIn K C_NoLine = true)
    (yt_NoLine : PySem.W.typeIn K (.ref C_NoLine) = some (.type "type"))
    (yi_NoNet : PySem.W.isClsIn K C_NoNet = true)
    (yt_NoNet : PySem.W.typeIn K (.ref C_NoNet) = some (.type "type"))
    (yi_NoNets : PySem.W.isClsIn K C_NoNets = true)
    (yt_NoNets : PySem.W.typeIn K (.ref C_NoNets) = some (.type "type"))
    (yi_NoPin : PySem.W.isClsIn K C_NoPin = true)
    (yt_NoPin : PySem.W.typeIn K (.ref C_NoPin) = some (.type "type"))
    (yi_NoRoom : PySem.W.isClsIn K C_NoRoom = true)
    (yt_NoRoom : PySem.W.typeIn K (.ref C_NoRoom) = some (.type "type"))
    (yi_NoRoute : PySem.W.isClsIn K C_NoRoute = true)
    (yt_NoRoute : PySem.W.typeIn K (.ref C_NoRoute) = some (.type "type"))
    (yi_NoRow : PySem.W.isClsIn K C_NoRow = true)
    (yt_NoRow : PySem.W.typeIn K (.ref C_NoRow) = some (.type "type"))
    (yi_NoText : PySem.W.isClsIn K C_NoText = true)
    (yt_NoText : PySem.W.typeIn K (.ref C_NoText) = some (.type "type"))
    (yi_NoWay : PySem.W.isClsIn K C_NoWay = true)
    (yt_NoWay : PySem.W.typeIn K (.ref C_NoWay) = some (.type "type"))
    (yi_NoWire : PySem.W.isClsIn K C_NoWire = true)
    (yt_NoWire : PySem.W.typeIn K (.ref C_NoWire) = some (.type "type"))
    (yi_Taken : PySem.W.isClsIn K C_Taken = true)
    (yt_Taken : PySem.W.typeIn K (.ref C_Taken) = some (.type "type"))
    (yi_Undone : PySem.W.isClsIn K C_Undone = true)
    (yt_Undone : PySem.W.typeIn K (.ref C_Undone) = some (.type "type"))
    (ys_NoText_BoardError : PySem.W.subIn K (.ref C_NoText) (.ref C_BoardError) = some true)
    (ys_NoText_Crossed : PySem.W.subIn K (.ref C_NoText) (.ref C_Crossed) = some false)
    (ys_NoText_NoBoard : PySem.W.subIn K (.ref C_NoText) (.ref C_NoBoard) = some false)
    (ys_NoText_NoFraction : PySem.W.subIn K (.ref C_NoText) (.ref C_NoFraction) = some false)
    (ys_NoText_NoGate : PySem.W.subIn K (.ref C_NoText) (.ref C_NoGate) = some false)
    (ys_NoText_NoLayer : PySem.W.subIn K (.ref C_NoText) (.ref C_NoLayer) = some false)
    (ys_NoText_NoLine : PySem.W.subIn K (.ref C_NoText) (.ref C_NoLine) = some false)
    (ys_NoText_NoNet : PySem.W.subIn K (.ref C_NoText) (.ref C_NoNet) = some false)
    (ys_NoText_NoNets : PySem.W.subIn K (.ref C_NoText) (.ref C_NoNets) = some false)
    (ys_NoText_NoPin : PySem.W.subIn K (.ref C_NoText) (.ref C_NoPin) = some false)
    (ys_NoText_NoRoom : PySem.W.subIn K (.ref C_NoText) (.ref C_NoRoom) = some false)
    (ys_NoText_NoRoute : PySem.W.subIn K (.ref C_NoText) (.ref C_NoRoute) = some false)
    (ys_NoText_NoRow : PySem.W.subIn K (.ref C_NoText) (.ref C_NoRow) = some false)
    (ys_NoText_NoText : PySem.W.subIn K (.ref C_NoText) (.ref C_NoText) = some true)
    (ys_NoText_NoWay : PySem.W.subIn K (.ref C_NoText) (.ref C_NoWay) = some false)
    (ys_NoText_NoWire : PySem.W.subIn K (.ref C_NoText) (.ref C_NoWire) = some false)
    (ys_NoText_Taken : PySem.W.subIn K (.ref C_NoText) (.ref C_Taken) = some false)
    (ys_NoText_Undone : PySem.W.subIn K (.ref C_NoText) (.ref C_Undone) = some false)
    (ys_NoText_ValueError : PySem.W.subIn K (.ref C_NoText) (.type "ValueError") = some true)
    (v_FIGURES : PySem.W.nsIn K mainGlobals "FIGURES" = some (some (.str "0123456789" tk_FIGURES)))
    (v_SIDES : PySem.W.nsIn K mainGlobals "SIDES" = some (some (.ref C_SIDES)))
    (dl_SIDES : K.lookup C_SIDES = some ⟨.type "dict", none, .dict #[⟨h_SIDES0, .str "L" t_SIDES0, .str "left" u_SIDES0⟩, ⟨h_SIDES1, .str "R" t_SIDES1, .str "right" u_SIDES1⟩] n_SIDES, #[]⟩)
    (dk_SIDES : PySem.W.KeysLit w.params [⟨h_SIDES0, .str "L" t_SIDES0, .str "left" u_SIDES0⟩, ⟨h_SIDES1, .str "R" t_SIDES1, .str "right" u_SIDES1⟩])
    (dn_SIDES : (C_SIDES == sysModules) = false)
    (a1 : PySem.W.nsIn K mainGlobals "number_in" = some (some (.ref f1)))
    (l1 : K.lookup f1 = some ⟨oc1, od1, .func (PySem.W.fnOf "number_in" "number_in" (defArgs s_number_in) (defBody s_number_in) (defScope s_number_in) .none (.ref D1) dc1 pm1 an1 cd1 ct1), sl1⟩)
    (c1 : PySem.W.codeIn K cd1 "number_in" = true)
    (k1 : PySem.W.keepIn K (.ref f1) = true)
    (d1_figures : PySem.W.nsIn K D1 "figures" = some (some (.int 4 tk1_figures)))
    (a2 : PySem.W.nsIn K mainGlobals "show_touched" = some (some (.ref f2)))
    (l2 : K.lookup f2 = some ⟨oc2, od2, .func (PySem.W.fnOf "show_touched" "show_touched" (defArgs s_show_touched) (defBody s_show_touched) (defScope s_show_touched) .none kV2 dc2 pm2 an2 cd2 ct2), sl2⟩)
    (c2 : PySem.W.codeIn K cd2 "show_touched" = true)
    (k2 : PySem.W.keepIn K (.ref f2) = true)
    (a3 : PySem.W.nsIn K mainGlobals "show_fraction" = some (some (.ref f3)))
    (l3 : K.lookup f3 = some ⟨oc3, od3, .func (PySem.W.fnOf "show_fraction" "show_fraction" (defArgs s_show_fraction) (defBody s_show_fraction) (defScope s_show_fraction) .none kV3 dc3 pm3 an3 cd3 ct3), sl3⟩)
    (c3 : PySem.W.codeIn K cd3 "show_fraction" = true)
    (k3 : PySem.W.keepIn K (.ref f3) = true)
    (a4 : PySem.W.nsIn K mainGlobals "show_line" = some (some (.ref f4)))
    (l4 : K.lookup f4 = some ⟨oc4, od4, .func (PySem.W.fnOf "show_line" "show_line" (defArgs s_show_line) (defBody s_show_line) (defScope s_show_line) .none kV4 dc4 pm4 an4 cd4 ct4), sl4⟩)
    (c4 : PySem.W.codeIn K cd4 "show_line" = true)
    (k4 : PySem.W.keepIn K (.ref f4) = true)
    (a5 : PySem.W.nsIn K mainGlobals "read_touched" = some (some (.ref f5)))
    (l5 : K.lookup f5 = some ⟨oc5, od5, .func (PySem.W.fnOf "read_touched" "read_touched" (defArgs s_read_touched) (defBody s_read_touched) (defScope s_read_touched) .none kV5 dc5 pm5 an5 cd5 ct5), sl5⟩)
    (c5 : PySem.W.codeIn K cd5 "read_touched" = true)
    (k5 : PySem.W.keepIn K (.ref f5) = true)
    (a6 : PySem.W.nsIn K mainGlobals "_law_bag" = some (some (.ref f6)))
    (l6 : K.lookup f6 = some ⟨oc6, od6, .func (PySem.W.fnOf "_law_bag" "_law_bag" (defArgs s_l_bag) (defBody s_l_bag) (defScope s_l_bag) .none kV6 dc6 pm6 an6 cd6 ct6), sl6⟩)
    (c6 : PySem.W.codeIn K cd6 "_law_bag" = true)
    (k6 : PySem.W.keepIn K (.ref f6) = true)
    (a7 : PySem.W.nsIn K mainGlobals "_law_take" = some (some (.ref f7)))
    (l7 : K.lookup f7 = some ⟨oc7, od7, .func (PySem.W.fnOf "_law_take" "_law_take" (defArgs s_l_take) (defBody s_l_take) (defScope s_l_take) .none kV7 dc7 pm7 an7 cd7 ct7), sl7⟩)
    (c7 : PySem.W.codeIn K cd7 "_law_take" = true)
    (k7 : PySem.W.keepIn K (.ref f7) = true)
    (a8 : PySem.W.nsIn K mainGlobals "_law_sign" = some (some (.ref f8)))
    (l8 : K.lookup f8 = some ⟨oc8, od8, .func (PySem.W.fnOf "_law_sign" "_law_sign" (defArgs s_l_sign) (defBody s_l_sign) (defScope s_l_sign) .none kV8 dc8 pm8 an8 cd8 ct8), sl8⟩)
    (c8 : PySem.W.codeIn K cd8 "_law_sign" = true)
    (k8 : PySem.W.keepIn K (.ref f8) = true)
    (a9 : PySem.W.nsIn K mainGlobals "_law_bent" = some (some (.ref f9)))
    (l9 : K.lookup f9 = some ⟨oc9, od9, .func (PySem.W.fnOf "_law_bent" "_law_bent" (defArgs s_l_bent) (defBody s_l_bent) (defScope s_l_bent) .none kV9 dc9 pm9 an9 cd9 ct9), sl9⟩)
    (c9 : PySem.W.codeIn K cd9 "_law_bent" = true)
    (k9 : PySem.W.keepIn K (.ref f9) = true)
    (a10 : PySem.W.nsIn K mainGlobals "_law_word_bent" = some (some (.ref f10)))
    (l10 : K.lookup f10 = some ⟨oc10, od10, .func (PySem.W.fnOf "_law_word_bent" "_law_word_bent" (defArgs s_l_word_bent) (defBody s_l_word_bent) (defScope s_l_word_bent) .none kV10 dc10 pm10 an10 cd10 ct10), sl10⟩)
    (c10 : PySem.W.codeIn K cd10 "_law_word_bent" = true)
    (k10 : PySem.W.keepIn K (.ref f10) = true)
    (a11 : PySem.W.nsIn K mainGlobals "_law_number" = some (some (.ref f11)))
    (l11 : K.lookup f11 = some ⟨oc11, od11, .func (PySem.W.fnOf "_law_number" "_law_number" (defArgs s_l_number) (defBody s_l_number) (defScope s_l_number) .none kV11 dc11 pm11 an11 cd11 ct11), sl11⟩)
    (c11 : PySem.W.codeIn K cd11 "_law_number" = true)
    (k11 : PySem.W.keepIn K (.ref f11) = true)
    (a12 : PySem.W.nsIn K mainGlobals "_law_alone" = some (some (.ref f12)))
    (l12 : K.lookup f12 = some ⟨oc12, od12, .func (PySem.W.fnOf "_law_alone" "_law_alone" (defArgs s_l_alone) (defBody s_l_alone) (defScope s_l_alone) .none kV12 dc12 pm12 an12 cd12 ct12), sl12⟩)
    (c12 : PySem.W.codeIn K cd12 "_law_alone" = true)
    (k12 : PySem.W.keepIn K (.ref f12) = true)
    (a13 : PySem.W.nsIn K mainGlobals "_law_read" = some (some (.ref f13)))
    (l13 : K.lookup f13 = some ⟨oc13, od13, .func (PySem.W.fnOf "_law_read" "_law_read" (defArgs s_l_read) (defBody s_l_read) (defScope s_l_read) .none kV13 dc13 pm13 an13 cd13 ct13), sl13⟩)
    (c13 : PySem.W.codeIn K cd13 "_law_read" = true)
    (k13 : PySem.W.keepIn K (.ref f13) = true)
    (a14 : PySem.W.nsIn K mainGlobals "_law_low" = some (some (.ref f14)))
    (l14 : K.lookup f14 = some ⟨oc14, od14, .func (PySem.W.fnOf "_law_low" "_law_low" (defArgs s_l_low) (defBody s_l_low) (defScope s_l_low) .none kV14 dc14 pm14 an14 cd14 ct14), sl14⟩)
    (c14 : PySem.W.codeIn K cd14 "_law_low" = true)
    (k14 : PySem.W.keepIn K (.ref f14) = true)
    (a15 : PySem.W.nsIn K mainGlobals "_law_touched_in" = some (some (.ref f15)))
    (l15 : K.lookup f15 = some ⟨oc15, od15, .func (PySem.W.fnOf "_law_touched_in" "_law_touched_in" (defArgs s_l_touched_in) (defBody s_l_touched_in) (defScope s_l_touched_in) .none kV15 dc15 pm15 an15 cd15 ct15), sl15⟩)
    (c15 : PySem.W.codeIn K cd15 "_law_touched_in" = true)
    (k15 : PySem.W.keepIn K (.ref f15) = true)
    (a16 : PySem.W.nsIn K mainGlobals "_law_written" = some (some (.ref f16)))
    (l16 : K.lookup f16 = some ⟨oc16, od16, .func (PySem.W.fnOf "_law_written" "_law_written" (defArgs s_l_written) (defBody s_l_written) (defScope s_l_written) .none kV16 dc16 pm16 an16 cd16 ct16), sl16⟩)
    (c16 : PySem.W.codeIn K cd16 "_law_written" = true)
    (k16 : PySem.W.keepIn K (.ref f16) = true)
    (a17 : PySem.W.nsIn K mainGlobals "_law_some_line" = some (some (.ref f17)))
    (l17 : K.lookup f17 = some ⟨oc17, od17, .func (PySem.W.fnOf "_law_some_line" "_law_some_line" (defArgs s_l_some_line) (defBody s_l_some_line) (defScope s_l_some_line) .none kV17 dc17 pm17 an17 cd17 ct17), sl17⟩)
    (c17 : PySem.W.codeIn K cd17 "_law_some_line" = true)
    (k17 : PySem.W.keepIn K (.ref f17) = true)
    (a18 : PySem.W.nsIn K mainGlobals "law" = some (some (.ref f18)))
    (l18 : K.lookup f18 = some ⟨oc18, od18, .func (PySem.W.fnOf "law" "law" (defArgs s_law) (defBody s_law) (defScope s_law) .none kV18 dc18 pm18 an18 cd18 ct18), sl18⟩)
    (c18 : PySem.W.codeIn K cd18 "law" = true)
    (k18 : PySem.W.keepIn K (.ref f18) = true)
    (z_ValueError : PySem.W.nsIn K mainGlobals "ValueError" = some none)
    (z_abs : PySem.W.nsIn K mainGlobals "abs" = some none)
    (z_all : PySem.W.nsIn K mainGlobals "all" = some none)
    (z_int : PySem.W.nsIn K mainGlobals "int" = some none)
    (z_isinstance : PySem.W.nsIn K mainGlobals "isinstance" = some none)
    (z_len : PySem.W.nsIn K mainGlobals "len" = some none)
    (z_max : PySem.W.nsIn K mainGlobals "max" = some none)
    (z_min : PySem.W.nsIn K mainGlobals "min" = some none)
    (z_range : PySem.W.nsIn K mainGlobals "range" = some none)
    (z_str : PySem.W.nsIn K mainGlobals "str" = some none)
    (z_tuple : PySem.W.nsIn K mainGlobals "tuple" = some none) :
    ∃ fd : FuncData, (∀ (s : Shared) (v : Value), BindsTo s fd ⟨[v], []⟩ [("_law_script", v)]) ∧ ∀ base : Heap, K.In base → base.Ns mainGlobals mg → FnOk l.prog w K mg base CX0 6 fa fd ["_law_script"] (spI K P_law) := by
  have e := hfa.symm.trans (PySem.W.mg_of X G a18)
  cases e
  have B : Bs mg := ⟨PySem.W.mg_none_of X G z_ValueError, PySem.W.mg_none_of X G z_abs, PySem.W.mg_none_of X G z_all, PySem.W.mg_none_of X G z_int, PySem.W.mg_none_of X G z_isinstance, PySem.W.mg_none_of X G z_len, PySem.W.mg_none_of X G z_max, PySem.W.mg_none_of X G z_min, PySem.W.mg_none_of X G z_range, PySem.W.mg_none_of X G z_str, PySem.W.mg_none_of X G z_tuple⟩
  have V_FIGURES : Cst mg "FIGURES" (.str "0123456789") := ⟨_, PySem.W.mg_of X G v_FIGURES, ⟨_, rfl⟩⟩
  have V_SIDES : Cst mg "SIDES" (.ref C_SIDES) := ⟨_, PySem.W.mg_of X G v_SIDES, rfl⟩
  have D_SIDES : WDict K w C_SIDES [("L", "left"), ("R", "right")] := wdict2 dl_SIDES dk_SIDES dn_SIDES
  have V_read_touched : Cst mg "read_touched" (.ref f5) := ⟨_, PySem.W.mg_of X G a5, rfl⟩
  have X_NoText : ExcC K C_NoText := ⟨xg_NoText, xk_NoText, eC_NoText, xd_NoText, xa_NoText, xn_NoText, xt_NoText, xm_NoText⟩
  have V_BoardError : Cst mg "BoardError" (.ref C_BoardError) := ⟨_, PySem.W.mg_of X G aC_BoardError, rfl⟩
  have V_Crossed : Cst mg "Crossed" (.ref C_Crossed) := ⟨_, PySem.W.mg_of X G aC_Crossed, rfl⟩
  have V_NoBoard : Cst mg "NoBoard" (.ref C_NoBoard) := ⟨_, PySem.W.mg_of X G aC_NoBoard, rfl⟩
  have V_NoFraction : Cst mg "NoFraction" (.ref C_NoFraction) := ⟨_, PySem.W.mg_of X G aC_NoFraction, rfl⟩
  have V_NoGate : Cst mg "NoGate" (.ref C_NoGate) := ⟨_, PySem.W.mg_of X G aC_NoGate, rfl⟩
  have V_NoLayer : Cst mg "NoLayer" (.ref C_NoLayer) := ⟨_, PySem.W.mg_of X G aC_NoLayer, rfl⟩
  have V_NoLine : Cst mg "NoLine" (.ref C_NoLine) := ⟨_, PySem.W.mg_of X G aC_NoLine, rfl⟩
  have V_NoNet : Cst mg "NoNet" (.ref C_NoNet) := ⟨_, PySem.W.mg_of X G aC_NoNet, rfl⟩
  have V_NoNets : Cst mg "NoNets" (.ref C_NoNets) := ⟨_, PySem.W.mg_of X G aC_NoNets, rfl⟩
  have V_NoPin : Cst mg "NoPin" (.ref C_NoPin) := ⟨_, PySem.W.mg_of X G aC_NoPin, rfl⟩
  have V_NoRoom : Cst mg "NoRoom" (.ref C_NoRoom) := ⟨_, PySem.W.mg_of X G aC_NoRoom, rfl⟩
  have V_NoRoute : Cst mg "NoRoute" (.ref C_NoRoute) := ⟨_, PySem.W.mg_of X G aC_NoRoute, rfl⟩
  have V_NoRow : Cst mg "NoRow" (.ref C_NoRow) := ⟨_, PySem.W.mg_of X G aC_NoRow, rfl⟩
  have V_NoText : Cst mg "NoText" (.ref C_NoText) := ⟨_, PySem.W.mg_of X G aC_NoText, rfl⟩
  have V_NoWay : Cst mg "NoWay" (.ref C_NoWay) := ⟨_, PySem.W.mg_of X G aC_NoWay, rfl⟩
  have V_NoWire : Cst mg "NoWire" (.ref C_NoWire) := ⟨_, PySem.W.mg_of X G aC_NoWire, rfl⟩
  have V_Taken : Cst mg "Taken" (.ref C_Taken) := ⟨_, PySem.W.mg_of X G aC_Taken, rfl⟩
  have V_Undone : Cst mg "Undone" (.ref C_Undone) := ⟨_, PySem.W.mg_of X G aC_Undone, rfl⟩
  have Q_NoText_BoardError : PySem.W.kitOne K (.ref C_NoText) (.ref C_BoardError) = some true := kit_own xs_NoText yi_BoardError yt_BoardError ys_NoText_BoardError
  have Q_NoText_Crossed : PySem.W.kitOne K (.ref C_NoText) (.ref C_Crossed) = some false := kit_own xs_NoText yi_Crossed yt_Crossed ys_NoText_Crossed
  have Q_NoText_NoBoard : PySem.W.kitOne K (.ref C_NoText) (.ref C_NoBoard) = some false := kit_own xs_NoText yi_NoBoard yt_NoBoard ys_NoText_NoBoard
  have Q_NoText_NoFraction : PySem.W.kitOne K (.ref C_NoText) (.ref C_NoFraction) = some false := kit_own xs_NoText yi_NoFraction yt_NoFraction ys_NoText_NoFraction
  have Q_NoText_NoGate : PySem.W.kitOne K (.ref C_NoText) (.ref C_NoGate) = some false := kit_own xs_NoText yi_NoGate yt_NoGate ys_NoText_NoGate
  have Q_NoText_NoLayer : PySem.W.kitOne K (.ref C_NoText) (.ref C_NoLayer) = some false := kit_own xs_NoText yi_NoLayer yt_NoLayer ys_NoText_NoLayer
  have Q_NoText_NoLine : PySem.W.kitOne K (.ref C_NoText) (.ref C_NoLine) = some false := kit_own xs_NoText yi_NoLine yt_NoLine ys_NoText_NoLine
  have Q_NoText_NoNet : PySem.W.kitOne K (.ref C_NoText) (.ref C_NoNet) = some false := kit_own xs_NoText yi_NoNet yt_NoNet ys_NoText_NoNet
  have Q_NoText_NoNets : PySem.W.kitOne K (.ref C_NoText) (.ref C_NoNets) = some false := kit_own xs_NoText yi_NoNets yt_NoNets ys_NoText_NoNets
  have Q_NoText_NoPin : PySem.W.kitOne K (.ref C_NoText) (.ref C_NoPin) = some false := kit_own xs_NoText yi_NoPin yt_NoPin ys_NoText_NoPin
  have Q_NoText_NoRoom : PySem.W.kitOne K (.ref C_NoText) (.ref C_NoRoom) = some false := kit_own xs_NoText yi_NoRoom yt_NoRoom ys_NoText_NoRoom
  have Q_NoText_NoRoute : PySem.W.kitOne K (.ref C_NoText) (.ref C_NoRoute) = some false := kit_own xs_NoText yi_NoRoute yt_NoRoute ys_NoText_NoRoute
  have Q_NoText_NoRow : PySem.W.kitOne K (.ref C_NoText) (.ref C_NoRow) = some false := kit_own xs_NoText yi_NoRow yt_NoRow ys_NoText_NoRow
  have Q_NoText_NoText : PySem.W.kitOne K (.ref C_NoText) (.ref C_NoText) = some true := kit_own xs_NoText yi_NoText yt_NoText ys_NoText_NoText
  have Q_NoText_NoWay : PySem.W.kitOne K (.ref C_NoText) (.ref C_NoWay) = some false := kit_own xs_NoText yi_NoWay yt_NoWay ys_NoText_NoWay
  have Q_NoText_NoWire : PySem.W.kitOne K (.ref C_NoText) (.ref C_NoWire) = some false := kit_own xs_NoText yi_NoWire yt_NoWire ys_NoText_NoWire
  have Q_NoText_Taken : PySem.W.kitOne K (.ref C_NoText) (.ref C_Taken) = some false := kit_own xs_NoText yi_Taken yt_Taken ys_NoText_Taken
  have Q_NoText_Undone : PySem.W.kitOne K (.ref C_NoText) (.ref C_Undone) = some false := kit_own xs_NoText yi_Undone yt_Undone ys_NoText_Undone
  have Q_NoText_ValueError : PySem.W.kitOne K (.ref C_NoText) (.type "ValueError") = some true := kit_bt (by decide +kernel) ys_NoText_ValueError
  have H_NoText_NoText := exm_pair eC_NoText iS_NoText tC_NoText sub_NoText_NoText
  have F1 : FunD K "number_in" "number_in" (defArgs s_number_in) (defBody s_number_in) (defScope s_number_in) [] [("figures", .int 4)] f1 _ := ⟨⟨oc1, od1, .none, .ref D1, dc1, pm1, an1, cd1, ct1, sl1, rfl, l1, c1, .inl ⟨rfl, rfl⟩, .inr ⟨D1, rfl, fun q hq => by
    simp only [List.mem_cons, List.not_mem_nil, or_false] at hq
    rcases hq with rfl
    · exact ⟨_, d1_figures, ⟨_, rfl⟩⟩⟩⟩, k1⟩
  have F2 := fun_mk (st := s_show_touched) l2 c2 k2
  have F3 := fun_mk (st := s_show_fraction) l3 c3 k3
  have F4 := fun_mk (st := s_show_line) l4 c4 k4
  have F5 := fun_mk (st := s_read_touched) l5 c5 k5
  have F6 := fun_mk (st := s_l_bag) l6 c6 k6
  have F7 := fun_mk (st := s_l_take) l7 c7 k7
  have F8 := fun_mk (st := s_l_sign) l8 c8 k8
  have F9 := fun_mk (st := s_l_bent) l9 c9 k9
  have F10 := fun_mk (st := s_l_word_bent) l10 c10 k10
  have F11 := fun_mk (st := s_l_number) l11 c11 k11
  have F12 := fun_mk (st := s_l_alone) l12 c12 k12
  have F13 := fun_mk (st := s_l_read) l13 c13 k13
  have F14 := fun_mk (st := s_l_low) l14 c14 k14
  have F15 := fun_mk (st := s_l_touched_in) l15 c15 k15
  have F16 := fun_mk (st := s_l_written) l16 c16 k16
  have F17 := fun_mk (st := s_l_some_line) l17 c17 k17
  have F18 := fun_mk (st := s_law) l18 c18 k18
  refine ⟨PySem.W.fnOf "law" "law" (defArgs s_law) (defBody s_law) (defScope s_law) .none kV18 dc18 pm18 an18 cd18 ct18, fun s v => .of_eq rfl, fun base _ _ => ?_⟩
  have E_NoText : Exc0 K mg "NoText" C_NoText := ⟨⟨"ValueError", _, _, XO.tlVE, PySem.F.excBase_ValueError, q_NoText⟩, PySem.W.mg_of X G aC_NoText, kc_NoText, eC_NoText, tC_NoText⟩
  have O1 := ok_number_in (P := l.prog) (w := w) (base := base) F1 B V_FIGURES
  obtain ⟨g1_0, hb1_0⟩ := kbn_of (ps := ["word", "figures"]) F1 1 [] [("figures", .int 4)] [(false, 0)] (by simp) (by simp) (fun D doc pm an cdv ct us mv ws h1 h2 h3 => match us, mv, ws, h1, h2, h3 with | [_], [_], [], _, _, _ => ⟨_, _, _, _, _, _, rfl, rfl, rfl⟩)
  have N_number_in_1 : DefN l.prog w K mg base "number_in" ["word", "figures"] 1 [] [(false, 0)] [.int 4] 1 (spI K P_number_in) := ⟨f1, _, g1_0, fn_lift O1, PySem.W.mg_of X G a1, k1, hb1_0⟩
  have b2 := F2.binds (ps := ["touched"]) fun _ _ _ _ _ _ us hl => match us, hl with | [_], _ => rfl
  have G2 : Def l.prog w K mg base "show_touched" ["touched"] 1 (spI K P_show_touched) := ⟨f2, _, ok_show_touched F2 B, PySem.W.mg_of X G a2, k2, b2⟩
  have b3 := F3.binds (ps := ["one"]) fun _ _ _ _ _ _ us hl => match us, hl with | [_], _ => rfl
  have G3 : Def l.prog w K mg base "show_fraction" ["one"] 1 (spI K P_show_fraction) := ⟨f3, _, ok_show_fraction F3 B, PySem.W.mg_of X G a3, k3, b3⟩
  have b4 := F4.binds (ps := ["places"]) fun _ _ _ _ _ _ us hl => match us, hl with | [_], _ => rfl
  have G4 : Def l.prog w K mg base "show_line" ["places"] 2 (spI K P_show_line) := ⟨f4, _, ok_show_line F4 B G3, PySem.W.mg_of X G a4, k4, b4⟩
  have b5 := F5.binds (ps := ["text"]) fun _ _ _ _ _ _ us hl => match us, hl with | [_], _ => rfl
  have G5 : DefX l.prog w K mg base "read_touched" ["text"] 3 (spX K (xn mg) P_read_touched) := ⟨f5, _, ok_read_touched F5 B E_NoText V_SIDES D_SIDES N_number_in_1, PySem.W.mg_of X G a5, k5, b5⟩
  have b6 := F6.binds (ps := ["_law_script", "_law_at"]) fun _ _ _ _ _ _ us hl => match us, hl with | [_, _], _ => rfl
  have G6 : Def l.prog w K mg base "_law_bag" ["_law_script", "_law_at"] 2 (spI K P_l_bag) := ⟨f6, _, ok_l_bag F6 B, PySem.W.mg_of X G a6, k6, b6⟩
  have b7 := F7.binds (ps := ["_law_bag_here", "_law_many"]) fun _ _ _ _ _ _ us hl => match us, hl with | [_, _], _ => rfl
  have G7 : Def l.prog w K mg base "_law_take" ["_law_bag_here", "_law_many"] 1 (spI K P_l_take) := ⟨f7, _, ok_l_take F7 B, PySem.W.mg_of X G a7, k7, b7⟩
  have b8 := F8.binds (ps := ["_law_bag_here", "_law_most"]) fun _ _ _ _ _ _ us hl => match us, hl with | [_, _], _ => rfl
  have G8 : Def l.prog w K mg base "_law_sign" ["_law_bag_here", "_law_most"] 3 (spI K P_l_sign) := ⟨f8, _, ok_l_sign F8 B G7, PySem.W.mg_of X G a8, k8, b8⟩
  have b9 := F9.binds (ps := ["_law_bag_here", "_law_text"]) fun _ _ _ _ _ _ us hl => match us, hl with | [_, _], _ => rfl
  have G9 : Def l.prog w K mg base "_law_bent" ["_law_bag_here", "_law_text"] 4 (spI K P_l_bent) := ⟨f9, _, ok_l_bent F9 B G8 G7, PySem.W.mg_of X G a9, k9, b9⟩
  have b10 := F10.binds (ps := ["_law_bag_here", "_law_text"]) fun _ _ _ _ _ _ us hl => match us, hl with | [_, _], _ => rfl
  have G10 : Def l.prog w K mg base "_law_word_bent" ["_law_bag_here", "_law_text"] 3 (spI K P_l_word_bent) := ⟨f10, _, ok_l_word_bent F10 B G7, PySem.W.mg_of X G a10, k10, b10⟩
  have b11 := F11.binds (ps := ["_law_word", "_law_most"]) fun _ _ _ _ _ _ us hl => match us, hl with | [_, _], _ => rfl
  have G11 : Def l.prog w K mg base "_law_number" ["_law_word", "_law_most"] 2 (spI K P_l_number) := ⟨f11, _, ok_l_number F11 B, PySem.W.mg_of X G a11, k11, b11⟩
  have b12 := F12.binds (ps := ["_law_e"]) fun _ _ _ _ _ _ us hl => match us, hl with | [_], _ => rfl
  have G12 : DefE l.prog w K mg base "_law_alone" "_law_e" 1 (spE K (P_l_alone C_NoText)) := ⟨f12, _, ok_l_alone F12 B X_NoText V_BoardError V_Crossed V_NoBoard V_NoFraction V_NoGate V_NoLayer V_NoLine V_NoNet V_NoNets V_NoPin V_NoRoom V_NoRoute V_NoRow V_NoText V_NoWay V_NoWire V_Taken V_Undone Q_NoText_BoardError Q_NoText_Crossed Q_NoText_NoBoard Q_NoText_NoFraction Q_NoText_NoGate Q_NoText_NoLayer Q_NoText_NoLine Q_NoText_NoNet Q_NoText_NoNets Q_NoText_NoPin Q_NoText_NoRoom Q_NoText_NoRoute Q_NoText_NoRow Q_NoText_NoText Q_NoText_NoWay Q_NoText_NoWire Q_NoText_Taken Q_NoText_Undone Q_NoText_ValueError, PySem.W.mg_of X G a12, k12, b12⟩
  have b13 := F13.binds (ps := ["_law_reader", "_law_text"]) fun _ _ _ _ _ _ us hl => match us, hl with | [_, _], _ => rfl
  have G13 : Def l.prog w K mg base "_law_read" ["_law_reader", "_law_text"] 5 (spI K (P_l_read f5)) := ⟨f13, _, ok_l_read F13 B E_NoText V_read_touched H_NoText_NoText G12 G5, PySem.W.mg_of X G a13, k13, b13⟩
  have b14 := F14.binds (ps := ["_law_over", "_law_under"]) fun _ _ _ _ _ _ us hl => match us, hl with | [_, _], _ => rfl
  have G14 : Def l.prog w K mg base "_law_low" ["_law_over", "_law_under"] 2 (spI K P_l_low) := ⟨f14, _, ok_l_low F14 B, PySem.W.mg_of X G a14, k14, b14⟩
  have b15 := F15.binds (ps := ["_law_text"]) fun _ _ _ _ _ _ us hl => match us, hl with | [_], _ => rfl
  have G15 : Def l.prog w K mg base "_law_touched_in" ["_law_text"] 4 (spI K P_l_touched_in) := ⟨f15, _, ok_l_touched_in F15 B G11, PySem.W.mg_of X G a15, k15, b15⟩
  have b16 := F16.binds (ps := ["_law_place"]) fun _ _ _ _ _ _ us hl => match us, hl with | [_], _ => rfl
  have G16 : Def l.prog w K mg base "_law_written" ["_law_place"] 2 (spI K P_l_written) := ⟨f16, _, ok_l_written F16 B, PySem.W.mg_of X G a16, k16, b16⟩
  have b17 := F17.binds (ps := ["_law_bag_here"]) fun _ _ _ _ _ _ us hl => match us, hl with | [_], _ => rfl
  have G17 : Def l.prog w K mg base "_law_some_line" ["_law_bag_here"] 3 (spI K P_l_some_line) := ⟨f17, _, ok_l_some_line F17 B G14 G7, PySem.W.mg_of X G a17, k17, b17⟩
  exact ok_law F18 B V_read_touched G6 G9 G13 G17 G7 G15 G10 G16 G4 G2
theorem walk {l : PySem.W.OpenLaw} {q : Program} {loose : List Str} {XP : (Str → Option Value) → Heap → Prop} {YP : World → Heap → Prop} {d : DefRec} {K : Params → PySem.W.Frag} (hn : l.most = some 63) (hdf : d.params.defaults = [])
    (hY : ∀ (w : World) (h : Heap), YP w h → (K w.params).In h)
    (F : ∀ (w : World) (mg : Str → Option Value) (fa : Addr) (h : Heap), (K w.params).In h → h.Ns mainGlobals mg → mg d.name = some (.ref fa) →
      ∃ fd : FuncData, (∀ (s : Shared) (u : Value), BindsTo s fd ⟨[u], []⟩ [("_law_script", u)]) ∧ ∀ base : Heap, (K w.params).In base → base.Ns mainGlobals mg → FnOk l.prog w (K w.params) mg base CX0 6 fa fd ["_law_script"] (spI (K w.params) P_law)) :
    PySem.W.WalkO q loose XP YP l.row.toRowW d [] (fun f vs => PySem.call f vs) :=
  L2.walk_of (n := 63) (k := 6) (x := "_law_script") (CX := fun _ => CX0) (sp := fun w => spI (K w.params) P_law) hn (by decide) hdf ⟨rfl, by decide, by decide⟩ hY F (fun _ _ a ns hl hO hS => law_start hl hO hS) fun _ _ _ _ _ z => z
end W
open PySem PySem.W PyProof.Rows in
set_option maxRecDepth 100000 in
set_option maxHeartbeats 0 in
theorem PySem.Challenge.cw_rubberroutes_k68_texts_of_touched_and_li_holds : PySem.Challenge.rw_rubberroutes_k68_texts_of_touched_and_li.Holds := by
  w_on; o_law; k_head; (case hw => w_witness2)
  k_fill
  refine W.walk (l := PySem.Challenge.rw_rubberroutes_k68_texts_of_touched_and_li) rfl rfl (fun w h Y => by first | exact PySem.W.kIn_of Y | exact PySem.W.km_in_of Y) ?F
  case F =>
    intro w mg fa h KX G hmg
    refine' W.all_mk KX G hmg ?aC_NoText ?kc_NoText ?eC_NoText ?tC_NoText ?iS_NoText ?q_NoText ?sub_NoText_NoText ?aC_BoardError ?aC_Crossed ?aC_NoBoard ?aC_NoFraction ?aC_NoGate ?aC_NoLayer ?aC_NoLine ?aC_NoNet ?aC_NoNets ?aC_NoPin ?aC_NoRoom ?aC_NoRoute ?aC_NoRow ?aC_NoWay ?aC_NoWire ?aC_Taken ?aC_Undone ?xg_NoText ?xk_NoText ?xd_NoText ?xa_NoText ?xn_NoText ?xt_NoText ?xm_NoText ?xs_NoText ?yi_BoardError ?yt_BoardError ?yi_Crossed ?yt_Crossed ?yi_NoBoard ?yt_NoBoard ?yi_NoFraction ?yt_NoFraction ?yi_NoGate ?yt_NoGate ?yi_NoLayer ?yt_NoLayer ?yi_NoLine ?yt_NoLine ?yi_NoNet ?yt_NoNet ?yi_NoNets ?yt_NoNets ?yi_NoPin ?yt_NoPin ?yi_NoRoom ?yt_NoRoom ?yi_NoRoute ?yt_NoRoute ?yi_NoRow ?yt_NoRow ?yi_NoText ?yt_NoText ?yi_NoWay ?yt_NoWay ?yi_NoWire ?yt_NoWire ?yi_Taken ?yt_Taken ?yi_Undone ?yt_Undone ?ys_NoText_BoardError ?ys_NoText_Crossed ?ys_NoText_NoBoard ?ys_NoText_NoFraction ?ys_NoText_NoGate ?ys_NoText_NoLayer ?ys_NoText_NoLine ?ys_NoText_NoNet ?ys_NoText_NoNets ?ys_NoText_NoPin ?ys_NoText_NoRoom ?ys_NoText_NoRoute ?ys_NoText_NoRow ?ys_NoText_NoText ?ys_NoText_NoWay ?ys_NoText_NoWire ?ys_NoText_Taken ?ys_NoText_Undone ?ys_NoText_ValueError ?v_FIGURES ?v_SIDES ?dl_SIDES ?dk_SIDES ?dn_SIDES ?a1 ?l1 ?c1 ?k1 ?d1_figures ?a2 ?l2 ?c2 ?k2 ?a3 ?l3 ?c3 ?k3 ?a4 ?l4 ?c4 ?k4 ?a5 ?l5 ?c5 ?k5 ?a6 ?l6 ?c6 ?k6 ?a7 ?l7 ?c7 ?k7 ?a8 ?l8 ?c8 ?k8 ?a9 ?l9 ?c9 ?k9 ?a10 ?l10 ?c10 ?k10 ?a11 ?l11 ?c11 ?k11 ?a12 ?l12 ?c12 ?k12 ?a13 ?l13 ?c13 ?k13 ?a14 ?l14 ?c14 ?k14 ?a15 ?l15 ?c15 ?k15 ?a16 ?l16 ?c16 ?k16 ?a17 ?l17 ?c17 ?k17 ?a18 ?l18 ?c18 ?k18 ?z_ValueError ?z_abs ?z_all ?z_int ?z_isinstance ?z_len ?z_max ?z_min ?z_range ?z_str ?z_tuple
    (case aC_NoText => k_is)
    (case kc_NoText => k_is)
    (case eC_NoText => k_is)
    (case tC_NoText => k_is)
    (case iS_NoText => k_is)
    (case q_NoText => k_exc)
    (case sub_NoText_NoText => k_is)
    (case aC_BoardError => k_is)
    (case aC_Crossed => k_is)
    (case aC_NoBoard => k_is)
    (case aC_NoFraction => k_is)
    (case aC_NoGate => k_is)
    (case aC_NoLayer => k_is)
    (case aC_NoLine => k_is)
    (case aC_NoNet => k_is)
    (case aC_NoNets => k_is)
    (case aC_NoPin => k_is)
    (case aC_NoRoom => k_is)
    (case aC_NoRoute => k_is)
    (case aC_NoRow => k_is)
    (case aC_NoWay => k_is)
    (case aC_NoWire => k_is)
    (case aC_Taken => k_is)
    (case aC_Undone => k_is)
    (case xg_NoText => k_is)
    (case xk_NoText => k_is)
    (case xd_NoText => k_is)
    (case xa_NoText => k_is)
    (case xn_NoText => k_is)
    (case xt_NoText => k_is)
    (case xm_NoText => k_is)
    (case xs_NoText => k_is)
    (case yi_BoardError => k_is)
    (case yt_BoardError => k_is)
    (case yi_Crossed => k_is)
    (case yt_Crossed => k_is)
    (case yi_NoBoard => k_is)
    (case yt_NoBoard => k_is)
    (case yi_NoFraction => k_is)
    (case yt_NoFraction => k_is)
    (case yi_NoGate => k_is)
    (case yt_NoGate => k_is)
    (case yi_NoLayer => k_is)
    (case yt_NoLayer => k_is)
    (case yi_NoLine => k_is)
    (case yt_NoLine => k_is)
    (case yi_NoNet => k_is)
    (case yt_NoNet => k_is)
    (case yi_NoNets => k_is)
    (case yt_NoNets => k_is)
    (case yi_NoPin => k_is)
    (case yt_NoPin => k_is)
    (case yi_NoRoom => k_is)
    (case yt_NoRoom => k_is)
    (case yi_NoRoute => k_is)
    (case yt_NoRoute => k_is)
    (case yi_NoRow => k_is)
    (case yt_NoRow => k_is)
    (case yi_NoText => k_is)
    (case yt_NoText => k_is)
    (case yi_NoWay => k_is)
    (case yt_NoWay => k_is)
    (case yi_NoWire => k_is)
    (case yt_NoWire => k_is)
    (case yi_Taken => k_is)
    (case yt_Taken => k_is)
    (case yi_Undone => k_is)
    (case yt_Undone => k_is)
    (case ys_NoText_BoardError => k_is)
    (case ys_NoText_Crossed => k_is)
    (case ys_NoText_NoBoard => k_is)
    (case ys_NoText_NoFraction => k_is)
    (case ys_NoText_NoGate => k_is)
    (case ys_NoText_NoLayer => k_is)
    (case ys_NoText_NoLine => k_is)
    (case ys_NoText_NoNet => k_is)
    (case ys_NoText_NoNets => k_is)
    (case ys_NoText_NoPin => k_is)
    (case ys_NoText_NoRoom => k_is)
    (case ys_NoText_NoRoute => k_is)
    (case ys_NoText_NoRow => k_is)
    (case ys_NoText_NoText => k_is)
    (case ys_NoText_NoWay => k_is)
    (case ys_NoText_NoWire => k_is)
    (case ys_NoText_Taken => k_is)
    (case ys_NoText_Undone => k_is)
    (case ys_NoText_ValueError => k_is)
    (case v_FIGURES => k_is)
    (case v_SIDES => k_is)
    (case dl_SIDES => k_is)
    (case dk_SIDES => k_keys)
    (case dn_SIDES => exact rfl)
    (case a1 => k_is)
    (case l1 => k_is)
    (case c1 => k_is)
    (case k1 => k_is)
    (case d1_figures => k_is)
    (case a2 => k_is)
    (case l2 => k_is)
    (case c2 => k_is)
    (case k2 => k_is)
    (case a3 => k_is)
    (case l3 => k_is)
    (case c3 => k_is)
    (case k3 => k_is)
    (case a4 => k_is)
    (case l4 => k_is)
    (case c4 => k_is)
    (case k4 => k_is)
    (case a5 => k_is)
    (case l5 => k_is)
    (case c5 => k_is)
    (case k5 => k_is)
    (case a6 => k_is)
    (case l6 => k_is)
    (case c6 => k_is)
    (case k6 => k_is)
    (case a7 => k_is)
    (case l7 => k_is)
    (case c7 => k_is)
    (case k7 => k_is)
    (case a8 => k_is)
    (case l8 => k_is)
    (case c8 => k_is)
    (case k8 => k_is)
    (case a9 => k_is)
    (case l9 => k_is)
    (case c9 => k_is)
    (case k9 => k_is)
    (case a10 => k_is)
    (case l10 => k_is)
    (case c10 => k_is)
    (case k10 => k_is)
    (case a11 => k_is)
    (case l11 => k_is)
    (case c11 => k_is)
    (case k11 => k_is)
    (case a12 => k_is)
    (case l12 => k_is)
    (case c12 => k_is)
    (case k12 => k_is)
    (case a13 => k_is)
    (case l13 => k_is)
    (case c13 => k_is)
    (case k13 => k_is)
    (case a14 => k_is)
    (case l14 => k_is)
    (case c14 => k_is)
    (case k14 => k_is)
    (case a15 => k_is)
    (case l15 => k_is)
    (case c15 => k_is)
    (case k15 => k_is)
    (case a16 => k_is)
    (case l16 => k_is)
    (case c16 => k_is)
    (case k16 => k_is)
    (case a17 => k_is)
    (case l17 => k_is)
    (case c17 => k_is)
    (case k17 => k_is)
    (case a18 => k_is)
    (case l18 => k_is)
    (case c18 => k_is)
    (case k18 => k_is)
    (case z_ValueError => k_is)
    (case z_abs => k_is)
    (case z_all => k_is)
    (case z_int => k_is)
    (case z_isinstance => k_is)
    (case z_len => k_is)
    (case z_max => k_is)
    (case z_min => k_is)
    (case z_range => k_is)
    (case z_str => k_is)
    (case z_tuple => k_is)
