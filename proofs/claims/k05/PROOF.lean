import PyProof.Rows.All
import Wide.All
import OpenK.AllK
import Wide.FinOn
import HandS.ForMost
import HandS.Wide
import HandS.IsInst
import HandS.Deep
import HandS.Style
import HandS.Zip
import HandS.Defaults
import HandS.TryOnly
import HandS.Zip0
import KE.KDictZip
import KE.KItemsList
import HandS.ListItems
import HandS.TupAny
import HandS.ExcOwn
import HandS.Lambda
import HandS.ExcInit
import HandS.WordsExc
import HandS.MakeKwOnly
import HandS.ExcField
import HandS.HotCalls
import HandS.SetBool
import HandS.TupSets
import HandS.Flt
import KE.SortData
import HandS.SuiteRaise
import HandS.RaiseFrom
import PyProof.NsDelKeeps
import HandS.ExcIs
import KE.KTryMore
import HandS.Nested
import HandS.EndTab
import HandS.SortKw
import KE.SortKeyHeap
import KE.GoesEnumKw
import KE.DataCmp
import HandS.Conv
import HandS.Style
import KE.KNestM
import HandS.DictComp
import HandS.TryMany
import PyProof.StrOps2
import HandS.DictTup
import PyProof.TupleOfSeq
import KE.DataMinMax
import KE.GoesMore
import KE.GoesZip
import KE.GoesEnum
import HandS.TupMul
import HandS.ListItems
import KE.KDictSum
import KE.DataFind
import HandS.Text
import HandS.FStr
import HandS.More
import KE.KUnpackStar
import HandS.SetFor
import HandS.Strs
import KE.KCallOwn
import HandS.SlotsOwn
import HandS.OwnEq
import HandS.WordsDict
import HandS.SuiteRaise
import KE.KEqDict
import PySem.Challenge.RW_rubberroutes_k05_boards_told
set_option Elab.async false
set_option linter.all false
set_option maxRecDepth 100000
set_option maxHeartbeats 4000000
namespace Z
open PySem L2
inductive D where
  | non | bl (b : Bool) | int (i : Int) | str (s : Str) | ty (n : String) | tup (ds : List D) | rol (ds : List D) | ref (a : Addr)
inductive MO where
  | lst (ds : List D) | dK (kvs : List (Key × D)) | dT (kvs : List (List Key × D)) | ins (C dx : Addr) (fs : List (Str × D)) | xd (fs : List (Str × D)) | fT (od : Obj) (vs : List (List Key × V)) (kvs : List (List Key × D)) | fK (od : Obj) (vs : List (Key × V)) (kvs : List (Key × D)) | fTp (od : Obj) (ds : List D) | xo (od : Obj) (C : Addr) | tab (q : Str)
abbrev M := Addr → Option MO
def M.set (μ : M) (a : Addr) (m : MO) : M := fun b => if b = a then some m else μ b
theorem set_same {μ : M} {a : Addr} {m : MO} : μ.set a m a = some m := by unfold M.set; rw [if_pos rfl]
theorem set_ne {μ : M} {a b : Addr} {m : MO} (h : b ≠ a) : μ.set a m b = μ b := by unfold M.set; rw [if_neg h]
theorem set_set {μ : M} {a : Addr} {m m' : MO} : (μ.set a m).set a m' = μ.set a m' := by
  funext b; unfold M.set; split <;> rfl
inductive TupAt (K : PySem.W.Frag) (H : Hp) (a : Addr) (xs : List V) : Prop
  | inl (h : H a = some (.tup xs)) : TupAt K H a xs
def RolAt (K : PySem.W.Frag) (H : Hp) (a : Addr) (xs : List V) : Prop :=
  (∃ o, H a = some (.frz o (.lst xs))) ∨ ∃ (o : Obj) (its : Array Value) (n : Nat), K.lookup a = some o ∧ o.cls = .type "list" ∧ o.dict = none ∧ o.data = .seq its n ∧ its.size ≤ sizeLine ∧ Vals xs its.toList
theorem TupAt.sq {K : PySem.W.Frag} {H : Hp} {a : Addr} {xs : List V} (h : TupAt K H a xs) : SqT K H a xs := by
  cases h with
  | inl h => exact .inl (.inl h)
theorem RolAt.sq {K : PySem.W.Frag} {H : Hp} {a : Addr} {xs : List V} (h : RolAt K H a xs) : SqL K H a xs := by
  rcases h with ⟨o, h⟩ | h
  · exact .inl (.inr ⟨o, h⟩)
  · exact .inr h
mutual
inductive Rel (K : PySem.W.Frag) (H : Hp) : V → D → Prop
  | non : Rel K H .non .non
  | bl (b : Bool) : Rel K H (.bl b) (.bl b)
  | int (i : Int) : Rel K H (.int i) (.int i)
  | str (s : Str) : Rel K H (.str s) (.str s)
  | ty (n : String) : Rel K H (.ty n) (.ty n)
  | ref (a : Addr) : Rel K H (.ref a) (.ref a)
  | tup {a : Addr} {xs : List V} {ds : List D} : TupAt K H a xs → Rels K H xs ds → Rel K H (.ref a) (.tup ds)
  | rol {a : Addr} {xs : List V} {ds : List D} : RolAt K H a xs → Rels K H xs ds → Rel K H (.ref a) (.rol ds)
inductive Rels (K : PySem.W.Frag) (H : Hp) : List V → List D → Prop
  | nil : Rels K H [] []
  | cons {v : V} {vs : List V} {d : D} {ds : List D} : Rel K H v d → Rels K H vs ds → Rels K H (v :: vs) (d :: ds)
end
/-- field lists, pair lists -/
def RelKV {κ : Type} (K : PySem.W.Frag) (H : Hp) : List (κ × V) → List (κ × D) → Prop := Paired fun p q => p.1 = q.1 ∧ Rel K H p.2 q.2
def MRel (K : PySem.W.Frag) (H : Hp) (a : Addr) : MO → Prop
  | .lst ds => ∃ vs, H a = some (.lst vs) ∧ Rels K H vs ds
  | .dK kvs => ∃ vs, H a = some (.dK vs) ∧ RelKV K H vs kvs
  | .dT kvs => ∃ vs, H a = some (.dT vs) ∧ RelKV K H vs kvs
  | .ins C dx fs => ∃ vs, H a = some (.ins C dx vs) ∧ RelKV K H vs fs
  | .xd fs => ∃ vs, H a = some (.xd vs) ∧ RelKV K H vs fs
  | .fT od us kvs => ∃ vs, H a = some (.frz od (.dT vs)) ∧ RelKV K H vs kvs ∧ vs = us
  | .fK od us kvs => ∃ vs, H a = some (.frz od (.dK vs)) ∧ RelKV K H vs kvs ∧ vs = us
  | .fTp od ds => ∃ vs, H a = some (.frz od (.tup vs)) ∧ Rels K H vs ds ∧ od.dict = none
  | .xo od C => ∃ z : Addr, H a = some (.frz od (.own z)) ∧ od.cls = .ref C ∧ ∃ vs, od.data = .fields vs
  | .tab q => ∃ ps : Array Value, H a = some (.tbl ps) ∧ TriplesOk ps.toList ∧ ∀ (pos : Pos) (cv : Value), codeAmong pos ps.toList = some cv → ∃ c, cv = .ref c ∧ H c = some (LamX.CodeO c q)
def Con (K : PySem.W.Frag) (H : Hp) (μ : M) : Prop := ∀ a m, μ a = some m → MRel K H a m
abbrev T := List (Option D)
def Slots (K : PySem.W.Frag) (H : Hp) (τ : T) (σ : St) : Prop := τ.length = σ.length ∧ ∀ (i : Nat) (d : D), τ[i]? = some (some d) → ∃ v, σ[i]? = some (some v) ∧ Rel K H v d
/-- what is tracked outside of the store stays, and stays outside -/
def Fr (μ μ' : M) (H H' : Hp) : Prop := ∀ a o, μ a = none → H a = some o → H' a = some o ∧ μ' a = none
section
variable {K : PySem.W.Frag} {H H' H1 H2 : Hp} {μ μ' μ1 μ2 : M} {τ : T} {σ : St}
theorem Fr.refl : Fr μ μ H H := fun _ _ h e => ⟨e, h⟩
theorem Fr.trans (a : Fr μ μ1 H H1) (b : Fr μ1 μ2 H1 H2) : Fr μ μ2 H H2 := fun x o h e => let ⟨e1, h1⟩ := a x o h e; b x o h1 e1
/-- nothing of the store is lost that is still known -/
theorem Fr.same (h : ∀ a o, H a = some o → H' a = some o) : Fr μ μ H H' := fun a o n e => ⟨h a o e, n⟩
theorem Con.tn (c : Con K H μ) {a : Addr} {xs : List V} (e : H a = some (.tup xs)) : μ a = none := by
  cases q : μ a with
  | none => rfl
  | some m =>
    have r := c a m q
    cases m <;> (obtain ⟨vs, h, _⟩ := r; rw [e] at h; cases h)
theorem Con.fn (c : Con K H μ) {a : Addr} {o : Obj} {u : List V} (e : H a = some (.frz o (.lst u))) : μ a = none := by
  cases q : μ a with
  | none => rfl
  | some m =>
    have r := c a m q
    cases m <;> (obtain ⟨vs, h, _⟩ := r; rw [e] at h; cases h)
theorem Con.free (c : Con K H μ) {a : Addr} (e : H a = none) : μ a = none := by
  cases q : μ a with
  | none => rfl
  | some m =>
    have r := c a m q
    cases m <;> (obtain ⟨vs, h, _⟩ := r; rw [e] at h; cases h)
/-- tuples and read-only lists stay -/
structure Tx (H H' : Hp) : Prop where
  t : ∀ a xs, H a = some (.tup xs) → H' a = some (.tup xs)
  l : ∀ a o xs, H a = some (.frz o (.lst xs)) → H' a = some (.frz o (.lst xs))
  c : ∀ a q, H a = some (LamX.CodeO a q) → H' a = some (LamX.CodeO a q)
theorem Con.cn (c : Con K H μ) {a : Addr} {q : Str} (e : H a = some (LamX.CodeO a q)) : μ a = none := by
  cases h : μ a with
  | none => rfl
  | some m =>
    have r := c a m h
    unfold LamX.CodeO at e
    cases m <;> (obtain ⟨vs, h, _⟩ := r; rw [e] at h; cases h)
theorem Tx.refl : Tx H H := ⟨fun _ _ h => h, fun _ _ _ h => h, fun _ _ h => h⟩
theorem Tx.trans (a : Tx H H1) (b : Tx H1 H2) : Tx H H2 := ⟨fun x xs h => b.t x xs (a.t x xs h), fun x o xs h => b.l x o xs (a.l x o xs h), fun x q h => b.c x q (a.c x q h)⟩
theorem Fr.tx (f : Fr μ μ' H H') (c : Con K H μ) : Tx H H' := ⟨fun a xs e => (f a _ (c.tn e) e).1, fun a o xs e => (f a _ (c.fn e) e).1, fun a q e => (f a _ (c.cn e) e).1⟩
theorem TupAt.mono {a : Addr} {xs : List V} (t : Tx H H') (h : TupAt K H a xs) : TupAt K H' a xs := by
  cases h with
  | inl h => exact .inl (t.t _ _ h)
theorem RolAt.mono {a : Addr} {xs : List V} (t : Tx H H') (h : RolAt K H a xs) : RolAt K H' a xs := by
  rcases h with ⟨o, h⟩ | h
  · exact .inl ⟨o, t.l _ _ _ h⟩
  · exact .inr h
mutual
theorem Rel.mono (t : Tx H H') : ∀ (d : D) (v : V), Rel K H v d → Rel K H' v d
  | .non, _, .non => .non
  | .bl _, _, .bl b => .bl b
  | .int _, _, .int b => .int b
  | .str _, _, .str b => .str b
  | .ty _, _, .ty b => .ty b
  | .ref _, _, .ref b => .ref b
  | .tup ds, _, .tup h r => .tup (h.mono t) (Rels.mono t ds _ r)
  | .rol ds, _, .rol h r => .rol (h.mono t) (Rels.mono t ds _ r)
theorem Rels.mono (t : Tx H H') : ∀ (ds : List D) (vs : List V), Rels K H vs ds → Rels K H' vs ds
  | [], _, .nil => .nil
  | d :: ds, _, .cons a b => .cons (Rel.mono t d _ a) (Rels.mono t ds _ b)
end
theorem RelKV.mono {κ : Type} (t : Tx H H') : ∀ {xs : List (κ × V)} {ys : List (κ × D)}, RelKV K H xs ys → RelKV K H' xs ys
  | _, _, .nil => .nil
  | _, _, .cons a b => .cons ⟨a.1, Rel.mono t _ _ a.2⟩ (RelKV.mono t b)
theorem Slots.mono (t : Tx H H') (s : Slots K H τ σ) : Slots K H' τ σ := ⟨s.1, fun i d e => let ⟨v, h, r⟩ := s.2 i d e; ⟨v, h, Rel.mono t d v r⟩⟩
theorem Rels.length : ∀ {vs : List V} {ds : List D}, Rels K H vs ds → vs.length = ds.length
  | _, _, .nil => rfl
  | _, _, .cons _ b => by rw [List.length_cons, List.length_cons, Rels.length b]
theorem Rels.append : ∀ {vs ws : List V} {ds es : List D}, Rels K H vs ds → Rels K H ws es → Rels K H (vs ++ ws) (ds ++ es)
  | _, _, _, _, .nil, h => h
  | _, _, _, _, .cons a b, h => .cons a (Rels.append b h)
theorem Rels.get : ∀ {vs : List V} {ds : List D} {i : Nat} {d : D}, Rels K H vs ds → ds[i]? = some d → ∃ v, vs[i]? = some v ∧ Rel K H v d
  | _, _, i, d, .nil, e => by simp at e
  | _, _, 0, d, .cons a _, e => ⟨_, rfl, by simp at e; subst e; exact a⟩
  | _, _, i + 1, d, .cons _ b, e => by
    obtain ⟨v, h1, h2⟩ := Rels.get (i := i) (d := d) b (by simpa using e)
    exact ⟨v, by simpa using h1, h2⟩
theorem Rels.getV : ∀ {vs : List V} {ds : List D} {i : Nat} {v : V}, Rels K H vs ds → vs[i]? = some v → ∃ d, ds[i]? = some d ∧ Rel K H v d
  | _, _, i, d, .nil, e => by simp at e
  | _, _, 0, d, .cons a _, e => ⟨_, rfl, by simp at e; subst e; exact a⟩
  | _, _, i + 1, d, .cons _ b, e => by
    obtain ⟨v, h1, h2⟩ := Rels.getV (i := i) (v := d) b (by simpa using e)
    exact ⟨v, by simpa using h1, h2⟩
theorem Rels.set {v : V} {d : D} (r : Rel K H v d) : ∀ {vs : List V} {ds : List D} (i : Nat), Rels K H vs ds → Rels K H (vs.set i v) (ds.set i d)
  | _, _, _, .nil => .nil
  | _, _, 0, .cons _ b => .cons r b
  | _, _, i + 1, .cons a b => .cons a (Rels.set r i b)
theorem Rels.reverse : ∀ {vs : List V} {ds : List D}, Rels K H vs ds → Rels K H vs.reverse ds.reverse
  | _, _, .nil => .nil
  | _, _, .cons a b => by rw [List.reverse_cons, List.reverse_cons]; exact (Rels.reverse b).append (.cons a .nil)
theorem Rels.take : ∀ {vs : List V} {ds : List D} (n : Nat), Rels K H vs ds → Rels K H (vs.take n) (ds.take n)
  | _, _, 0, _ => .nil
  | _, _, _ + 1, .nil => .nil
  | _, _, n + 1, .cons a b => .cons a (Rels.take n b)
theorem Rels.drop : ∀ {vs : List V} {ds : List D} (n : Nat), Rels K H vs ds → Rels K H (vs.drop n) (ds.drop n)
  | _, _, 0, h => h
  | _, _, _ + 1, .nil => .nil
  | _, _, n + 1, .cons _ b => Rels.drop n b
theorem Slots.set {v : V} {d : D} (s : Slots K H τ σ) (r : Rel K H v d) (i : Nat) : Slots K H (τ.set i (some d)) (σ.set i (some v)) := by
  refine ⟨by rw [List.length_set, List.length_set]; exact s.1, fun j e h => ?_⟩
  by_cases hj : i = j
  · subst hj
    by_cases hi : i < τ.length
    · rw [List.getElem?_set_self hi] at h
      cases h
      exact ⟨v, by rw [List.getElem?_set_self (by rw [← s.1]; exact hi)], r⟩
    · rw [List.getElem?_eq_none (by rw [List.length_set]; omega)] at h; cases h
  · rw [List.getElem?_set_ne hj] at h
    obtain ⟨v', e', r'⟩ := s.2 j e h
    exact ⟨v', by rw [List.getElem?_set_ne hj]; exact e', r'⟩
/-- objects other than p are as they were: the store but p is borne again -/
theorem MRel.mono (t : Tx H H') {a : Addr} (e : H' a = H a) : ∀ {m : MO}, MRel K H a m → MRel K H' a m
  | .lst _, ⟨vs, h, r⟩ => ⟨vs, e.trans h, Rels.mono t _ _ r⟩
  | .dK _, ⟨vs, h, r⟩ => ⟨vs, e.trans h, RelKV.mono t r⟩
  | .dT _, ⟨vs, h, r⟩ => ⟨vs, e.trans h, RelKV.mono t r⟩
  | .ins _ _ _, ⟨vs, h, r⟩ => ⟨vs, e.trans h, RelKV.mono t r⟩
  | .xd _, ⟨vs, h, r⟩ => ⟨vs, e.trans h, RelKV.mono t r⟩
  | .fT _ _ _, ⟨vs, h, r, z⟩ => ⟨vs, e.trans h, RelKV.mono t r, z⟩
  | .fK _ _ _, ⟨vs, h, r, z⟩ => ⟨vs, e.trans h, RelKV.mono t r, z⟩
  | .fTp _ _, ⟨vs, h, r, z⟩ => ⟨vs, e.trans h, Rels.mono t _ _ r, z⟩
  | .xo _ _, ⟨u, h, r⟩ => ⟨u, e.trans h, r⟩
  | .tab _, ⟨ps, h, z, r⟩ => ⟨ps, e.trans h, z, fun pos cv q => let ⟨c, e1, e2⟩ := r pos cv q; ⟨c, e1, t.c _ _ e2⟩⟩
/-- a new untracked-by-the-store object -/
theorem tx_new {p : Addr} {o : HO} (n : H p = none) : Tx H (upd H p o) := ⟨fun a xs e => by rw [upd_ne (ne_of_none e n)]; exact e, fun a ob xs e => by rw [upd_ne (ne_of_none e n)]; exact e, fun a q e => by rw [upd_ne (ne_of_none e n)]; exact e⟩
theorem con_new {p : Addr} {o : HO} (n : H p = none) (c : Con K H μ) : Con K (upd H p o) μ := fun a m e => by
  have ha : a ≠ p := fun z => by subst z; rw [c.free n] at e; cases e
  exact (c a m e).mono (tx_new n) (upd_ne ha)
theorem fr_new {p : Addr} {o : HO} (n : H p = none) : Fr μ μ H (upd H p o) := fun a u h e => ⟨by rw [upd_ne (ne_of_none e n)]; exact e, h⟩
/-- .. and in the store -/
theorem con_put {p : Addr} {o : HO} {m : MO} (n : H p = none) (c : Con K H μ) (r : MRel K (upd H p o) p m) : Con K (upd H p o) (μ.set p m) := fun a m' e => by
  by_cases ha : a = p
  · subst ha; rw [set_same] at e; cases e; exact r
  · rw [set_ne ha] at e
    exact (c a m' e).mono (tx_new n) (upd_ne ha)
theorem fr_put {p : Addr} {o : HO} {m : MO} (n : H p = none) : Fr μ (μ.set p m) H (upd H p o) := fun a u h e => by
  have ha : a ≠ p := ne_of_none e n
  exact ⟨by rw [upd_ne ha]; exact e, by rw [set_ne ha]; exact h⟩
/-- an object of the store is changed -/
theorem tx_mut {p : Addr} {o : HO} {m : MO} (c : Con K H μ) (h : μ p = some m) : Tx H (upd H p o) :=
  ⟨fun a xs e => by rw [upd_ne (fun z => by subst z; rw [c.tn e] at h; cases h)]; exact e, fun a ob xs e => by rw [upd_ne (fun z => by subst z; rw [c.fn e] at h; cases h)]; exact e, fun a q e => by rw [upd_ne (fun z => by subst z; rw [c.cn e] at h; cases h)]; exact e⟩
theorem con_mut {p : Addr} {o : HO} {m m' : MO} (c : Con K H μ) (h : μ p = some m) (r : MRel K (upd H p o) p m') : Con K (upd H p o) (μ.set p m') := fun a u e => by
  by_cases ha : a = p
  · subst ha; rw [set_same] at e; cases e; exact r
  · rw [set_ne ha] at e
    exact (c a u e).mono (tx_mut c h) (upd_ne ha)
theorem fr_mut {p : Addr} {o : HO} {m m' : MO} (h : μ p = some m) : Fr μ (μ.set p m') H (upd H p o) := fun a u n e => by
  have ha : a ≠ p := fun z => by subst z; rw [n] at h; cases h
  exact ⟨by rw [upd_ne ha]; exact e, by rw [set_ne ha]; exact n⟩
/-- the store forgotten in part -/
def Sub (μ μ' : M) : Prop := ∀ a m, μ a = some m → μ' a = some m
theorem Sub.refl : Sub μ μ := fun _ _ h => h
theorem Sub.trans (a : Sub μ μ1) (b : Sub μ1 μ2) : Sub μ μ2 := fun x m h => b x m (a x m h)
theorem Sub.set {p : Addr} {m : MO} (h : μ p = none) : Sub μ (μ.set p m) := fun a m' e => by rw [set_ne (fun z => by subst z; rw [h] at e; cases e)]; exact e
theorem Con.sub (s : Sub μ μ') (c : Con K H μ') : Con K H μ := fun a m e => c a m (s a m e)
theorem Sub.none (s : Sub μ μ') {a : Addr} (h : μ' a = Option.none) : μ a = Option.none := by
  cases q : μ a with
  | none => rfl
  | some m => rw [s a m q] at h; cases h
theorem Fr.sub (f : Fr μ μ1 H H1) (s : Sub μ2 μ1) : Fr μ μ2 H H1 := fun a o n e => let ⟨e1, h1⟩ := f a o n e; ⟨e1, s.none h1⟩
end
def AE (K : PySem.W.Frag) (t : TE) (τ : T) (μ : M) (Φ : D → M → Prop) : Prop :=
  ∀ σ H, Slots K H τ σ → Con K H μ → ∀ Q : VK, (∀ d μ' v H', Fr μ μ' H H' → Con K H' μ' → Rel K H' v d → Φ d μ' → Q v H') → t σ H Q
def AA (K : PySem.W.Frag) (t : TA) (τ : T) (μ : M) (Φ : List D → M → Prop) : Prop :=
  ∀ σ H, Slots K H τ σ → Con K H μ → ∀ Q : List V → Hp → Prop, (∀ d μ' v H', Fr μ μ' H H' → Con K H' μ' → Rels K H' v d → Φ d μ' → Q v H') → t σ H Q
def AT (K : PySem.W.Frag) (t : TT) (τ : T) (μ : M) (Φ : Bool → M → Prop) : Prop :=
  ∀ σ H, Slots K H τ σ → Con K H μ → ∀ Q : Bool → Hp → Prop, (∀ b μ' H', Fr μ μ' H H' → Con K H' μ' → Φ b μ' → Q b H') → t σ H Q
structure AEnds where
  nx : T → M → Prop
  rt : D → M → Prop
  bk : T → M → Prop := fun _ _ => False
  ct : T → M → Prop := fun _ _ => False
  /-- what is wished of an exception; what the names of classes stand for; what holds where one is raised -/
  W : WX := fun _ _ _ _ => False
  cn : Str → Option Value := fun _ => none
  xs : Str → Option Addr → T → M → Prop := fun _ _ _ _ => False
/-- the concrete ends that follow from the abstract ones -/
structure EndsOk (K : PySem.W.Frag) (N : AEnds) (μ : M) (H : Hp) (E : Ends) : Prop where
  nx : ∀ τ' μ' σ' H', Fr μ μ' H H' → Con K H' μ' → Slots K H' τ' σ' → N.nx τ' μ' → E.nx σ' H'
  rt : ∀ d μ' v H', Fr μ μ' H H' → Con K H' μ' → Rel K H' v d → N.rt d μ' → E.rt v H'
  bk : ∀ τ' μ' σ' H', Fr μ μ' H H' → Con K H' μ' → Slots K H' τ' σ' → N.bk τ' μ' → E.bk σ' H'
  ct : ∀ τ' μ' σ' H', Fr μ μ' H H' → Con K H' μ' → Slots K H' τ' σ' → N.ct τ' μ' → E.ct σ' H'
  wx : ∀ x dx τ' μ' cls σ' H', N.cn x = some cls → Fr μ μ' H H' → Con K H' μ' → Slots K H' τ' σ' → N.xs x dx τ' μ' → N.W cls dx σ' H'
def AS (K : PySem.W.Frag) (t : TS) (τ : T) (μ : M) (N : AEnds) : Prop :=
  ∀ σ H, Slots K H τ σ → Con K H μ → ∀ E : Ends, EndsOk K N μ H E → t E σ H
/-- a target -/
def AG (K : PySem.W.Frag) (g : TG) (d : D) (τ : T) (μ : M) (Φ : T → M → Prop) : Prop :=
  ∀ σ H v, Slots K H τ σ → Con K H μ → Rel K H v d → ∀ Q : St → Hp → Prop, (∀ τ' μ' σ' H', Fr μ μ' H H' → Con K H' μ' → Slots K H' τ' σ' → Φ τ' μ' → Q σ' H') → g v σ H Q
def AGs (K : PySem.W.Frag) (g : TGs) (ds : List D) (τ : T) (μ : M) (Φ : T → M → Prop) : Prop :=
  ∀ σ H vs, Slots K H τ σ → Con K H μ → Rels K H vs ds → ∀ Q : St → Hp → Prop, (∀ τ' μ' σ' H', Fr μ μ' H H' → Con K H' μ' → Slots K H' τ' σ' → Φ τ' μ' → Q σ' H') → g vs σ H Q
/-- an operation on values -/
def RO (K : PySem.W.Frag) (r : R2) (d e : D) (μ : M) (Φ : D → M → Prop) : Prop :=
  ∀ H x y, Con K H μ → Rel K H x d → Rel K H y e → ∀ Q : VK, (∀ z μ' v H', Fr μ μ' H H' → Con K H' μ' → Rel K H' v z → Φ z μ' → Q v H') → r x y H Q
def RU (K : PySem.W.Frag) (r : V → Hp → VK → Prop) (d : D) (μ : M) (Φ : D → M → Prop) : Prop :=
  ∀ H x, Con K H μ → Rel K H x d → ∀ Q : VK, (∀ z μ' v H', Fr μ μ' H H' → Con K H' μ' → Rel K H' v z → Φ z μ' → Q v H') → r x H Q
def RC (K : PySem.W.Frag) (r : List V → Hp → VK → Prop) (ds : List D) (μ : M) (Φ : D → M → Prop) : Prop :=
  ∀ H xs, Con K H μ → Rels K H xs ds → ∀ Q : VK, (∀ z μ' v H', Fr μ μ' H H' → Con K H' μ' → Rel K H' v z → Φ z μ' → Q v H') → r xs H Q
section
variable {K : PySem.W.Frag} {τ : T} {μ : M} {Φ Ψ : D → M → Prop} {ta tb te : TE} {r : R2} {t u : TT} {x y z d e : D}
theorem AE.imp (h : AE K te τ μ Φ) (k : ∀ d μ', Φ d μ' → Ψ d μ') : AE K te τ μ Ψ := fun σ H s c Q q => h σ H s c Q fun d μ' v H' f c' r p => q d μ' v H' f c' r (k d μ' p)
theorem AT.imp {Φ Ψ : Bool → M → Prop} (h : AT K t τ μ Φ) (k : ∀ d μ', Φ d μ' → Ψ d μ') : AT K t τ μ Ψ := fun σ H s c Q q => h σ H s c Q fun d μ' H' f c' p => q d μ' H' f c' (k d μ' p)
/-- a part of the store is forgotten -/
theorem AE.forget (h : AE K te τ μ fun d μ' => ∃ μ2, Sub μ2 μ' ∧ Φ d μ2) : AE K te τ μ Φ := fun σ H s c Q q => h σ H s c Q fun d μ' v H' f c' r ⟨μ2, sb, p⟩ => q d μ2 v H' (f.sub sb) (c'.sub sb) r p
theorem a_var {i : Nat} (h : τ[i]? = some (some d)) (q : Φ d μ) : AE K (tVar i) τ μ Φ := fun σ H s c Q k => by
  obtain ⟨v, e, r⟩ := s.2 i d h
  exact ⟨v, e, k d μ v H Fr.refl c r q⟩
theorem a_int {n : Int} (q : Φ (.int n) μ) : AE K (tC (.int n)) τ μ Φ := fun σ H s c Q k => k _ μ _ H Fr.refl c (.int n) q
theorem a_bl {n : Bool} (q : Φ (.bl n) μ) : AE K (tC (.bl n)) τ μ Φ := fun σ H s c Q k => k _ μ _ H Fr.refl c (.bl n) q
theorem a_str {n : Str} (q : Φ (.str n) μ) : AE K (tC (.str n)) τ μ Φ := fun σ H s c Q k => k _ μ _ H Fr.refl c (.str n) q
theorem a_non (q : Φ .non μ) : AE K (tC .non) τ μ Φ := fun σ H s c Q k => k _ μ _ H Fr.refl c .non q
theorem a_ty {n : String} (q : Φ (.ty n) μ) : AE K (tC (.ty n)) τ μ Φ := fun σ H s c Q k => k _ μ _ H Fr.refl c (.ty n) q
theorem a_op (h : AE K ta τ μ fun d μ1 => AE K tb τ μ1 fun e μ2 => RO K r d e μ2 Φ) : AE K (tOp r ta tb) τ μ Φ := fun σ H s c Q k =>
  h σ H s c _ fun d μ1 v H1 f1 c1 r1 p1 => p1 σ H1 (s.mono (f1.tx c)) c1 _ fun e μ2 u H2 f2 c2 r2 p2 =>
    p2 H2 v u c2 (Rel.mono (f2.tx c1) _ _ r1) r2 Q fun z μ' w H' f c' rz pz => k z μ' w H' ((f1.trans f2).trans f) c' rz pz
theorem a_un {r : V → Hp → VK → Prop} (h : AE K ta τ μ fun d μ1 => RU K r d μ1 Φ) : AE K (tUn r ta) τ μ Φ := fun σ H s c Q k =>
  h σ H s c _ fun d μ1 v H1 f1 c1 r1 p1 => p1 H1 v c1 r1 Q fun z μ' w H' f c' rz pz => k z μ' w H' (f1.trans f) c' rz pz
theorem aa_nil {Φ : List D → M → Prop} (q : Φ [] μ) : AA K tNil τ μ Φ := fun σ H s c Q k => k _ μ _ H Fr.refl c .nil q
theorem aa_cons {Φ : List D → M → Prop} {tr : TA} (h : AE K ta τ μ fun d μ1 => AA K tr τ μ1 fun ds μ2 => Φ (d :: ds) μ2) : AA K (tCons ta tr) τ μ Φ := fun σ H s c Q k =>
  h σ H s c _ fun d μ1 v H1 f1 c1 r1 p1 => p1 σ H1 (s.mono (f1.tx c)) c1 _ fun ds μ2 us H2 f2 c2 r2 p2 => k _ μ2 _ H2 (f1.trans f2) c2 (.cons (Rel.mono (f2.tx c1) _ _ r1) r2) p2
theorem a_tup {ta : TA} (h : AA K ta τ μ fun ds μ1 => ds.length ≤ sizeLine ∧ Φ (.tup ds) μ1) : AE K (tTup ta) τ μ Φ := fun σ H s c Q k =>
  h σ H s c _ fun ds μ1 vs H1 f1 c1 r1 ⟨hz, p1⟩ => ⟨by rw [r1.length]; exact hz, fun p hp => k _ μ1 _ _ (f1.trans (fr_new hp)) (con_new hp c1) (.tup (.inl upd_same) (Rels.mono (tx_new hp) _ _ r1)) p1⟩
theorem a_lst {ta : TA} (h : AA K ta τ μ fun ds μ1 => ds.length ≤ sizeLine ∧ ∀ p, μ1 p = none → Φ (.ref p) (μ1.set p (.lst ds))) : AE K (tLst ta) τ μ Φ := fun σ H s c Q k =>
  h σ H s c _ fun ds μ1 vs H1 f1 c1 r1 ⟨hz, p1⟩ => ⟨by rw [r1.length]; exact hz, fun p hp => k _ _ _ _ (f1.trans (fr_put hp)) (con_put (m := .lst ds) hp c1 ⟨vs, upd_same, Rels.mono (tx_new hp) _ _ r1⟩) (.ref p) (p1 p (c1.free hp))⟩
theorem a_cb {r : List V → Hp → VK → Prop} {ta : TA} (h : AA K ta τ μ fun ds μ1 => RC K r ds μ1 Φ) : AE K (tCB r ta) τ μ Φ := fun σ H s c Q k =>
  h σ H s c _ fun ds μ1 vs H1 f1 c1 r1 p1 => p1 H1 vs c1 r1 Q fun z μ' w H' f c' rz pz => k z μ' w H' (f1.trans f) c' rz pz
theorem a_if (h : AT K t τ μ fun b μ1 => if b = true then AE K ta τ μ1 Φ else AE K tb τ μ1 Φ) : AE K (tIf t ta tb) τ μ Φ := fun σ H s c Q k =>
  h σ H s c _ fun b μ1 H1 f1 c1 p1 => by
    cases b with
    | true => exact (show AE K ta τ μ1 Φ from p1) σ H1 (s.mono (f1.tx c)) c1 Q fun z μ' w H' f c' rz pz => k z μ' w H' (f1.trans f) c' rz pz
    | false => exact (show AE K tb τ μ1 Φ from p1) σ H1 (s.mono (f1.tx c)) c1 Q fun z μ' w H' f c' rz pz => k z μ' w H' (f1.trans f) c' rz pz
theorem a_andV (h : AE K ta τ μ fun d μ1 => ∃ b, d = .bl b ∧ if b = true then AE K tb τ μ1 Φ else Φ (.bl false) μ1) : AE K (tAndV ta tb) τ μ Φ := fun σ H s c Q k =>
  h σ H s c _ fun d μ1 v H1 f1 c1 r1 ⟨b, e, p1⟩ => by
    subst e
    cases r1
    refine ⟨b, rfl, ?_⟩
    cases b with
    | true => exact (show AE K tb τ μ1 Φ from p1) σ H1 (s.mono (f1.tx c)) c1 Q fun z μ' w H' f c' rz pz => k z μ' w H' (f1.trans f) c' rz pz
    | false => exact k _ μ1 _ H1 f1 c1 (.bl false) (show Φ (.bl false) μ1 from p1)
theorem a_orV (h : AE K ta τ μ fun d μ1 => ∃ b, d = .bl b ∧ if b = true then Φ (.bl true) μ1 else AE K tb τ μ1 Φ) : AE K (tOrV ta tb) τ μ Φ := fun σ H s c Q k =>
  h σ H s c _ fun d μ1 v H1 f1 c1 r1 ⟨b, e, p1⟩ => by
    subst e
    cases r1
    refine ⟨b, rfl, ?_⟩
    cases b with
    | true => exact k _ μ1 _ H1 f1 c1 (.bl true) (show Φ (.bl true) μ1 from p1)
    | false => exact (show AE K tb τ μ1 Φ from p1) σ H1 (s.mono (f1.tx c)) c1 Q fun z μ' w H' f c' rz pz => k z μ' w H' (f1.trans f) c' rz pz
theorem a_notV (h : AE K ta τ μ fun d μ1 => ∃ b, d = .bl b ∧ Φ (.bl (!b)) μ1) : AE K (tNotV ta) τ μ Φ := fun σ H s c Q k =>
  h σ H s c _ fun d μ1 v H1 f1 c1 r1 ⟨b, e, p1⟩ => by
    subst e
    cases r1
    exact ⟨b, rfl, k _ μ1 _ H1 f1 c1 (.bl _) p1⟩
variable {Θ : Bool → M → Prop}
theorem at_test (h : AE K te τ μ fun d μ1 => ∃ b, d = .bl b ∧ Θ b μ1) : AT K (tTest te) τ μ Θ := fun σ H s c Q k =>
  h σ H s c _ fun d μ1 v H1 f1 c1 r1 ⟨b, e, p1⟩ => by
    subst e
    cases r1
    exact ⟨b, rfl, k b μ1 H1 f1 c1 p1⟩
theorem at_B (h : AE K te τ μ fun d μ1 => ∃ b, d = .bl b ∧ Θ b μ1) : AT K (tB te) τ μ Θ := fun σ H s c Q k =>
  h σ H s c _ fun d μ1 v H1 f1 c1 r1 ⟨b, e, p1⟩ => by
    subst e
    cases r1
    exact ⟨b, rfl, k b μ1 H1 f1 c1 p1⟩
theorem at_and (h : AT K t τ μ fun b μ1 => if b = true then AT K u τ μ1 Θ else Θ false μ1) : AT K (tAnd t u) τ μ Θ := fun σ H s c Q k =>
  h σ H s c _ fun b μ1 H1 f1 c1 p1 => by
    cases b with
    | true => exact (show AT K u τ μ1 Θ from p1) σ H1 (s.mono (f1.tx c)) c1 Q fun z μ' H' f c' pz => k z μ' H' (f1.trans f) c' pz
    | false => exact k false μ1 H1 f1 c1 (show Θ false μ1 from p1)
theorem at_or (h : AT K t τ μ fun b μ1 => if b = true then Θ true μ1 else AT K u τ μ1 Θ) : AT K (tOr t u) τ μ Θ := fun σ H s c Q k =>
  h σ H s c _ fun b μ1 H1 f1 c1 p1 => by
    cases b with
    | true => exact k true μ1 H1 f1 c1 (show Θ true μ1 from p1)
    | false => exact (show AT K u τ μ1 Θ from p1) σ H1 (s.mono (f1.tx c)) c1 Q fun z μ' H' f c' pz => k z μ' H' (f1.trans f) c' pz
theorem at_not (h : AT K t τ μ fun b μ1 => Θ (!b) μ1) : AT K (tNot t) τ μ Θ := fun σ H s c Q k => h σ H s c _ fun b μ1 H1 f1 c1 p1 => k (!b) μ1 H1 f1 c1 p1
end
end Z
namespace Z
open PySem L2
section
variable {K : PySem.W.Frag} {τ : T} {μ μ1 μ2 : M} {H H1 H2 : Hp} {σ : L2.St} {Φ Ψ : D → M → Prop} {ta tb tc te : TE} {r r' : R2} {t u : TT} {x y z d e : D} {N : AEnds} {ts us : TS} {g : TG} {D0 E : Ends}
theorem EndsOk.step {μ' : M} {H' : Hp} (k : EndsOk K N μ H E) (f : Fr μ μ' H H') : EndsOk K N μ' H' E :=
  ⟨fun a b c d' f' => k.nx a b c d' (f.trans f'), fun a b c d' f' => k.rt a b c d' (f.trans f'), fun a b c d' f' => k.bk a b c d' (f.trans f'), fun a b c d' f' => k.ct a b c d' (f.trans f'), fun x1 x2 x3 x4 x5 x6 x7 x8 f' => k.wx x1 x2 x3 x4 x5 x6 x7 x8 (f.trans f')⟩
theorem s_seq (h : AS K ts τ μ { N with nx := fun τ' μ' => AS K us τ' μ' N }) : AS K (tSeq ts us) τ μ N := fun σ H s c E k =>
  h σ H s c _ ⟨fun τ' μ' σ' H' f c' s' p => p σ' H' s' c' E (k.step f), k.rt, k.bk, k.ct, k.wx⟩
theorem s_next (h : N.nx τ μ) : AS K tNext τ μ N := fun σ H s c E k => k.nx τ μ σ H Fr.refl c s h
theorem s_drop (h : AE K te τ μ fun _ μ' => N.nx τ μ') : AS K (tDrop te) τ μ N := fun σ H s c E k =>
  h σ H s c _ fun d μ' v H' f c' r p => k.nx τ μ' σ H' f c' (s.mono (f.tx c)) p
theorem s_ret (h : AE K te τ μ N.rt) : AS K (tRet te) τ μ N := fun σ H s c E k => h σ H s c _ fun d μ' v H' f c' r p => k.rt d μ' v H' f c' r p
theorem s_retN (h : N.rt .non μ) : AS K tRetN τ μ N := fun σ H s c E k => k.rt .non μ .non H Fr.refl c .non h
theorem s_if (h : AT K t τ μ fun b μ' => if b = true then AS K ts τ μ' N else AS K us τ μ' N) : AS K (tIfS t ts us) τ μ N := fun σ H s c E k =>
  h σ H s c _ fun b μ' H' f c' p => by
    cases b with
    | true => exact (show AS K ts τ μ' N from p) σ H' (s.mono (f.tx c)) c' E (k.step f)
    | false => exact (show AS K us τ μ' N from p) σ H' (s.mono (f.tx c)) c' E (k.step f)
theorem s_asg (h : AE K te τ μ fun d μ' => AG K g d τ μ' N.nx) : AS K (tAsg te g) τ μ N := fun σ H s c E k =>
  h σ H s c _ fun d μ' v H' f c' r p => p σ H' v (s.mono (f.tx c)) c' r _ fun τ2 μ2 σ2 H2 f2 c2 s2 q => k.nx τ2 μ2 σ2 H2 (f.trans f2) c2 s2 q
theorem g_name {i : Nat} {Θ : T → M → Prop} (h : Θ (τ.set i (some d)) μ) : AG K (gName i) d τ μ Θ := fun σ H v s c r Q k => k _ μ _ H Fr.refl c (s.set r i) h
theorem gs_nil {Θ : T → M → Prop} (h : Θ τ μ) : AGs K gNil [] τ μ Θ := fun σ H vs s c r Q k => by
  cases r
  exact ⟨rfl, k τ μ σ H Fr.refl c s h⟩
theorem gs_cons {gs : TGs} {ds : List D} {Θ : T → M → Prop} (h : AG K g d τ μ fun τ' μ' => AGs K gs ds τ' μ' Θ) : AGs K (gCons g gs) (d :: ds) τ μ Θ := fun σ H vs s c r Q k => by
  cases r with
  | cons r1 r2 =>
    rename_i v vs'
    exact ⟨v, vs', rfl, h σ H v s c r1 _ fun τ' μ' σ' H' f c' s' p => p σ' H' vs' s' c' (Rels.mono (f.tx c) _ _ r2) Q fun τ2 μ2 σ2 H2 f2 c2 s2 q => k τ2 μ2 σ2 H2 (f.trans f2) c2 s2 q⟩
theorem g_tup {n : Nat} {gs : TGs} {ds : List D} {Θ : T → M → Prop} (hn : ds.length = n) (h : AGs K gs ds τ μ Θ) : AG K (gTup K n gs) (.tup ds) τ μ Θ := fun σ H v s c r Q k => by
  cases r with
  | tup ht hr => exact ⟨_, _, rfl, ht.sq, by rw [hr.length]; exact hn, h σ H _ s c hr Q k⟩
/-- o[i] = v -/
def ASet (K : PySem.W.Frag) (t : TSet) (o i d : D) (μ : M) (Θ : M → Prop) : Prop :=
  ∀ H a b v, Con K H μ → Rel K H a o → Rel K H b i → Rel K H v d → ∀ Q : Hp → Prop, (∀ μ' H', Fr μ μ' H H' → Con K H' μ' → Θ μ' → Q H') → t a b v H Q
theorem g_sub {to ti : TE} {tset : TSet} {Θ : T → M → Prop} (h : AE K to τ μ fun o μ1 => AE K ti τ μ1 fun i μ2 => ASet K tset o i d μ2 fun μ3 => Θ τ μ3) : AG K (gSub to ti tset) d τ μ Θ := fun σ H v s c r Q k =>
  h σ H s c _ fun o μ1 a H1 f1 c1 r1 p1 => p1 σ H1 (s.mono (f1.tx c)) c1 _ fun i μ2 b H2 f2 c2 r2 p2 =>
    p2 H2 a b v c2 (Rel.mono (f2.tx c1) _ _ r1) r2 (Rel.mono ((f1.trans f2).tx c) _ _ r) _ fun μ3 H3 f3 c3 p3 => k τ μ3 σ H3 ((f1.trans f2).trans f3) c3 (s.mono (((f1.trans f2).trans f3).tx c)) p3
theorem s_par {i j : Nat} {ta : TA} (h : AA K ta τ μ fun ds μ' => ∃ d e, ds = [d, e] ∧ N.nx ((τ.set i (some d)).set j (some e)) μ') : AS K (tPar i j ta) τ μ N := fun σ H s c E k =>
  h σ H s c _ fun ds μ' vs H' f c' r ⟨d, e, q, p⟩ => by
    subst q
    cases r with
    | cons r1 r2 =>
      cases r2 with
      | cons r2 r3 =>
        cases r3
        exact ⟨_, _, rfl, k.nx _ μ' _ H' f c' (((s.mono (f.tx c)).set r1 i).set r2 j) p⟩
/-- a op= b, by values -/
theorem s_aug {i : Nat} {ti : TIp} (hx : τ[i]? = some (some d)) (h : AE K te τ μ fun e μ1 => RO K ti d e μ1 fun z μ2 => N.nx (τ.set i (some z)) μ2) : AS K (tAug i te ti) τ μ N := fun σ H s c E k => by
  obtain ⟨v, e1, r1⟩ := s.2 i d hx
  exact ⟨v, e1, h σ H s c _ fun e μ1 u H1 f1 c1 r2 p1 => p1 H1 v u c1 (Rel.mono (f1.tx c) _ _ r1) r2 _ fun z μ2 w H2 f2 c2 rz p2 =>
    k.nx _ μ2 _ H2 (f1.trans f2) c2 ((s.mono ((f1.trans f2).tx c)).set rz i) p2⟩
theorem AS.imp {nx' bk' ct' : T → M → Prop} {rt' : D → M → Prop} (h : AS K ts τ μ N) (h1 : ∀ a b, N.nx a b → nx' a b) (h2 : ∀ a b, N.rt a b → rt' a b) (h3 : ∀ a b, N.bk a b → bk' a b) (h4 : ∀ a b, N.ct a b → ct' a b) : AS K ts τ μ { N with nx := nx', rt := rt', bk := bk', ct := ct' } := fun σ H s c E q =>
  h σ H s c E ⟨fun a b c' d' f x y p => q.nx a b c' d' f x y (h1 _ _ p), fun a b c' d' f x y p => q.rt a b c' d' f x y (h2 _ _ p), fun a b c' d' f x y p => q.bk a b c' d' f x y (h3 _ _ p), fun a b c' d' f x y p => q.ct a b c' d' f x y (h4 _ _ p), q.wx⟩
/-- the ends of a turn -/
def turnE (N : AEnds) (P : T → M → Prop) : AEnds := { N with nx := P, ct := P, bk := N.nx }
theorem turn_ok {μ0 : M} {H0 : Hp} {P : T → M → Prop} {Pc : L2.St → Hp → Prop} (k : EndsOk K N μ0 H0 E) (f : Fr μ0 μ H0 H) (hp : ∀ τ' μ' σ' H', Fr μ0 μ' H0 H' → Con K H' μ' → Slots K H' τ' σ' → P τ' μ' → Pc σ' H') :
    EndsOk K (turnE N P) μ H { E with nx := Pc, ct := Pc, bk := E.nx } :=
  ⟨fun τ' μ' σ' H' f' c s p => hp τ' μ' σ' H' (f.trans f') c s p, fun d' μ' v H' f' => k.rt d' μ' v H' (f.trans f'), fun τ' μ' σ' H' f' => k.nx τ' μ' σ' H' (f.trans f'), fun τ' μ' σ' H' f' c s p => hp τ' μ' σ' H' (f.trans f') c s p, fun x1 x2 x3 x4 x5 x6 x7 x8 f' => k.wx x1 x2 x3 x4 x5 x6 x7 x8 (f.trans f')⟩
/-- for over a tuple -/
theorem s_forT {tl : TE} {tb : TS} (h : AE K tl τ μ fun d μ1 => ∃ (P : Nat → T → M → Prop) (ds : List D), d = .tup ds ∧ P 0 τ μ1 ∧
      (∀ (i : Nat) x τ' μ', ds[i]? = some x → P i τ' μ' → AG K g x τ' μ' fun τ2 μ2 => AS K tb τ2 μ2 (turnE N (P (i + 1)))) ∧ ∀ τ' μ', P ds.length τ' μ' → N.nx τ' μ') : AS K (tFor (iTup K tl) g tb) τ μ N := fun σ H s c E k =>
  h σ H s c _ fun d μ1 v H1 f1 c1 r1 ⟨P, ds, e, p0, hs, hd⟩ => by
    subst e
    cases r1 with
    | @tup a xs _ ha hr =>
      refine ⟨a, rfl, ⟨xs, ha.sq⟩, for_tup (K := K) (a := a) (xs := xs) (fun i σ' H' => ∃ τ' μ', Fr μ μ' H H' ∧ Tx H1 H' ∧ Con K H' μ' ∧ Slots K H' τ' σ' ∧ P i τ' μ') ⟨τ, μ1, f1, Tx.refl, c1, s.mono (f1.tx c), p0⟩
        (fun i σ' H' _ ⟨τ', μ', f, tx, _⟩ => (ha.mono tx).sq) ?_ ?_⟩
      · rintro i x σ' H' hx ⟨τ', μ', f, tx, c', s', p⟩
        obtain ⟨d, hd', rx⟩ := hr.getV hx
        refine hs i d τ' μ' hd' p σ' H' x s' c' (Rel.mono tx _ _ rx) _ fun τ2 μ2 σ2 H2 f2 c2 s2 q => ?_
        exact q σ2 H2 s2 c2 _ (turn_ok (k.step f) f2 fun τ3 μ3 σ3 H3 f3 c3 s3 p3 => ⟨τ3, μ3, f.trans f3, tx.trans (f3.tx c'), c3, s3, p3⟩)
      · rintro σ' H' ⟨τ', μ', f, tx, c', s', p⟩
        rw [hr.length] at p
        exact k.nx τ' μ' σ' H' f c' s' (hd τ' μ' p)
/-- the list a is set aside while it is walked -/
def M.del (μ : M) (a : Addr) : M := fun b => if b = a then none else μ b
theorem del_same {a : Addr} : μ.del a a = none := by unfold M.del; rw [if_pos rfl]
theorem del_ne {a b : Addr} (h : b ≠ a) : μ.del a b = μ b := by unfold M.del; rw [if_neg h]
theorem del_sub {a : Addr} : Sub (μ.del a) μ := fun b m e => by
  by_cases h : b = a
  · subst h; rw [del_same] at e; cases e
  · rw [del_ne h] at e; exact e
theorem del_set {a : Addr} {m : MO} (h : μ a = some m) : (μ.del a).set a m = μ := by
  funext b
  by_cases hb : b = a
  · subst hb; rw [set_same, h]
  · rw [set_ne hb, del_ne hb]
theorem fr_back {μ0 μ' : M} {H0 H' : Hp} {a : Addr} {m m' : MO} (ha : μ1 a = some m) (f1 : Fr μ0 μ1 H0 H1) (f : Fr (μ1.del a) μ' H1 H') : Fr μ0 (μ'.set a m') H0 H' := fun x o n e => by
  obtain ⟨e1, n1⟩ := f1 x o n e
  have hx : x ≠ a := fun z => by subst z; rw [n1] at ha; cases ha
  obtain ⟨e2, n2⟩ := f x o (by rw [del_ne hx]; exact n1) e1
  exact ⟨e2, by rw [set_ne hx]; exact n2⟩
theorem con_back {μ' : M} {a : Addr} {m : MO} (c : Con K H μ') (r : MRel K H a m) : Con K H (μ'.set a m) := fun x u e => by
  by_cases hx : x = a
  · subst hx; rw [set_same] at e; cases e; exact r
  · rw [set_ne hx] at e; exact c x u e
/-- for over a range -/
theorem s_forN {wi : TI} {lo : Int} {n : Nat} {tb : TS} (P : Nat → T → M → Prop) (hw : ∀ σ H, Slots K H τ σ → Con K H μ → ∀ R : It → Hp → Prop, (∀ μ1 H1, Fr μ μ1 H H1 → Con K H1 μ1 → P 0 τ μ1 → R (Itr lo n) H1) → wi σ H R)
    (hs : ∀ (i : Nat) τ' μ', i < n → P i τ' μ' → AG K g (.int (lo + i)) τ' μ' fun τ2 μ2 => AS K tb τ2 μ2 (turnE N (P (i + 1)))) (hd : ∀ τ' μ', P n τ' μ' → N.nx τ' μ') : AS K (tFor wi g tb) τ μ N := fun σ H s c E k =>
  hw σ H s c _ fun μ1 H1 f1 c1 p0 => by
    refine for_range (lo := lo) (n := n) (fun i σ' H' => ∃ τ' μ', Fr μ μ' H H' ∧ Con K H' μ' ∧ Slots K H' τ' σ' ∧ P i τ' μ') ⟨τ, μ1, f1, c1, s.mono (f1.tx c), p0⟩ ?_ ?_
    · rintro i σ' H' hi ⟨τ', μ', f, c', s', p⟩
      refine hs i τ' μ' hi p σ' H' _ s' c' (.int _) _ fun τ2 μ2 σ2 H2 f2 c2 s2 q => ?_
      exact q σ2 H2 s2 c2 _ (turn_ok (k.step f) f2 fun τ3 μ3 σ3 H3 f3 c3 s3 p3 => ⟨τ3, μ3, f.trans f3, c3, s3, p3⟩)
    · rintro σ' H' ⟨τ', μ', f, c', s', p⟩
      exact k.nx τ' μ' σ' H' f c' s' (hd τ' μ' p)
theorem s_for1 {ta : TA} {tb : TS} (n : Int) (P : Nat → T → M → Prop) (h : AA K ta τ μ fun ds μ1 => ds = [.int n] ∧ -(2 ^ 62) ≤ n ∧ n < 2 ^ 62 ∧ P 0 τ μ1)
    (hs : ∀ (i : Nat) τ' μ', (i : Int) < n → P i τ' μ' → AG K g (.int i) τ' μ' fun τ2 μ2 => AS K tb τ2 μ2 (turnE N (P (i + 1)))) (hd : ∀ τ' μ', P n.toNat τ' μ' → N.nx τ' μ') : AS K (tFor (iRng1 ta) g tb) τ μ N := by
  refine s_forN (lo := 0) (n := n.toNat) P (fun σ H s c R k => h σ H s c _ fun ds μ1 vs H1 f1 c1 r1 ⟨e, h1, h2, p⟩ => ?_) (fun i τ' μ' hi p => ?_) hd
  · subst e
    cases r1 with
    | cons r rr =>
      cases r
      cases rr
      exact ⟨n, rfl, h1, h2, k μ1 H1 f1 c1 p⟩
  · rw [Int.zero_add]
    exact hs i τ' μ' (by omega) p
end
end Z
namespace Z
open PySem L2
def seqD (μ : M) : D → Option (List D)
  | .tup ds => some ds
  | .rol ds => some ds
  | .ref a => match μ a with
    | some (.lst ds) => some ds
    | _ => none
  | _ => none
section
variable {K : PySem.W.Frag} {τ : T} {μ μ1 μ2 : M} {H H1 H2 : Hp} {σ : L2.St} {Φ Ψ : D → M → Prop} {ta tb tc te : TE} {r r' : R2} {t u : TT} {x y z d e : D} {N : AEnds} {ts us : TS}
theorem seq_of {v : V} {ds : List D} (c : Con K H μ) (r : Rel K H v d) (h : seqD μ d = some ds) : ∃ a xs, v = .ref a ∧ (SqL K H a xs ∨ SqT K H a xs) ∧ Rels K H xs ds := by
  cases r with
  | tup ht hr => cases h; exact ⟨_, _, rfl, .inr ht.sq, hr⟩
  | rol ht hr => cases h; exact ⟨_, _, rfl, .inl ht.sq, hr⟩
  | ref a =>
    unfold seqD at h
    simp only at h
    split at h
    · rename_i ds' e
      cases h
      obtain ⟨xs, h1, h2⟩ := c _ _ e
      exact ⟨_, xs, rfl, .inl (SqL.of h1), h2⟩
    · cases h
  | non => cases h
  | bl => cases h
  | int => cases h
  | str => cases h
  | ty => cases h
theorem ro_i {f : Int → Int → Int} {i j : Int} (q : Φ (.int (f i j)) μ) : RO K (rI0 fun i j => V.int (f i j)) (.int i) (.int j) μ Φ := fun H x y c r1 r2 Q k => by
  cases r1; cases r2
  exact ⟨i, j, rfl, rfl, k _ μ _ H Fr.refl c (.int _) q⟩
theorem ro_b {f : Int → Int → Bool} {i j : Int} (q : Φ (.bl (f i j)) μ) : RO K (rI0 fun i j => V.bl (f i j)) (.int i) (.int j) μ Φ := fun H x y c r1 r2 Q k => by
  cases r1; cases r2
  exact ⟨i, j, rfl, rfl, k _ μ _ H Fr.refl c (.bl _) q⟩
theorem ro_c {C : Int → Int → Prop} {f : Int → Int → Int} {i j : Int} (hc : C i j) (q : Φ (.int (f i j)) μ) : RO K (rI C fun i j => V.int (f i j)) (.int i) (.int j) μ Φ := fun H x y c r1 r2 Q k => by
  cases r1; cases r2
  exact ⟨i, j, rfl, rfl, hc, k _ μ _ H Fr.refl c (.int _) q⟩
theorem ru_i {f : Int → Int} {i : Int} (q : Φ (.int (f i)) μ) : RU K (rU fun i => V.int (f i)) (.int i) μ Φ := fun H x c r1 Q k => by
  cases r1
  exact ⟨i, rfl, k _ μ _ H Fr.refl c (.int _) q⟩
theorem at_len {xs : List V} {ds : List D} {i : Int} {d : D} (r : Rels K H xs ds) (h : atI ds i = some d) : ∃ v, atI xs i = some v ∧ Rel K H v d := by
  unfold atI at h ⊢
  rw [r.length]
  cases e : ixN ds.length i with
  | none => rw [e] at h; cases h
  | some j =>
    rw [e] at h
    exact r.get h
theorem ro_ix {ds : List D} {i : Int} (hs : seqD μ d = some ds) (hi : atI ds i = some e) (q : Φ e μ) : RO K (rIx K) d (.int i) μ Φ := fun H x y c r1 r2 Q k => by
  cases r2
  obtain ⟨a, xs, rfl, hq, hr⟩ := seq_of c r1 hs
  obtain ⟨v, hv, rv⟩ := at_len hr hi
  rcases hq with hq | hq
  · exact .inl ⟨a, xs, i, v, rfl, rfl, hq, hv, k e μ v H Fr.refl c rv q⟩
  · exact .inr (.inl ⟨a, xs, i, v, rfl, rfl, hq, hv, k e μ v H Fr.refl c rv q⟩)
theorem set_lst {a : Addr} {ds : List D} {i : Int} {j : Nat} {Θ : M → Prop} (h : μ a = some (.lst ds)) (hi : ixN ds.length i = some j) (q : Θ (μ.set a (.lst (ds.set j d)))) : ASet K rSetL (.ref a) (.int i) d μ Θ := fun H x y v c r1 r2 r3 Q k => by
  cases r1; cases r2
  obtain ⟨xs, hx, hr⟩ := c a _ h
  exact ⟨a, xs, i, j, rfl, rfl, hx, by rw [hr.length]; exact hi, k _ _ (fr_mut h) (con_mut (m' := .lst (ds.set j d)) c h ⟨_, upd_same, Rels.mono (tx_mut c h) _ _ (Rels.set r3 j hr)⟩) q⟩
mutual
def D.py : D → PyData
  | .bl b => .bool b
  | .int i => .int i
  | .str s => .str s
  | .tup ds => .tuple (D.pys ds)
  | _ => .none
def D.pys : List D → List PyData
  | [] => []
  | d :: ds => D.py d :: D.pys ds
end
mutual
/-- None, truths, ints, texts and tuples of them -/
def D.plain : D → Bool
  | .non => true
  | .bl _ => true
  | .int _ => true
  | .str _ => true
  | .tup ds => D.plains ds
  | _ => false
def D.plains : List D → Bool
  | [] => true
  | d :: ds => D.plain d && D.plains ds
end
mutual
theorem Rel.dp : ∀ (d : D) (v : V), Rel K H v d → D.plain d = true → Dp K H v (D.py d)
  | .non, _, .non, _ => by simp only [D.py]; exact .non
  | .bl _, _, .bl b, _ => by simp only [D.py]; exact .bl b
  | .int _, _, .int b, _ => by simp only [D.py]; exact .int b
  | .str _, _, .str b, _ => by simp only [D.py]; exact .str b
  | .tup ds, _, .tup h r, p => by simp only [D.py]; exact .tup h.sq (Rels.dp ds _ r (by simpa only [D.plain] using p))
  | .ty _, _, _, p => by simp [D.plain] at p
  | .ref _, _, _, p => by simp [D.plain] at p
  | .rol _, _, _, p => by simp [D.plain] at p
theorem Rels.dp : ∀ (ds : List D) (vs : List V), Rels K H vs ds → D.plains ds = true → DpAll K H vs (D.pys ds)
  | [], _, .nil, _ => by simp only [D.pys]; exact .nil
  | d :: ds, _, .cons a b, p => by
    simp only [D.plains, Bool.and_eq_true] at p
    simp only [D.pys]
    exact .cons (Rel.dp d _ a p.1) (Rels.dp ds _ b p.2)
end
/-- plain and not too deep -/
def D.ok (d : D) : Bool := D.plain d && SeqAt.shaped (D.py d)
def D.eqv (d e : D) : Bool := PyData.eqv (D.py d) (D.py e)
theorem ro_eqD (h1 : D.ok d = true) (h2 : D.ok e = true) (q : Φ (.bl (D.eqv d e)) μ) : RO K (rEqD K) d e μ Φ := fun H x y c r1 r2 Q k => by
  unfold D.ok at h1 h2
  rw [Bool.and_eq_true] at h1 h2
  exact ⟨_, _, Rel.dp _ _ r1 h1.1, Rel.dp _ _ r2 h2.1, h1.2, h2.2, k _ μ _ H Fr.refl c (.bl _) q⟩
theorem ro_neD (h1 : D.ok d = true) (h2 : D.ok e = true) (q : Φ (.bl (!D.eqv d e)) μ) : RO K (rNeD K) d e μ Φ := fun H x y c r1 r2 Q k => by
  unfold D.ok at h1 h2
  rw [Bool.and_eq_true] at h1 h2
  exact ⟨_, _, Rel.dp _ _ r1 h1.1, Rel.dp _ _ r2 h2.1, h1.2, h2.2, k _ μ _ H Fr.refl c (.bl _) q⟩
theorem ro_eqI {i j : Int} (q : Φ (.bl (decide (i = j))) μ) : RO K rEq (.int i) (.int j) μ Φ := fun H x y c r1 r2 Q k => by
  cases r1; cases r2
  refine ⟨rfl, ?_⟩
  have e : decide (V.int i = V.int j) = decide (i = j) := by simp
  rw [e]
  exact k _ μ _ H Fr.refl c (.bl _) q
theorem ro_neI {i j : Int} (q : Φ (.bl (!decide (i = j))) μ) : RO K rNe (.int i) (.int j) μ Φ := fun H x y c r1 r2 Q k => by
  cases r1; cases r2
  refine ⟨rfl, ?_⟩
  have e : decide (V.int i = V.int j) = decide (i = j) := by simp
  rw [e]
  exact k _ μ _ H Fr.refl c (.bl _) q
theorem ro_eqB {i j : Bool} (q : Φ (.bl (decide (i = j))) μ) : RO K rEq (.bl i) (.bl j) μ Φ := fun H x y c r1 r2 Q k => by
  cases r1; cases r2
  refine ⟨rfl, ?_⟩
  have e : decide (V.bl i = V.bl j) = decide (i = j) := by simp
  rw [e]
  exact k _ μ _ H Fr.refl c (.bl _) q
theorem ro_neB {i j : Bool} (q : Φ (.bl (!decide (i = j))) μ) : RO K rNe (.bl i) (.bl j) μ Φ := fun H x y c r1 r2 Q k => by
  cases r1; cases r2
  refine ⟨rfl, ?_⟩
  have e : decide (V.bl i = V.bl j) = decide (i = j) := by simp
  rw [e]
  exact k _ μ _ H Fr.refl c (.bl _) q
theorem ro_eqS {i j : Str} (q : Φ (.bl (decide (i = j))) μ) : RO K rEq (.str i) (.str j) μ Φ := fun H x y c r1 r2 Q k => by
  cases r1; cases r2
  refine ⟨rfl, ?_⟩
  have e : decide (V.str i = V.str j) = decide (i = j) := by simp
  rw [e]
  exact k _ μ _ H Fr.refl c (.bl _) q
theorem rc_abs {i : Int} (q : Φ (.int (if i < 0 then -i else i)) μ) : RC K (fun xs H Q => ∃ i, xs = [V.int i] ∧ Q (.int (if i < 0 then -i else i)) H) [.int i] μ Φ := fun H xs c r1 Q k => by
  cases r1 with
  | cons a b => cases a; cases b; exact ⟨i, rfl, k _ μ _ H Fr.refl c (.int _) q⟩
theorem rc_max {i j : Int} (q : Φ (.int (if j > i then j else i)) μ) : RC K (fun xs H Q => ∃ i j, xs = [V.int i, V.int j] ∧ Q (.int (if j > i then j else i)) H) [.int i, .int j] μ Φ := fun H xs c r1 Q k => by
  cases r1 with
  | cons a b => cases a; cases b with
    | cons a b => cases a; cases b; exact ⟨i, j, rfl, k _ μ _ H Fr.refl c (.int _) q⟩
theorem rc_min {i j : Int} (q : Φ (.int (if j < i then j else i)) μ) : RC K (fun xs H Q => ∃ i j, xs = [V.int i, V.int j] ∧ Q (.int (if j < i then j else i)) H) [.int i, .int j] μ Φ := fun H xs c r1 Q k => by
  cases r1 with
  | cons a b => cases a; cases b with
    | cons a b => cases a; cases b; exact ⟨i, j, rfl, k _ μ _ H Fr.refl c (.int _) q⟩
theorem rc_intB {b : Bool} (q : Φ (.int (if b then 1 else 0)) μ) : RC K (fun xs H Q => (∃ i, xs = [V.int i] ∧ Q (.int i) H) ∨ ∃ k, xs = [V.bl k] ∧ Q (.int (if k then 1 else 0)) H) [.bl b] μ Φ := fun H xs c r1 Q k => by
  cases r1 with
  | cons a b => cases a; cases b; exact .inr ⟨_, rfl, k _ μ _ H Fr.refl c (.int _) q⟩
theorem rc_intI {b : Int} (q : Φ (.int b) μ) : RC K (fun xs H Q => (∃ i, xs = [V.int i] ∧ Q (.int i) H) ∨ ∃ k, xs = [V.bl k] ∧ Q (.int (if k then 1 else 0)) H) [.int b] μ Φ := fun H xs c r1 Q k => by
  cases r1 with
  | cons a b => cases a; cases b; exact .inl ⟨_, rfl, k _ μ _ H Fr.refl c (.int _) q⟩
theorem rc_len {ds : List D} (h : seqD μ d = some ds) (q : Φ (.int ds.length) μ) : RC K (fun xs H Q => ∃ x n, xs = [x] ∧ LenV K x H n ∧ Q (.int n) H) [d] μ Φ := fun H xs c r1 Q k => by
  cases r1 with
  | cons a b =>
    cases b
    obtain ⟨p, xs, rfl, hq, hr⟩ := seq_of c a h
    refine ⟨_, ds.length, rfl, ?_, k _ μ _ H Fr.refl c (.int _) q⟩
    rcases hq with hq | hq
    · exact .inl ⟨xs, hq, hr.length.symm⟩
    · exact .inr ⟨xs, hq, hr.length.symm⟩
theorem rc_lenS {s : Str} (h : s.length ≤ sizeLine) (q : Φ (.int s.length) μ) : RC K (fun xs H Q => ∃ x n, xs = [x] ∧ LenV K x H n ∧ Q (.int n) H) [.str s] μ Φ := fun H xs c r1 Q k => by
  cases r1 with
  | cons a b => cases a; cases b; exact ⟨_, _, rfl, ⟨h, rfl⟩, k _ μ _ H Fr.refl c (.int _) q⟩
theorem rc_tuple {ds : List D} (h : seqD μ d = some ds) (q : Φ (.tup ds) μ) : RC K (fun xs H Q => ∃ p ys, xs = [V.ref p] ∧ ((SqL K H p ys ∧ ∀ l, H l = none → Q (.ref l) (upd H l (.tup ys))) ∨ (SqT K H p ys ∧ Q (.ref p) H))) [d] μ Φ := fun H xs c r1 Q k => by
  cases r1 with
  | cons a b =>
    cases b
    cases a with
    | tup ht hr =>
      cases h
      exact ⟨_, _, rfl, .inr ⟨ht.sq, k _ μ _ H Fr.refl c (.tup ht hr) q⟩⟩
    | rol ht hr =>
      cases h
      exact ⟨_, _, rfl, .inl ⟨ht.sq, fun l hl => k _ μ _ _ (fr_new hl) (con_new hl c) (.tup (.inl upd_same) (Rels.mono (tx_new hl) _ _ hr)) q⟩⟩
    | ref p =>
      unfold seqD at h
      simp only at h
      split at h
      · rename_i ds' e
        cases h
        obtain ⟨xs, hx, hr⟩ := c _ _ e
        exact ⟨_, xs, rfl, .inl ⟨SqL.of hx, fun l hl => k _ μ _ _ (fr_new hl) (con_new hl c) (.tup (.inl upd_same) (Rels.mono (tx_new hl) _ _ hr)) q⟩⟩
      · cases h
    | non => cases h
    | bl => cases h
    | int => cases h
    | str => cases h
    | ty => cases h
theorem rc_list {ds : List D} (h : seqD μ d = some ds) (q : ∀ p, μ p = none → Φ (.ref p) (μ.set p (.lst ds))) : RC K (fun xs H Q => ∃ p ys, xs = [V.ref p] ∧ (SqL K H p ys ∨ SqT K H p ys) ∧ ∀ l, H l = none → Q (.ref l) (upd H l (.lst ys))) [d] μ Φ := fun H xs c r1 Q k => by
  cases r1 with
  | cons a b =>
    cases b
    obtain ⟨p, xs, rfl, hq, hr⟩ := seq_of c a h
    exact ⟨p, xs, rfl, hq, fun l hl => k _ _ _ _ (fr_put hl) (con_put (m := .lst ds) hl c ⟨xs, upd_same, Rels.mono (tx_new hl) _ _ hr⟩) (.ref l) (q l (c.free hl))⟩
theorem rels_bl : ∀ {xs : List V} {bs : List Bool}, Rels K H xs (bs.map D.bl) → xs = bs.map V.bl
  | [], [], .nil => rfl
  | _ :: _, _ :: _, .cons a b => by cases a; rw [rels_bl b]; rfl
theorem rc_all {a : Addr} {bs : List Bool} (h : μ a = some (.lst (bs.map D.bl))) (q : Φ (.bl (bs.all id)) μ) : RC K (rAll K) [.ref a] μ Φ := fun H xs c r1 Q k => by
  cases r1 with
  | cons r b =>
    cases r; cases b
    obtain ⟨xs, hx, hr⟩ := c _ _ h
    have e := rels_bl hr
    subst e
    exact ⟨a, bs, rfl, SqL.of hx, k _ μ _ H Fr.refl c (.bl _) q⟩
theorem rc_any {a : Addr} {bs : List Bool} (h : μ a = some (.lst (bs.map D.bl))) (q : Φ (.bl (bs.any id)) μ) : RC K (rAny K) [.ref a] μ Φ := fun H xs c r1 Q k => by
  cases r1 with
  | cons r b =>
    cases r; cases b
    obtain ⟨xs, hx, hr⟩ := c _ _ h
    have e := rels_bl hr
    subst e
    exact ⟨a, bs, rfl, SqL.of hx, k _ μ _ H Fr.refl c (.bl _) q⟩
theorem m_append {to : TE} {a : Addr} {ds : List D} (h : AE K to τ μ fun o μ1 => o = .ref a ∧ (∃ es, μ1 a = some (.lst es)) ∧ AE K te τ μ1 fun d μ2 => μ2 a = some (.lst ds) ∧ ds.length < sizeLine ∧ Φ .non (μ2.set a (.lst (ds ++ [d])))) :
    AE K (tBM K "list" rAppend to (tCons te tNil)) τ μ Φ := fun σ H s c Q k =>
  h σ H s c _ fun o μ1 v H1 f1 c1 r1 ⟨e, ⟨es, he⟩, p1⟩ => by
    subst e
    cases r1
    obtain ⟨xs, hx, hr⟩ := c1 a _ he
    refine ⟨.inl ⟨rfl, xs, SqL.of hx⟩, p1 σ H1 (s.mono (f1.tx c)) c1 _ fun d μ2 u H2 f2 c2 r2 ⟨h2, hz, q⟩ => ?_⟩
    obtain ⟨ys, hy, hr2⟩ := c2 a _ h2
    exact ⟨a, ys, u, rfl, rfl, hy, by rw [hr2.length]; exact hz, k _ _ _ _ ((f1.trans f2).trans (fr_mut h2)) (con_mut (m' := .lst (ds ++ [d])) c2 h2 ⟨_, upd_same, Rels.mono (tx_mut c2 h2) _ _ (hr2.append (.cons r2 .nil))⟩) .non q⟩
end
end Z
namespace Z
open PySem L2
/-- a promise by what it asks and gives over the store: P args store wish -/
abbrev PT3 := List D → M → (D → M → Prop) → Prop
def spI (K : PySem.W.Frag) (P : PT3) : Sp := fun vs H Q _ => ∃ ds μ Φ, Rels K H vs ds ∧ Z.Con K H μ ∧ P ds μ Φ ∧ ∀ d μ' v H', Fr μ μ' H H' → Z.Con K H' μ' → Rel K H' v d → Φ d μ' → Q v H'
def startD (n : Nat) (ds : List D) : T := ds.map some ++ List.replicate (n - ds.length) none
section
variable {K : PySem.W.Frag} {τ : T} {μ μ1 μ2 : M} {H H1 H2 : Hp} {σ : L2.St} {Φ Ψ : D → M → Prop} {ta tb tc te : TE} {r r' : R2} {t u : TT} {x y z d e : D} {N : AEnds} {ts us : TS} {P : PT3} {E : XK}
theorem slots_start {Ns : List Str} : ∀ {vs : List V} {ds : List D}, Rels K H vs ds → Slots K H (startD Ns.length ds) (L2.start Ns vs) := by
  intro vs ds r
  have hl := r.length
  refine ⟨by unfold startD L2.start; simp only [List.length_append, List.length_map, List.length_replicate]; omega, fun i d e => ?_⟩
  unfold startD at e
  by_cases hi : i < ds.length
  · rw [List.getElem?_append_left (by rw [List.length_map]; exact hi), List.getElem?_map] at e
    cases q : ds[i]? with
    | none => rw [q] at e; cases e
    | some d' =>
      rw [q] at e
      have e2 : d' = d := Option.some.inj (Option.some.inj e)
      subst e2
      obtain ⟨v, h1, h2⟩ := r.get q
      refine ⟨v, ?_, h2⟩
      unfold L2.start
      rw [List.getElem?_append_left (by rw [List.length_map]; omega), List.getElem?_map, h1]
      rfl
  · rw [List.getElem?_append_right (by rw [List.length_map]; omega), List.getElem?_replicate] at e
    split at e <;> cases e
theorem spI_len {vs : List V} {Q : VK} {n : Nat} (h : spI K P vs H Q E) (hn : ∀ ds μ Φ, P ds μ Φ → ds.length = n) : vs.length = n := by
  obtain ⟨ds, μ, Φ, r, _, p, _⟩ := h
  rw [r.length]; exact hn _ _ _ p
/-- a body keeps its promise -/
theorem body_ok {Ns : List Str} {vs : List V} {Q : VK} (h : spI K P vs H Q E) (hb : ∀ ds μ Φ, P ds μ Φ → AS K ts (startD Ns.length ds) μ { nx := fun _ μ' => Φ .non μ', rt := Φ }) :
    ts { nx := fun _ H' => Q .non H', rt := Q } (L2.start Ns vs) H := by
  obtain ⟨ds, μ, Φ, r, c, p, k⟩ := h
  exact hb ds μ Φ p _ H (slots_start r) c _ ⟨fun _ μ' _ H' f c' _ q => k .non μ' .non H' f c' .non q, fun d μ' v H' f c' r' q => k d μ' v H' f c' r' q, fun _ _ _ _ _ _ _ q => q.elim, fun _ _ _ _ _ _ _ q => q.elim, fun _ _ _ _ _ _ _ _ _ _ _ q => q.elim⟩
/-- a call -/
theorem a_call {ta : TA} (h : AA K ta τ μ fun ds μ1 => P ds μ1 Φ) : AE K (tCall (spI K P) [] E ta) τ μ Φ := fun σ H s c Q k =>
  h σ H s c _ fun ds μ1 vs H1 f1 c1 r1 p => by
    show spI K P (vs ++ []) H1 Q E
    rw [List.append_nil]
    exact ⟨ds, μ1, Φ, r1, c1, p, fun d μ' v H' f c' r q => k d μ' v H' (f1.trans f) c' r q⟩
/-- a field -/
theorem look_rel {f : Str} : ∀ {vs : List (Str × V)} {fs : List (Str × D)}, RelKV K H vs fs → fs.lookup f = some d → ∃ v, vs.lookup f = some v ∧ Rel K H v d := by
  intro vs fs r
  induction r with
  | nil => intro h; cases h
  | cons a _ ih =>
    rename_i p q ps qs _
    obtain ⟨e1, e2⟩ := a
    intro h
    rw [List.lookup_cons] at h ⊢
    rw [e1]
    split at h
    · rename_i hb
      cases h
      exact ⟨_, by simp [hb], e2⟩
    · rename_i hb
      obtain ⟨v, h1, h2⟩ := ih h
      exact ⟨v, by simp [hb, h1], h2⟩
theorem a_fld {f : Str} (h : AE K te τ μ fun o μ1 => ∃ a C dx fs, o = .ref a ∧ μ1 a = some (.ins C dx fs) ∧ Cls K C ∧ NoAttr K C f ∧ ∃ d, fs.lookup f = some d ∧ Φ d μ1) : AE K (tFld K te f) τ μ Φ := fun σ H s c Q k =>
  h σ H s c _ fun o μ1 v H1 f1 c1 r1 ⟨a, C, dx, fs, e, ha, hc, hn, d, hl, q⟩ => by
    subst e
    cases r1
    obtain ⟨vs, hv, hr⟩ := c1 a _ ha
    obtain ⟨w, hw, rw'⟩ := look_rel hr hl
    exact ⟨a, C, dx, vs, w, rfl, hv, hc, hn, hw, k d μ1 w H1 f1 c1 rw' q⟩
/-- o.f = e -/
def putD (f : Str) (d : D) : List (Str × D) → List (Str × D)
  | [] => [(f, d)]
  | (g, x) :: r => if g = f then (g, d) :: r else (g, x) :: putD f d r
theorem put_rel {f : Str} {v : V} (r : Rel K H v d) : ∀ {vs : List (Str × V)} {fs : List (Str × D)}, RelKV K H vs fs → RelKV K H (putF f v vs) (putD f d fs)
  | _, _, .nil => .cons ⟨rfl, r⟩ .nil
  | (g, x) :: vs, (g', y) :: fs, .cons a b => by
    obtain ⟨e1, e2⟩ := a
    have e1 : g = g' := e1
    subst e1
    unfold putF putD
    by_cases hg : g = f
    · rw [if_pos hg, if_pos hg]; exact .cons ⟨rfl, r⟩ b
    · rw [if_neg hg, if_neg hg]; exact .cons ⟨rfl, e2⟩ (put_rel r b)
theorem s_fld {f : Str} (h : AE K tb τ μ fun d μ1 => AE K te τ μ1 fun o μ2 => ∃ a C dx fs, o = .ref a ∧ μ2 a = some (.ins C dx fs) ∧ Cls K C ∧ NoAttr K C f ∧ fs.length < 1000 ∧ N.nx τ (μ2.set a (.ins C dx (putD f d fs)))) :
    AS K (sFld K te tb f) τ μ N := fun σ H s c E k =>
  h σ H s c _ fun d μ1 v H1 f1 c1 r1 p1 => p1 σ H1 (s.mono (f1.tx c)) c1 _ fun o μ2 w H2 f2 c2 r2 ⟨a, C, dx, fs, e, ha, hc, hn, hz, q⟩ => by
    subst e
    cases r2
    obtain ⟨vs, hv, hr⟩ := c2 a _ ha
    refine ⟨a, C, dx, vs, rfl, hv, hc, hn, ?_, ?_⟩
    · have len : ∀ {vs : List (Str × V)} {fs : List (Str × D)}, RelKV K H2 vs fs → vs.length = fs.length := by
        intro vs fs r
        induction r with
        | nil => rfl
        | cons _ _ ih => rw [List.length_cons, List.length_cons, ih]
      rw [len hr]; exact hz
    · have fr := fr_mut (H := H2) (o := .ins C dx (putF f v vs)) (m' := .ins C dx (putD f d fs)) ha
      exact k.nx τ _ σ _ ((f1.trans f2).trans fr) (con_mut c2 ha ⟨_, upd_same, put_rel (Rel.mono ((f2.trans fr).tx c1) _ _ r1) (RelKV.mono (tx_mut c2 ha) hr)⟩) (s.mono (((f1.trans f2).trans fr).tx c)) q
end
end Z
namespace Z
open PySem L2
def sets {α : Type} : List (Option α) → List Nat → List α → List (Option α)
  | l, j :: js, d :: ds => sets (l.set j (some d)) js ds
  | l, _, _ => l
theorem wipe_at (σ : L2.St) (i : Nat) : ∀ vs : List Nat, (wipe σ vs)[i]? = if i ∈ vs then (σ[i]?).map fun _ => none else σ[i]?
  | [] => by simp [wipe]
  | v :: vs => by
    have ih := wipe_at σ i vs
    unfold wipe
    by_cases h : v = i
    · subst h
      rw [if_pos (List.mem_cons_self)]
      by_cases hl : v < (wipe σ vs).length
      · rw [List.getElem?_set_self hl]
        rw [wipe_length] at hl
        rw [List.getElem?_eq_getElem hl]
        rfl
      · rw [List.getElem?_eq_none (by rw [List.length_set]; omega)]
        rw [wipe_length] at hl
        rw [List.getElem?_eq_none (by omega)]
        rfl
    · rw [List.getElem?_set_ne h, ih]
      have e : (i ∈ v :: vs) = (i ∈ vs) := by
        rw [List.mem_cons]
        exact propext ⟨fun q => q.elim (fun z => absurd z.symm h) id, .inr⟩
      simp only [e]
theorem wipe_set {σ : L2.St} {j : Nat} {x : Option V} {vs : List Nat} (h : j ∈ vs) : wipe (σ.set j x) vs = wipe σ vs := by
  apply List.ext_getElem?
  intro i
  rw [wipe_at, wipe_at]
  by_cases hi : i ∈ vs
  · rw [if_pos hi, if_pos hi]
    by_cases e : j = i
    · subst e
      by_cases hl : j < σ.length
      · rw [List.getElem?_set_self hl, List.getElem?_eq_getElem hl]; rfl
      · rw [List.getElem?_eq_none (by rw [List.length_set]; omega), List.getElem?_eq_none (by omega)]
    · rw [List.getElem?_set_ne e]
  · rw [if_neg hi, if_neg hi, List.getElem?_set_ne (fun z => hi (by rw [← z]; exact h))]
theorem wipe_wipe {σ : L2.St} {vs : List Nat} : wipe (wipe σ vs) vs = wipe σ vs := by
  apply List.ext_getElem?
  intro i
  rw [wipe_at]
  by_cases hi : i ∈ vs
  · rw [if_pos hi, wipe_at, if_pos hi]
    cases σ[i]? <;> rfl
  · rw [if_neg hi]
theorem wipe_sets {vs : List Nat} : ∀ {σ : L2.St} {js : List Nat} {xs : List V}, (∀ j ∈ js, j ∈ vs) → wipe (sets σ js xs) vs = wipe σ vs
  | σ, [], xs, _ => by unfold sets; rfl
  | σ, j :: js, [], _ => by unfold sets; rfl
  | σ, j :: js, x :: xs, h => by
    unfold sets
    rw [wipe_sets (fun k hk => h k (List.mem_cons_of_mem _ hk)), wipe_set (h j List.mem_cons_self)]
section
variable {K : PySem.W.Frag} {τ : T} {μ μ1 μ2 : M} {H H1 H2 H' : Hp} {σ : L2.St} {Φ Ψ : D → M → Prop} {ta tb tc te : TE} {r r' : R2} {tt : TT} {x y z d e : D} {N : AEnds} {ts us : TS}
theorem slots_sets : ∀ {js : List Nat} {ds : List D} {vs : List V} {τ : T} {σ : L2.St}, Rels K H vs ds → Slots K H τ σ → Slots K H (sets τ js ds) (sets σ js vs)
  | [], _, _, _, _, _, s => by unfold sets; exact s
  | j :: js, _, _, _, _, .nil, s => by unfold sets; exact s
  | j :: js, _, _, _, _, .cons a b, s => by unfold sets; exact slots_sets b (s.set a j)
/-- the slots of a block: all of vs are stored by the target -/
theorem slots_block {js : List Nat} {ds : List D} {vs : List V} (s : Slots K H τ σ) (r : Rels K H vs ds) (hl : ds.length = js.length) : Slots K H (sets τ js ds) (sets (wipe σ js) js vs) := by
  -- a slot that js stores does not hang on what stood there
  have same : ∀ (js0 : List Nat) (js : List Nat) (vs : List V) (σ σ' : L2.St), σ.length = σ'.length → js.length = vs.length → (∀ i, i ∉ js → i ∉ js0 → σ[i]? = σ'[i]?) → (∀ i, i ∈ js0 → i ∉ js → σ[i]? = σ'[i]?) → sets σ js vs = sets σ' js vs := by
    intro js0 js
    induction js with
    | nil =>
      intro vs σ σ' hL _ h1 h2
      unfold sets
      apply List.ext_getElem?
      intro i
      by_cases hi : i ∈ js0
      · exact h2 i hi (by simp)
      · exact h1 i (by simp) hi
    | cons j js ih =>
      intro vs σ σ' hL hV h1 h2
      cases vs with
      | nil => simp at hV
      | cons v vs =>
        unfold sets
        refine ih vs _ _ (by simp [hL]) (by simpa using hV) (fun i hi hi0 => ?_) (fun i hi0 hi => ?_)
        · by_cases e : j = i
          · subst e
            by_cases hl : j < σ.length
            · rw [List.getElem?_set_self hl, List.getElem?_set_self (by omega)]
            · rw [List.getElem?_eq_none (by simp; omega), List.getElem?_eq_none (by simp; omega)]
          · rw [List.getElem?_set_ne e, List.getElem?_set_ne e]
            exact h1 i (by simp [hi]; exact fun z => e z.symm) hi0
        · by_cases e : j = i
          · subst e
            by_cases hl : j < σ.length
            · rw [List.getElem?_set_self hl, List.getElem?_set_self (by omega)]
            · rw [List.getElem?_eq_none (by simp; omega), List.getElem?_eq_none (by simp; omega)]
          · rw [List.getElem?_set_ne e, List.getElem?_set_ne e]
            exact h2 i hi0 (by simp [hi]; exact fun z => e z.symm)
  have e : sets (wipe σ js) js vs = sets σ js vs := by
    refine same [] js vs _ _ (by rw [wipe_length]) (by rw [r.length, hl]) (fun i hi _ => ?_) (fun i hi _ => by simp at hi)
    rw [wipe_at, if_neg hi]
  rw [e]
  exact slots_sets r s
/-- how a target takes an item apart -/
def TgOk (K : PySem.W.Frag) (g : TG) (js : List Nat) (dec : D → List D → Prop) : Prop :=
  ∀ d ds v σ H, dec d ds → Rel K H v d → ∀ Q : L2.St → Hp → Prop, (∀ vs, Rels K H vs ds → Q (sets σ js vs) H) → g v σ H Q
theorem tg_name {j : Nat} : TgOk K (gName j) [j] fun d ds => ds = [d] := fun d ds v σ H h r Q q => by
  subst h
  exact q [v] (.cons r .nil)
theorem tg_2 {i j : Nat} : TgOk K (gTup K 2 (gCons (gName i) (gCons (gName j) gNil))) [i, j] fun d ds => d = .tup ds ∧ ds.length = 2 := fun d ds v σ H h r Q q => by
  obtain ⟨e, hl⟩ := h
  subst e
  cases r with
  | @tup a xs _ ht hr =>
    have hx := hr.length
    match xs, hx.trans hl with
    | [x, y], _ => exact ⟨a, _, rfl, ht.sq, rfl, x, _, rfl, y, _, rfl, rfl, q _ hr⟩
theorem tg_3 {i j k : Nat} : TgOk K (gTup K 3 (gCons (gName i) (gCons (gName j) (gCons (gName k) gNil)))) [i, j, k] fun d ds => d = .tup ds ∧ ds.length = 3 := fun d ds v σ H h r Q q => by
  obtain ⟨e, hl⟩ := h
  subst e
  cases r with
  | @tup a xs _ ht hr =>
    have hx := hr.length
    match xs, hx.trans hl with
    | [x, y, z], _ => exact ⟨a, _, rfl, ht.sq, rfl, x, _, rfl, y, _, rfl, z, _, rfl, rfl, q _ hr⟩
theorem tg_4 {i j k l : Nat} : TgOk K (gTup K 4 (gCons (gName i) (gCons (gName j) (gCons (gName k) (gCons (gName l) gNil))))) [i, j, k, l] fun d ds => d = .tup ds ∧ ds.length = 4 := fun d ds v σ H h r Q q => by
  obtain ⟨e, hl⟩ := h
  subst e
  cases r with
  | @tup a xs _ ht hr =>
    have hx := hr.length
    match xs, hx.trans hl with
    | [x, y, z, w], _ => exact ⟨a, _, rfl, ht.sq, rfl, x, _, rfl, y, _, rfl, z, _, rfl, w, _, rfl, rfl, q _ hr⟩
/-- what a turn of a comprehension must show -/
def LcTurn (K : PySem.W.Frag) (τ : T) (tt : TT) (te : TE) (js : List Nat) (dec : D → List D → Prop) (x : D) (acc : List D) (μ : M) (P : List D → M → Prop) : Prop :=
  ∃ xs, dec x xs ∧ xs.length = js.length ∧ AT K tt (sets τ js xs) μ fun b μ1 => if b = true then AE K te (sets τ js xs) μ1 fun y μ2 => acc.length < sizeLine ∧ P (acc ++ [y]) μ2 else P acc μ1
/-- the list that is made is at Dl, outside of the store -/
structure LcAt (K : PySem.W.Frag) (Dl : Addr) (μ0 : M) (H0 : Hp) (acc : List D) (μ' : M) (H' : Hp) : Prop where
  fr : Fr μ0 μ' H0 H'
  con : Z.Con K H' μ'
  no : μ' Dl = none
  at_ : ∃ vs, H' Dl = some (.lst vs) ∧ Rels K H' vs acc
theorem upd_out {Dl : Addr} {vs : List V} {o : HO} (c : Z.Con K H μ) (no : μ Dl = none) (h : H Dl = some (.lst vs)) (ho : ∀ xs, o ≠ .tup xs) : Tx H (upd H Dl o) ∧ Z.Con K (upd H Dl o) μ := by
  have t : Tx H (upd H Dl o) := ⟨fun a xs e => by rw [upd_ne (fun z => by subst z; rw [h] at e; cases e)]; exact e, fun a ob xs e => by rw [upd_ne (fun z => by subst z; rw [h] at e; cases e)]; exact e,
    fun a q e => by rw [upd_ne (fun z => by subst z; rw [h] at e; unfold LamX.CodeO at e; cases e)]; exact e⟩
  exact ⟨t, fun a m e => (c a m e).mono t (upd_ne (fun z => by subst z; rw [no] at e; cases e))⟩
theorem lc_step {g : TG} {js : List Nat} {dec : D → List D → Prop} {Dl : Addr} {μ0 μ' : M} {H0 : Hp} {acc : List D} {P : List D → M → Prop} {Nx : Hp → Prop} {v : V} (hD : H0 Dl = none) (hg : TgOk K g js dec) (s : Slots K H0 τ σ) (c0 : Z.Con K H0 μ0) (L : LcAt K Dl μ0 H0 acc μ' H') (rx : Rel K H' v x) (ht : LcTurn K τ tt te js dec x acc μ' P)
    (hn : ∀ acc2 μ2 H2, LcAt K Dl μ0 H0 acc2 μ2 H2 → P acc2 μ2 → Nx H2) :
    g v (wipe σ js) H' fun σ2 H2 => wipe σ2 js = wipe σ js ∧ tt σ2 H2 fun b H3 => if b = true then te σ2 H3 fun y H4 => ∃ acc, H4 Dl = some (.lst acc) ∧ acc.length < sizeLine ∧ Nx (upd H4 Dl (.lst (acc ++ [y]))) else Nx H3 := by
  obtain ⟨xs, hd, hl, ht⟩ := ht
  obtain ⟨vs0, hv0, hr0⟩ := L.at_
  refine hg x xs v _ H' hd rx _ fun vs hvs => ⟨by rw [wipe_sets (fun _ h => h), wipe_wipe], ?_⟩
  have s' : Slots K H' (sets τ js xs) (sets (wipe σ js) js vs) := slots_block (s.mono (L.fr.tx c0)) hvs hl
  refine ht _ H' s' L.con _ fun b μ1 H1 f1 c1 p => ?_
  have n1 : μ1 Dl = none := (f1 Dl _ L.no hv0).2
  have h1 : H1 Dl = some (.lst vs0) := (f1 Dl _ L.no hv0).1
  cases b with
  | false => exact hn acc μ1 H1 ⟨L.fr.trans f1, c1, n1, vs0, h1, Rels.mono (f1.tx L.con) _ _ hr0⟩ p
  | true =>
    refine (show AE K te _ μ1 _ from p) _ H1 (s'.mono (f1.tx L.con)) c1 _ fun y μ2 w H2 f2 c2 r2 ⟨hz, p2⟩ => ?_
    have n2 : μ2 Dl = none := (f2 Dl _ n1 h1).2
    have h2 : H2 Dl = some (.lst vs0) := (f2 Dl _ n1 h1).1
    have hr2 : Rels K H2 vs0 acc := Rels.mono ((f1.trans f2).tx L.con) _ _ hr0
    obtain ⟨t3, c3⟩ := upd_out (o := .lst (vs0 ++ [w])) c2 n2 h2 (fun _ z => by cases z)
    refine ⟨vs0, h2, by rw [hr0.length]; exact hz, hn _ μ2 _ ⟨fun a o n e => ?_, c3, n2, _, upd_same, Rels.mono t3 _ _ (hr2.append (.cons r2 .nil))⟩ p2⟩
    have f := (L.fr.trans f1).trans f2
    obtain ⟨e2, m2⟩ := f a o n e
    exact ⟨by rw [upd_ne (ne_of_none e hD)]; exact e2, m2⟩
theorem lc_start {Dl : Addr} (c : Z.Con K H μ) (hD : H Dl = none) : LcAt K Dl μ H [] μ (upd H Dl (.lst [])) :=
  ⟨fr_new hD, con_new hD c, c.free hD, [], upd_same, .nil⟩
theorem lc_end {Dl : Addr} {μ0 μ' : M} {H0 : Hp} {acc : List D} (hD : H0 Dl = none) (L : LcAt K Dl μ0 H0 acc μ' H') : Fr μ0 (μ'.set Dl (.lst acc)) H0 H' ∧ Z.Con K H' (μ'.set Dl (.lst acc)) := by
  obtain ⟨vs, hv, hr⟩ := L.at_
  refine ⟨fun a o n e => ?_, con_back (m := .lst acc) L.con ⟨vs, hv, hr⟩⟩
  obtain ⟨e2, m2⟩ := L.fr a o n e
  exact ⟨e2, by rw [set_ne (ne_of_none e hD)]; exact m2⟩
/-- pure elements: a filter and a map -/
theorem at_yes {Θ : Bool → M → Prop} (h : Θ true μ) : AT K tYes τ μ Θ := fun σ H s c Q k => k true μ H Fr.refl c h
end
end Z
namespace Z
open PySem L2
section
variable {K : PySem.W.Frag} {τ : T} {μ μ1 μ2 : M} {H H1 H2 H' : Hp} {σ : L2.St} {Φ Ψ : D → M → Prop} {ta tb tc te : TE} {r r' : R2} {tt : TT} {x y z d e : D} {N : AEnds} {ts us : TS}
theorem s_par3 {i j l : Nat} {ta : TA} (h : AA K ta τ μ fun ds μ' => ∃ d e w, ds = [d, e, w] ∧ N.nx (((τ.set i (some d)).set j (some e)).set l (some w)) μ') : AS K (tPar3 i j l ta) τ μ N := fun σ H s c E k =>
  h σ H s c _ fun ds μ' vs H' f c' r ⟨d, e, w, q, p⟩ => by
    subst q
    cases r with
    | cons r1 r2 =>
      cases r2 with
      | cons r2 r3 =>
        cases r3 with
        | cons r3 r4 =>
          cases r4
          exact ⟨_, _, _, rfl, k.nx _ μ' _ H' f c' ((((s.mono (f.tx c)).set r1 i).set r2 j).set r3 l) p⟩
def tyn (μ : M) : D → Option String
  | .non => some "NoneType"
  | .bl _ => some "bool"
  | .int _ => some "int"
  | .str _ => some "str"
  | .tup _ => some "tuple"
  | .rol _ => some "list"
  | .ref a => match μ a with
    | some (.lst _) => some "list"
    | some (.dK _) => some "dict"
    | some (.dT _) => some "dict"
    | _ => none
  | .ty _ => none
theorem tyx_of {v : V} {n : String} (c : Z.Con K H μ) (r : Rel K H v d) (h : tyn μ d = some n) : TyX K H v (.type n) := by
  cases r with
  | non => cases h; exact .base .non
  | bl => cases h; exact .base (.bl _)
  | int => cases h; exact .base (.int _)
  | str => cases h; exact .base (.str _)
  | ty => cases h
  | tup ht hr =>
    cases h
    cases ht with
    | inl ht => exact .base (.tup ht)
  | rol ht hr =>
    cases h
    rcases ht with ⟨o, ht⟩ | ⟨o, its, m, h1, h2, _⟩
    · exact .base (.frz ht)
    · exact .kList h1 h2
  | ref a =>
    unfold tyn at h
    simp only at h
    split at h
    · rename_i e; cases h; obtain ⟨xs, hx, _⟩ := c _ _ e; exact .base (.lst hx)
    · rename_i e; cases h; obtain ⟨xs, hx, _⟩ := c _ _ e; exact .base (.dK hx)
    · rename_i e; cases h; obtain ⟨xs, hx, _⟩ := c _ _ e; exact .base (.dT hx)
    · cases h
theorem rc_isi {n m : String} {b : Bool} (h : tyn μ d = some n) (hk : kitB n m = some b) (q : Φ (.bl b) μ) : RC K (rIsi K) [d, .ty m] μ Φ := fun H xs c r1 Q k => by
  cases r1 with
  | cons a r2 =>
    cases r2 with
    | cons a2 r3 =>
      cases a2; cases r3
      exact ⟨_, _, .type n, .type m, b, rfl, .ty m, tyx_of c a h, kit_ty hk, k _ μ _ H Fr.refl c (.bl _) q⟩
theorem a_chain (h : AE K ta τ μ fun d μ1 => AE K tb τ μ1 fun e μ2 => RO K r d e μ2 fun z μ3 => ∃ b, z = .bl b ∧ if b = true then AE K tc τ μ3 fun w μ4 => RO K r' e w μ4 Φ else Φ (.bl false) μ3) : AE K (tChain r r' ta tb tc) τ μ Φ := fun σ H s c Q k =>
  h σ H s c _ fun d μ1 v H1 f1 c1 r1 p1 => p1 σ H1 (s.mono (f1.tx c)) c1 _ fun e μ2 u H2 f2 c2 r2 p2 =>
    p2 H2 v u c2 (Rel.mono (f2.tx c1) _ _ r1) r2 _ fun z μ3 w H3 f3 c3 rz ⟨b, ez, p3⟩ => by
      subst ez
      cases rz
      refine ⟨b, rfl, ?_⟩
      cases b with
      | false => exact k _ μ3 _ H3 ((f1.trans f2).trans f3) c3 (.bl false) (show Φ (.bl false) μ3 from p3)
      | true =>
        exact (show AE K tc τ μ3 _ from p3) σ H3 (s.mono (((f1.trans f2).trans f3).tx c)) c3 _ fun w μ4 w' H4 f4 c4 r4 p4 =>
          p4 H4 u w' c4 (Rel.mono ((f3.trans f4).tx c2) _ _ r2) r4 Q fun z μ5 o H5 f5 c5 rz pz => k z μ5 o H5 ((((f1.trans f2).trans f3).trans f4).trans f5) c5 rz pz
def rInS (K : PySem.W.Frag) (neg : Bool) : R2 := fun x y H Q => ∃ d ds, Dp K H x d ∧ (Dp K H y (.list ds) ∨ Dp K H y (.tuple ds)) ∧ SeqAt.shaped d = true ∧ SeqAt.shaped (.list ds) = true ∧ Q (.bl (if neg then !ds.any fun z => PyData.eqv z d else ds.any fun z => PyData.eqv z d)) H
theorem op_inS {X : Cx} (hu : X.A.units + 65 < cLine) : OpR X (compareOp .In) (rInS X.K false) := by
  intro pins s σ H x y v u Q I rx ry h
  obtain ⟨d, ds, hd, he, sd, se, q⟩ := h
  obtain ⟨as, r1⟩ := Dp.reads I d x v hd rx
  rcases he with he | he
  · obtain ⟨bs, r2⟩ := Dp.reads I (.list ds) y u he ry
    exact SeqAt.in_list_reads r2 r1 (SeqAt.canLay_of_shaped se) (SeqAt.canLay_of_shaped sd) (PyProof.Rows.room_in_shaped sd hu) ⟨.bl _, H, I, rfl, q⟩
  · obtain ⟨bs, r2⟩ := Dp.reads I (.tuple ds) y u he ry
    exact SeqAt.in_tuple_reads r2 r1 (SeqAt.canLay_of_shaped se) (SeqAt.canLay_of_shaped sd) (PyProof.Rows.room_in_shaped sd hu) ⟨.bl _, H, I, rfl, q⟩
theorem op_notInS {X : Cx} (hu : X.A.units + 65 < cLine) : OpR X (compareOp .NotIn) (rInS X.K true) := by
  intro pins s σ H x y v u Q I rx ry h
  obtain ⟨d, ds, hd, he, sd, se, q⟩ := h
  obtain ⟨as, r1⟩ := Dp.reads I d x v hd rx
  rcases he with he | he
  · obtain ⟨bs, r2⟩ := Dp.reads I (.list ds) y u he ry
    exact SeqAt.notIn_list_reads r2 r1 (SeqAt.canLay_of_shaped se) (SeqAt.canLay_of_shaped sd) (PyProof.Rows.room_in_shaped sd hu) ⟨.bl _, H, I, rfl, q⟩
  · obtain ⟨bs, r2⟩ := Dp.reads I (.tuple ds) y u he ry
    exact SeqAt.notIn_tuple_reads r2 r1 (SeqAt.canLay_of_shaped se) (SeqAt.canLay_of_shaped sd) (PyProof.Rows.room_in_shaped sd hu) ⟨.bl _, H, I, rfl, q⟩
theorem seq_dp {v : V} {ds : List D} (c : Z.Con K H μ) (r : Rel K H v d) (h : seqD μ d = some ds) (hp : D.plains ds = true) : Dp K H v (.list (D.pys ds)) ∨ Dp K H v (.tuple (D.pys ds)) := by
  cases r with
  | tup ht hr => cases h; exact .inr (.tup ht.sq (Rels.dp _ _ hr hp))
  | rol ht hr => cases h; exact .inl (.lst ht.sq (Rels.dp _ _ hr hp))
  | ref a =>
    unfold seqD at h
    simp only at h
    split at h
    · rename_i ds' e
      cases h
      obtain ⟨xs, h1, h2⟩ := c _ _ e
      exact .inl (.lst (SqL.of h1) (Rels.dp _ _ h2 hp))
    · cases h
  | non => cases h
  | bl => cases h
  | int => cases h
  | str => cases h
  | ty => cases h
def inD (d : D) (ds : List D) : Bool := ds.any fun z => D.eqv z d
theorem inD_pys (d : D) : ∀ ds : List D, (D.pys ds).any (fun z => PyData.eqv z (D.py d)) = inD d ds
  | [] => by simp [D.pys, inD]
  | x :: ds => by
    have ih := inD_pys d ds
    unfold inD at ih ⊢
    simp only [D.pys, List.any_cons, ih]
    rfl
theorem ro_inS {neg : Bool} {ds : List D} (hs : seqD μ e = some ds) (h1 : D.ok d = true) (h2 : D.ok (.tup ds) = true) (q : Φ (.bl (if neg then !inD d ds else inD d ds)) μ) : RO K (rInS K neg) d e μ Φ := fun H x y c r1 r2 Q k => by
  unfold D.ok at h1 h2
  rw [Bool.and_eq_true] at h1 h2
  have p2 : D.plains ds = true := by simpa only [D.plain] using h2.1
  refine ⟨_, D.pys ds, Rel.dp _ _ r1 h1.1, seq_dp c r2 hs p2, h1.2, ?_, ?_⟩
  · have h3 := h2.2
    simp only [D.py] at h3
    exact h3
  · rw [inD_pys]
    exact k _ μ _ H Fr.refl c (.bl _) q
end
/-- a def of the text with its promise -/
structure Def (P : Program) (w : World) (K : PySem.W.Frag) (mg : Str → Option Value) (base : Heap) (x : Str) (ps : List Str) (k : Nat) (sp : Sp) : Prop where
  ex : ∃ f fd, FnOk P w K mg base CX0 k f fd ps sp ∧ mg x = some (.ref f) ∧ PySem.W.keepIn K (.ref f) = true ∧ Binds K fd ps []
section
variable {X : Cx} {k : Nat} {ps : List Str} {sp : Sp} {x : Str} {p pos : Pos} {e : Expr} {es : List Expr} {t : TA}
theorem pe_def (G : Def X.prog X.w X.K X.mg X.base x ps k sp) (hr : Room k X.A) (hg : Gl X x)
    (ha : PA X (e :: es) t) (hdb : (x == ("__debug__" : Str)) = false := by decide) (he : starEach (e :: es) X.env = (false, eval e X.env) :: starEach es X.env := by rfl) (hpl : (backTo pos (starEach es X.env)).any (·.1) = false := by rfl) :
    PE X (.Call (.Name x p) (e :: es) [] pos) (tCall sp [] E0 t) := by
  obtain ⟨f, fd, F, hm, hk, hb⟩ := G.ex
  exact pe_call F hr hg hm hk hb .nil pass0 ha hdb he hpl
end
end Z
namespace Z
open PySem L2
theorem seq_ref {μ : M} {a : Addr} {ds : List D} (h : μ a = some (.lst ds)) : seqD μ (.ref a) = some ds := by
  show (match μ a with | some (.lst ds) => some ds | _ => none) = some ds
  rw [h]
def Sz (n : Nat) (x : Int) : Prop := x.natAbs < 2 ^ n
instance {n : Nat} {x : Int} : Decidable (Sz n x) := inferInstanceAs (Decidable (x.natAbs < 2 ^ n))
theorem sz_mono {a b : Nat} {x : Int} (h : Sz a x) (l : a ≤ b) : Sz b x := Nat.lt_of_lt_of_le h (Nat.pow_le_pow_right (by decide) l)
theorem sz_add {a b : Nat} {x y : Int} (h : Sz a x) (k : Sz b y) : Sz (max a b + 1) (x + y) := by
  have h1 : x.natAbs < 2 ^ (max a b) := Nat.lt_of_lt_of_le h (Nat.pow_le_pow_right (by decide) (Nat.le_max_left _ _))
  have h2 : y.natAbs < 2 ^ (max a b) := Nat.lt_of_lt_of_le k (Nat.pow_le_pow_right (by decide) (Nat.le_max_right _ _))
  have h3 := Int.natAbs_add_le x y
  unfold Sz
  rw [Nat.pow_succ]
  omega
theorem sz_neg {a : Nat} {x : Int} (h : Sz a x) : Sz a (-x) := by
  unfold Sz
  rw [Int.natAbs_neg]
  exact h
theorem sz_sub {a b : Nat} {x y : Int} (h : Sz a x) (k : Sz b y) : Sz (max a b + 1) (x - y) := by
  rw [Int.sub_eq_add_neg]
  exact sz_add h (sz_neg k)
theorem sz_mul {a b : Nat} {x y : Int} (h : Sz a x) (k : Sz b y) : Sz (a + b) (x * y) := wide_lt h k
theorem sz_mod {a : Nat} {x y : Int} (hy : 0 < y) (k : Sz a y) : Sz a (x % y) := by
  have h1 := Int.emod_nonneg x (by omega : y ≠ 0)
  have h2 := Int.emod_lt_of_pos x hy
  have k' : y.natAbs < 2 ^ a := k
  unfold Sz
  omega
theorem sz_b {b : Bool} : Sz 1 (if b then 1 else 0) := by cases b <;> decide
theorem sz_128 {x : Int} (h : decide (x.natAbs < 2 ^ 128) = true) : Sz 128 x := of_decide_eq_true h
theorem sz_2 {x : Int} (h : decide (x.natAbs < 2 ^ 2) = true) : Sz 2 x := of_decide_eq_true h
theorem sz_8 {x : Int} (h : decide (x.natAbs < 2 ^ 8) = true) : Sz 8 x := of_decide_eq_true h
theorem sz_32 {x : Int} (h : decide (x.natAbs < 2 ^ 32) = true) : Sz 32 x := of_decide_eq_true h
theorem hu65_of {k : Nat} {A : Around} (hr : Room k A) : A.units + 65 < cLine := by have := hr.un; omega
theorem mulw_of {a b : Nat} {x y : Int} (h : Sz a x) (k : Sz b y) (l : (a + 1) + (b + 1) ≤ 1000000) : CMulW x y :=
  wide_mul (a := a + 1) (b := b + 1) (sz_mono h (Nat.le_succ a)) (sz_mono k (Nat.le_succ b)) (Nat.succ_pos _) (Nat.succ_pos _) l
theorem divw_of {b : Nat} {x y : Int} (h : 0 < y) (k : Sz b y) (l : b + 1 ≤ 9000) : CDivW x y := wide_div (b := b + 1) h (sz_mono k (Nat.le_succ b)) (Nat.succ_pos _) l
abbrev pt (x y : Int) : D := .tup [.int x, .int y]
def sgn (n : Int) : Int := if 0 < n then 1 else if n < 0 then -1 else 0
section
variable {X : Cx} {K : PySem.W.Frag}
theorem ix_seqK (h : X.K = K) : IxR X (rIx K) := by subst h; exact ix_seq
theorem op_eqDK (h : X.K = K) (hu : X.A.units + 64 < cLine) : OpR X (compareOp .Eq) (rEqD K) := by subst h; exact op_eqD hu
theorem op_neDK (h : X.K = K) (hu : X.A.units + 64 < cLine) : OpR X (compareOp .NotEq) (rNeD K) := by subst h; exact op_neD hu
theorem op_inSK (h : X.K = K) (hu : X.A.units + 65 < cLine) : OpR X (compareOp .In) (rInS K false) := by subst h; exact op_inS hu
theorem op_notInSK (h : X.K = K) (hu : X.A.units + 65 < cLine) : OpR X (compareOp .NotIn) (rInS K true) := by subst h; exact op_notInS hu
theorem call_isiK1 (h : X.K = K) : CallR X (.builtin "isinstance") (rIsi K) := by subst h; exact call_isi
theorem call_lenK (h : X.K = K) : CallR X (.builtin "len") (fun xs H Q => ∃ x n, xs = [x] ∧ LenV K x H n ∧ Q (.int n) H) := by subst h; exact call_len
theorem cr_allK (h : X.K = K) (hc : X.calm = true) : CallR X (.builtin "all") (rAll K) := by subst h; exact cr_all hc
theorem cr_anyK (h : X.K = K) (hc : X.calm = true) : CallR X (.builtin "any") (rAny K) := by subst h; exact cr_any hc
theorem call_tupleK (h : X.K = K) : CallR X (.type "tuple") (fun xs H Q => ∃ p ys, xs = [V.ref p] ∧ ((SqL K H p ys ∧ ∀ l, H l = none → Q (.ref l) (upd H l (.tup ys))) ∨ (SqT K H p ys ∧ Q (.ref p) H))) := by subst h; exact call_tuple_of
theorem call_listK (h : X.K = K) : CallR X (.type "list") (fun xs H Q => ∃ p ys, xs = [V.ref p] ∧ (SqL K H p ys ∨ SqT K H p ys) ∧ ∀ l, H l = none → Q (.ref l) (upd H l (.lst ys))) := by subst h; exact call_list_of
theorem pe_fldK {e : Expr} {ta : TE} {f : Str} {pos : Pos} (h : X.K = K) (he : PE X e ta) (hb : attributeBase e f X.env (eval e X.env) = eval e X.env) : PE X (.Attribute e f pos) (tFld K ta f) := by subst h; exact pe_fld he hb
theorem pi_listK {tg l : Expr} {tl : TE} (h : X.K = K) (hl : PE X l tl) : PI X tg l (iList K tl) := by subst h; exact pi_list hl
theorem pi_tupK {tg l : Expr} {tl : TE} (h : X.K = K) (hl : PE X l tl) : PI X tg l (iTup K tl) := by subst h; exact pi_tup hl
end
end Z
namespace Z
open PySem L2
def P_law : PT3 := fun ds μ Φ => ∃ ns : List Int, ds = [.rol (ns.map D.int)] ∧ ns.length ≤ 63 ∧ ∀ μ', Φ (.bl true) μ'
theorem rels_map {K : PySem.W.Frag} {H : Hp} : ∀ ns : List Int, Rels K H (ns.map V.int) (ns.map D.int)
  | [] => .nil
  | n :: ns => .cons (.int n) (rels_map ns)
theorem len_law (ds : List D) (μ : M) (Φ : D → M → Prop) (h : P_law ds μ Φ) : ds.length = 1 := by
  obtain ⟨ns, rfl, _⟩ := h
  rfl
def P_l_cell_at : PT3 := fun ds μ Φ => ∃ (ns : List Int) (k : Int), ds = [.rol (ns.map D.int), .int k] ∧ 0 ≤ k ∧ ∀ z, Φ (.int z) μ
theorem len_l_cell_at (ds : List D) (μ : M) (Φ : D → M → Prop) (h : P_l_cell_at ds μ Φ) : ds.length = 2 := by
  obtain ⟨_, _, rfl, _⟩ := h
  rfl
/-- a bag: what its second number is -/
def BgOk (m : Int) : Prop := 0 ≤ m ∧ m < 2147483648
def P_l_bag : PT3 := fun ds μ Φ => ∃ (ns : List Int) (k : Int), ds = [.rol (ns.map D.int), .int k] ∧ 0 ≤ k ∧ k ≤ 1000 ∧ ∀ p c m, μ p = none → BgOk m → Φ (.ref p) (μ.set p (.lst [.int c, .int m]))
theorem len_l_bag (ds : List D) (μ : M) (Φ : D → M → Prop) (h : P_l_bag ds μ Φ) : ds.length = 2 := by
  obtain ⟨_, _, rfl, _⟩ := h
  rfl
def P_l_take : PT3 := fun ds μ Φ => ∃ (b : Addr) (n c m : Int), ds = [.ref b, .int n] ∧ μ b = some (.lst [.int c, .int m]) ∧ BgOk m ∧ 0 < n ∧ Sz 4000 n ∧ ∀ d c' m', 0 ≤ d → d < n → Sz 4000 d → BgOk m' → Φ (.int d) (μ.set b (.lst [.int c', .int m']))
theorem len_l_take (ds : List D) (μ : M) (Φ : D → M → Prop) (h : P_l_take ds μ Φ) : ds.length = 2 := by
  obtain ⟨_, _, _, _, rfl, _⟩ := h
  rfl
theorem cast_int {Φ : D → M → Prop} {μ : M} {a b : Int} (e : a = b) (h : Φ (.int b) μ) : Φ (.int a) μ := by rw [e]; exact h
theorem iteNT {A B : Prop} (h : B) : if (!true) = true then A else B := h
theorem iteNF {A B : Prop} (h : A) : if (!false) = true then A else B := h
/-- an if whose test is a comparison -/
theorem ite_d {p : Prop} [Decidable p] {A B : Prop} (h1 : p → A) (h2 : ¬ p → B) : if decide p = true then A else B := by
  by_cases h : p
  · rw [if_pos (decide_eq_true h)]; exact h1 h
  · rw [if_neg (by simpa using h)]; exact h2 h
theorem ite_nd {p : Prop} [Decidable p] {A B : Prop} (h1 : ¬ p → A) (h2 : p → B) : if (!decide p) = true then A else B := by
  by_cases h : p
  · rw [if_neg (by simpa using h)]; exact h2 h
  · rw [if_pos (by simpa using h)]; exact h1 h
theorem map_get {ns : List Int} {k : Int} (h0 : 0 ≤ k) (h1 : k < ns.length) : ∃ z, atI (ns.map D.int) k = some (.int z) := by
  obtain ⟨j, rfl⟩ := Int.eq_ofNat_of_zero_le h0
  have hj : j < ns.length := by omega
  exact ⟨ns[j], atI_nat (by rw [List.getElem?_map, List.getElem?_eq_getElem hj]; rfl)⟩
/-- an if, then a word of what holds behind it -/
theorem if_cut {K : PySem.W.Frag} {τ : T} {μ : M} {N : AEnds} {t1 t2 : TS} {b : Bool} (M0 : T → M → Prop) (h1 : b = true → AS K t1 τ μ { N with nx := M0 }) (h2 : b = false → AS K t2 τ μ { N with nx := M0 }) (k : ∀ τ' μ', M0 τ' μ' → N.nx τ' μ') :
    if b = true then AS K t1 τ μ N else AS K t2 τ μ N := by
  cases b with
  | true => rw [if_pos rfl]; exact (h1 rfl).imp k (fun _ _ h => h) (fun _ _ h => h) fun _ _ h => h
  | false => rw [if_neg Bool.false_ne_true]; exact (h2 rfl).imp k (fun _ _ h => h) (fun _ _ h => h) fun _ _ h => h
section
variable {K : PySem.W.Frag} {τ : T} {μ μ1 μ2 : M} {Φ : D → M → Prop} {tl te : TE} {tt : TT}
theorem sets1 {j : Nat} {x : D} : sets τ [j] [x] = τ.set j (some x) := rfl
theorem filt_step {f : D → D} {p : D → Bool} {ds : List D} {i : Nat} {x : D} (h : ds[i]? = some x) : (ds.take (i + 1)).filter p = (ds.take i).filter p ++ (if p x = true then [x] else []) := by
  rw [List.take_add_one, h, List.filter_append]
  congr 1
  simp only [Option.toList_some, List.filter_cons, List.filter_nil]
theorem lc_pure_turn {j : Nat} (f : D → D) (p : D → Bool) {ds : List D} {i : Nat} {x : D} (hz : ds.length < sizeLine) (hx : ds[i]? = some x)
    (ht : AT K tt (τ.set j (some x)) μ1 fun b μ2 => b = p x ∧ μ2 = μ1) (he : p x = true → AE K te (τ.set j (some x)) μ1 fun y μ2 => y = f x ∧ μ2 = μ1) :
    LcTurn K τ tt te [j] (fun d ds => ds = [d]) x (((ds.take i).filter p).map f) μ1 fun acc μ' => μ' = μ1 ∧ acc = ((ds.take (i + 1)).filter p).map f := by
  refine ⟨[x], rfl, rfl, ?_⟩
  rw [sets1]
  refine ht.imp fun b μ' ⟨e1, e2⟩ => ?_
  subst e2
  rw [filt_step (f := f) hx]
  cases b with
  | true =>
    rw [if_pos rfl]
    refine (he e1.symm).imp fun y μ' ⟨e3, e4⟩ => ?_
    subst e4
    refine ⟨?_, rfl, ?_⟩
    · rw [List.length_map]
      have h1 := List.length_filter_le p (ds.take i)
      have h2 : (ds.take i).length ≤ ds.length := by rw [List.length_take]; omega
      omega
    · rw [if_pos e1.symm, List.map_append, e3]
      rfl
  | false =>
    rw [if_neg Bool.false_ne_true]
    refine ⟨rfl, ?_⟩
    rw [if_neg (by rw [← e1]; exact Bool.false_ne_true), List.append_nil]
end
end Z
namespace Z
open PySem L2
/-- J yields xs in turn while G stands; what is at out is not in the store meanwhile -/
structure WalkD (K : PySem.W.Frag) (J : It) (xs : List D) (out : Addr → Prop) (G : Hp → Prop) : Prop where
  keep : ∀ H H' μ μ', Z.Con K H μ → (∀ a, out a → μ a = none) → G H → Fr μ μ' H H' → G H'
  oo : ∀ H a, G H → out a → ∃ o, H a = some o
  go : ∀ i H, i < xs.length → G H → J.go i H
  stop : ∀ i H, xs.length ≤ i → G H → J.stop i H
  yld : ∀ i H v H', i < xs.length → G H → J.yld i H v H' → ∃ x, xs[i]? = some x ∧ Rel K H' v x ∧ (H' = H ∨ ∃ T vs, H T = none ∧ H' = upd H T (.tup vs))
/-- how the store is put together again -/
structure Back (K : PySem.W.Frag) (μ μw : M) (H H1 : Hp) (back : M → M) : Prop where
  fr : ∀ μ' H', Fr μw μ' H1 H' → Fr μ (back μ') H H'
  con : ∀ μ' H', Fr μw μ' H1 H' → Z.Con K H' μ' → Z.Con K H' (back μ')
  nw : ∀ μ' p, H1 p = none → μ' p = none → back μ' p = none
  old : ∀ b o, μ b = none → H b = some o → H1 b = some o
/-- a source: what follows is told of the items, the store while it is walked, the way back -/
def AI (K : PySem.W.Frag) (wi : TI) (τ : T) (μ : M) (Ψ : List D → M → (M → M) → Prop) : Prop :=
  ∀ σ H, Slots K H τ σ → Z.Con K H μ → ∀ R : It → Hp → Prop,
    (∀ J xs out G H1 μw back, Tx H H1 → Z.Con K H1 μw → WalkD K J xs out G → G H1 → (∀ a, out a → μw a = none) → Back K μ μw H H1 back → Ψ xs μw back → R J H1) → wi σ H R
section
variable {K : PySem.W.Frag} {τ : T} {μ μ1 μ2 : M} {H H1 H2 H' : Hp} {σ : L2.St} {Φ : D → M → Prop} {ta tl te : TE} {tt : TT} {N : AEnds} {ts tb : TS} {g : TG} {wi : TI}
def turnB (N : AEnds) (back : M → M) (P : T → M → Prop) : AEnds := { nx := P, ct := P, rt := fun d μ' => N.rt d (back μ'), bk := fun τ' μ' => N.nx τ' (back μ'), W := N.W, cn := N.cn, xs := fun x dx τ' μ' => N.xs x dx τ' (back μ') }
/-- behind one yield -/
theorem yld_ok {T0 : Addr} {vs : List V} (c : Z.Con K H μ) (h : H T0 = none) : Fr μ μ H (upd H T0 (.tup vs)) ∧ Z.Con K (upd H T0 (.tup vs)) μ := ⟨fr_new h, con_new h c⟩
theorem s_for (h : AI K wi τ μ fun xs μw back => ∃ P : Nat → T → M → Prop, P 0 τ μw ∧ (∀ (i : Nat) x τ' μ', xs[i]? = some x → P i τ' μ' → AG K g x τ' μ' fun τ2 μ2 => AS K tb τ2 μ2 (turnB N back (P (i + 1)))) ∧ ∀ τ' μ', P xs.length τ' μ' → N.nx τ' (back μ')) :
    AS K (tFor wi g tb) τ μ N := fun σ H s c E k => by
  refine h σ H s c _ fun J xs out G H1 μw back tx c1 W g1 o1 B ⟨P, p0, hs, hd⟩ => ?_
  refine ⟨fun i m σ' H' => m = xs.length - i ∧ i ≤ xs.length ∧ ∃ τ' μ', Fr μw μ' H1 H' ∧ Z.Con K H' μ' ∧ Slots K H' τ' σ' ∧ P i τ' μ', ⟨xs.length, by omega, Nat.zero_le _, τ, μw, Fr.refl, c1, s.mono tx, p0⟩, ?_⟩
  rintro i m σ' H' ⟨rfl, hi, τ', μ', f, c', s', p⟩
  have gH : G H' := W.keep _ _ _ _ c1 o1 g1 f
  by_cases hlt : i < xs.length
  · refine .inr ⟨W.go i H' hlt gH, fun σ2 H2 => ∃ τ2 μ2, Fr μw μ2 H1 H2 ∧ Z.Con K H2 μ2 ∧ Slots K H2 τ2 σ2 ∧ P (i + 1) τ2 μ2, fun σ2 H2 ⟨τ2, μ2, f2, c2, s2, p2⟩ => ⟨xs.length - (i + 1), by omega, rfl, hlt, τ2, μ2, f2, c2, s2, p2⟩, fun v H2 y => ?_⟩
    obtain ⟨x, hx, rx, hH⟩ := W.yld i H' v H2 hlt gH y
    have fy : Fr μ' μ' H' H2 ∧ Z.Con K H2 μ' := by
      rcases hH with e | ⟨T0, vs, hT, e⟩
      · rw [e]; exact ⟨Fr.refl, c'⟩
      · rw [e]; exact yld_ok c' hT
    refine hs i x τ' μ' hx p σ' H2 v (s'.mono (fy.1.tx c')) fy.2 rx _ fun τ3 μ3 σ3 H3 f3 c3 s3 q => ?_
    have fa := (f.trans fy.1).trans f3
    refine q σ3 H3 s3 c3 _ ⟨fun τ4 μ4 σ4 H4 f4 c4 s4 p4 => ⟨τ4, μ4, fa.trans f4, c4, s4, p4⟩, fun d4 μ4 v4 H4 f4 c4 r4 p4 => ?_, fun τ4 μ4 σ4 H4 f4 c4 s4 p4 => ?_, fun τ4 μ4 σ4 H4 f4 c4 s4 p4 => ⟨τ4, μ4, fa.trans f4, c4, s4, p4⟩, fun x1 x2 x3 x4 x5 x6 x7 x8 f' c' s' p' => k.wx x1 x2 x3 _ x5 x6 x7 x8 (B.fr _ _ (fa.trans f')) (B.con _ _ (fa.trans f') c') s' p'⟩
    · exact k.rt d4 (back μ4) v4 H4 (B.fr _ _ (fa.trans f4)) (B.con _ _ (fa.trans f4) c4) r4 p4
    · exact k.nx τ4 (back μ4) σ4 H4 (B.fr _ _ (fa.trans f4)) (B.con _ _ (fa.trans f4) c4) s4 p4
  · have e : i = xs.length := by omega
    subst e
    exact .inl ⟨W.stop _ H' (Nat.le_refl _) gH, k.nx τ' (back μ') σ' H' (B.fr _ _ f) (B.con _ _ f c') s' (hd τ' μ' p)⟩
theorem a_lc {js : List Nat} {dec : D → List D → Prop} (hg : TgOk K g js dec)
    (h : AI K wi τ μ fun xs μw back => ∃ P : Nat → List D → M → Prop, P 0 [] μw ∧ (∀ (i : Nat) x acc μ', xs[i]? = some x → P i acc μ' → LcTurn K τ tt te js dec x acc μ' (P (i + 1))) ∧ ∀ acc μ', P xs.length acc μ' → ∀ p, back μ' p = none → Φ (.ref p) ((back μ').set p (.lst acc))) :
    AE K (tLc wi g tt te js) τ μ Φ := fun σ H s c Q k => by
  refine h σ H s c _ fun J xs out G H1 μw back tx c1 W g1 o1 B ⟨P, p0, hs, hd⟩ Dl hD => ?_
  have s1 := s.mono tx
  refine ⟨fun i m H' => m = xs.length - i ∧ i ≤ xs.length ∧ ∃ acc μ', LcAt K Dl μw H1 acc μ' H' ∧ P i acc μ', ⟨xs.length, by omega, Nat.zero_le _, [], μw, lc_start c1 hD, p0⟩, ?_⟩
  rintro i m H' ⟨rfl, hi, acc, μ', L, p⟩
  have gH : G H' := W.keep _ _ _ _ c1 o1 g1 L.fr
  by_cases hlt : i < xs.length
  · refine .inr ⟨W.go i H' hlt gH, fun H2 => ∃ acc2 μ2, LcAt K Dl μw H1 acc2 μ2 H2 ∧ P (i + 1) acc2 μ2, fun H2 ⟨acc2, μ2, L2, p2⟩ => ⟨xs.length - (i + 1), by omega, rfl, hlt, acc2, μ2, L2, p2⟩, fun v H2 y => ?_⟩
    obtain ⟨x, hx, rx, hH⟩ := W.yld i H' v H2 hlt gH y
    have L2 : LcAt K Dl μw H1 acc μ' H2 := by
      rcases hH with e | ⟨T0, vs, hT, e⟩
      · rw [e]; exact L
      · obtain ⟨f2, c2⟩ := yld_ok (vs := vs) L.con hT
        obtain ⟨ws, hw, hr⟩ := L.at_
        rw [e]
        exact ⟨L.fr.trans f2, c2, L.no, ws, by rw [upd_ne (fun z => by rw [z, hT] at hw; cases hw)]; exact hw, Rels.mono (tx_new hT) _ _ hr⟩
    exact lc_step hD hg s1 c1 L2 rx (hs i x acc μ' hx p) fun acc2 μ2 H3 L3 p3 => ⟨acc2, μ2, L3, p3⟩
  · have e : i = xs.length := by omega
    subst e
    obtain ⟨vs, hv, hr⟩ := L.at_
    refine .inl ⟨W.stop _ H' (Nat.le_refl _) gH, ?_⟩
    have hbn : back μ' Dl = none := B.nw _ _ hD L.no
    have fb := B.fr _ _ L.fr
    have cb := B.con _ _ L.fr L.con
    refine k _ _ _ H' (fun b o n e => ?_) (con_back (m := .lst acc) cb ⟨vs, hv, hr⟩) (.ref Dl) (hd acc μ' p Dl hbn)
    obtain ⟨e2, n2⟩ := fb b o n e
    have hb : b ≠ Dl := fun z => by
      have e3 := B.old b o n e
      rw [z, hD] at e3; cases e3
    exact ⟨e2, by rw [set_ne hb]; exact n2⟩
theorem back_id (f : Fr μ μ1 H H1) : Back K μ μ1 H H1 id := ⟨fun _ _ g => f.trans g, fun _ _ _ c => c, fun _ _ _ h => h, fun b o n e => (f b o n e).1⟩
/-- a list set aside -/
theorem back_set {a : Addr} {vs : List V} {ds : List D} (c1 : Z.Con K H1 μ1) (hl : μ1 a = some (.lst ds)) (hx : H1 a = some (.lst vs)) (hr : Rels K H1 vs ds) (f : Fr μ μ1 H H1) : Back K μ (μ1.del a) H H1 (fun μ' => μ'.set a (.lst ds)) where
  fr := fun μ' H' g => fr_back hl f g
  con := fun μ' H' g c => con_back (m := .lst ds) c ⟨vs, (g a _ del_same hx).1, Rels.mono (g.tx (c1.sub del_sub)) _ _ hr⟩
  nw := fun μ' p hp n => by
    rw [set_ne (fun z => by rw [z, hx] at hp; cases hp)]
    exact n
  old := fun b o n e => (f b o n e).1
theorem walk_T {a : Addr} {vs : List V} {ds : List D} (hr : Rels K H1 vs ds) : WalkD K (Itt K a) ds (fun _ => False) (fun H' => TupAt K H' a vs ∧ Rels K H' vs ds) where
  keep := fun H H' μ μ' c _ g f => ⟨g.1.mono (f.tx c), Rels.mono (f.tx c) _ _ g.2⟩
  oo := fun _ _ _ h => h.elim
  go := fun i H' hi g => by
    have hv : i < vs.length := by rw [hr.length]; exact hi
    exact ⟨vs, vs[i], g.1.sq, List.getElem?_eq_getElem hv⟩
  stop := fun i H' hi g => ⟨vs, g.1.sq, by rw [hr.length]; exact hi⟩
  yld := fun i H' v H2 hi g y => by
    obtain ⟨e, q⟩ := y
    obtain ⟨x, h1, h2⟩ := g.2.getV (q vs g.1.sq)
    subst e
    exact ⟨x, h1, h2, .inl rfl⟩
theorem walk_L {a : Addr} {vs : List V} {ds : List D} (hr : Rels K H1 vs ds) : WalkD K (Itl K a) ds (fun b => b = a) (fun H' => H' a = some (.lst vs) ∧ Rels K H' vs ds) where
  keep := fun H H' μ μ' c o g f => ⟨(f a _ (o a rfl) g.1).1, Rels.mono (f.tx c) _ _ g.2⟩
  oo := fun _ b g h => by subst h; exact ⟨_, g.1⟩
  go := fun i H' hi g => by
    have hv : i < vs.length := by rw [hr.length]; exact hi
    exact ⟨vs, vs[i], SqL.of g.1, List.getElem?_eq_getElem hv⟩
  stop := fun i H' hi g => ⟨vs, SqL.of g.1, by rw [hr.length]; exact hi⟩
  yld := fun i H' v H2 hi g y => by
    obtain ⟨e, q⟩ := y
    obtain ⟨x, h1, h2⟩ := g.2.getV (q vs (SqL.of g.1))
    subst e
    exact ⟨x, h1, h2, .inl rfl⟩
theorem walk_N {lo : Int} {n : Nat} : WalkD K (Itr lo n) ((List.range n).map fun (i : Nat) => D.int (lo + i)) (fun _ => False) (fun _ => True) where
  keep := fun _ _ _ _ _ _ _ _ => trivial
  oo := fun _ _ _ h => h.elim
  go := fun i H' hi _ => by
    have h : i < n := by simpa using hi
    exact h
  stop := fun i H' hi _ => by
    have h : n ≤ i := by simpa using hi
    exact h
  yld := fun i H' v H2 hi _ y => by
    obtain ⟨e, e2⟩ := y
    have h : i < n := by simpa using hi
    subst e e2
    exact ⟨.int (lo + i), by simp [h], .int _, .inl rfl⟩
variable {Ψ : List D → M → (M → M) → Prop}
theorem ai_T (h : AE K tl τ μ fun d μ1 => ∃ ds, d = .tup ds ∧ Ψ ds μ1 id) : AI K (iTup K tl) τ μ Ψ := fun σ H s c R k => h σ H s c _ fun d μ1 v H1 f1 c1 r1 ⟨ds, e, q⟩ => by
  subst e
  cases r1 with
  | @tup a xs _ ha hr => exact ⟨a, rfl, ⟨xs, ha.sq⟩, k _ ds _ _ H1 μ1 id (f1.tx c) c1 (walk_T hr) ⟨ha, hr⟩ (fun _ z => z.elim) (back_id f1) q⟩
theorem ai_L (h : AE K tl τ μ fun d μ1 => ∃ a ds, d = .ref a ∧ μ1 a = some (.lst ds) ∧ Ψ ds (μ1.del a) (fun μ' => μ'.set a (.lst ds))) : AI K (iList K tl) τ μ Ψ := fun σ H s c R k => h σ H s c _ fun d μ1 v H1 f1 c1 r1 ⟨a, ds, e, hl, q⟩ => by
  subst e
  cases r1
  obtain ⟨xs, hx, hr⟩ := c1 a _ hl
  exact ⟨a, rfl, ⟨xs, SqL.of hx⟩, k _ ds _ _ H1 (μ1.del a) _ (f1.tx c) (c1.sub del_sub) (walk_L hr) ⟨hx, hr⟩ (fun b z => by rw [z]; exact del_same) (back_set c1 hl hx hr f1) q⟩
theorem ai_1 {ta : TA} (h : AA K ta τ μ fun ds μ1 => ∃ n : Int, ds = [.int n] ∧ -(2 ^ 62) ≤ n ∧ n < 2 ^ 62 ∧ Ψ ((List.range n.toNat).map fun (i : Nat) => D.int (0 + i)) μ1 id) : AI K (iRng1 ta) τ μ Ψ := fun σ H s c R k => h σ H s c _ fun ds μ1 vs H1 f1 c1 r1 ⟨n, e, h1, h2, q⟩ => by
  subst e
  cases r1 with
  | cons r rr =>
    cases r
    cases rr
    exact ⟨n, rfl, h1, h2, k _ _ _ _ H1 μ1 id (f1.tx c) c1 walk_N trivial (fun _ z => z.elim) (back_id f1) q⟩
/-- a, b, .. = a list of the store, or a read-only one -/
theorem g_lst {n : Nat} {gs : TGs} {ds : List D} {d : D} {Θ : T → M → Prop} (hs : seqD μ d = some ds) (hd : ∀ es, d ≠ .tup es) (hn : ds.length = n) (h : AGs K gs ds τ μ Θ) : AG K (gLst K n gs) d τ μ Θ := fun σ H v s c r Q k => by
  obtain ⟨a, xs, e, hq, hr⟩ := seq_of c r hs
  subst e
  rcases hq with hq | hq
  · exact ⟨a, xs, rfl, hq, by rw [hr.length]; exact hn, h σ H _ s c hr Q k⟩
  · cases r with
    | tup ht hr' => exact absurd rfl (hd _)
    | rol ht hr' => cases hs; exact ⟨_, _, rfl, ht.sq, by rw [hr'.length]; exact hn, h σ H _ s c hr' Q k⟩
    | ref a =>
      unfold seqD at hs
      simp only at hs
      split at hs
      · rename_i ds' e
        cases hs
        obtain ⟨ys, h1, h2⟩ := c _ _ e
        exact ⟨_, ys, rfl, SqL.of h1, by rw [h2.length]; exact hn, h σ H _ s c h2 Q k⟩
      · cases hs
/-- a comprehension whose turns leave nothing, one name as target -/
theorem a_lc1 {j : Nat} (f : D → D) (p : D → Bool) (h : AI K wi τ μ fun xs μw back => xs.length < sizeLine ∧ (∀ x ∈ xs, AT K tt (τ.set j (some x)) μw fun b μ2 => b = p x ∧ μ2 = μw) ∧ (∀ x ∈ xs, p x = true → AE K te (τ.set j (some x)) μw fun y μ2 => y = f x ∧ μ2 = μw) ∧ ∀ q, back μw q = none → Φ (.ref q) ((back μw).set q (.lst ((xs.filter p).map f)))) :
    AE K (tLc wi (gName j) tt te [j]) τ μ Φ := a_lc tg_name (fun σ H s c R k => h σ H s c R fun J xs out G H1 μw back tx c1 W g1 o1 B ⟨hz, ht, he, q⟩ => k J xs out G H1 μw back tx c1 W g1 o1 B (by
  refine ⟨fun i acc μ' => μ' = μw ∧ acc = ((xs.take i).filter p).map f, ⟨rfl, rfl⟩, ?_, ?_⟩
  · rintro i x acc μ' hx ⟨rfl, rfl⟩
    exact lc_pure_turn f p hz hx (ht x (List.mem_of_getElem? hx)) (he x (List.mem_of_getElem? hx))
  · rintro acc μ' ⟨rfl, rfl⟩ a ha
    rw [List.take_length]
    exact q a ha))
end
end Z
namespace Z
open PySem L2
def Up (Φ : D → M → Prop) : D → M → Prop := fun d μ' => ∃ μ2, Sub μ2 μ' ∧ Φ d μ2
theorem up_of {Φ : D → M → Prop} {d : D} {μ2 μ' : M} (s : Sub μ2 μ') (h : Φ d μ2) : Up Φ d μ' := ⟨μ2, s, h⟩
theorem up {Φ : D → M → Prop} {d : D} {μ' : M} (h : Φ d μ') : Up Φ d μ' := ⟨μ', Sub.refl, h⟩
theorem body_okU {K : PySem.W.Frag} {H : Hp} {ts : TS} {P : PT3} {E : XK} {Ns : List Str} {vs : List V} {Q : VK} (h : spI K P vs H Q E) (hb : ∀ ds μ Φ, P ds μ Φ → AS K ts (startD Ns.length ds) μ { nx := fun _ μ' => Up Φ .non μ', rt := Up Φ }) :
    ts { nx := fun _ H' => Q .non H', rt := Q } (L2.start Ns vs) H := by
  obtain ⟨ds, μ, Φ, r, c, p, k⟩ := h
  refine hb ds μ Φ p _ H (slots_start r) c _ ⟨fun _ μ' _ H' f c' _ q => ?_, fun d μ' v H' f c' r' q => ?_, fun _ _ _ _ _ _ _ q => q.elim, fun _ _ _ _ _ _ _ q => q.elim, fun _ _ _ _ _ _ _ _ _ _ _ q => q.elim⟩
  · obtain ⟨μ2, sb, q⟩ := q
    exact k .non μ2 .non H' (f.sub sb) (c'.sub sb) .non q
  · obtain ⟨μ2, sb, q⟩ := q
    exact k d μ2 v H' (f.sub sb) (c'.sub sb) r' q
def SubB (b : Addr) (μ μ' : M) : Prop := ∀ a m, a ≠ b → μ a = some m → μ' a = some m
section
variable {μ μ' : M} {b l : Addr} {X Y : MO}
theorem sb_refl : SubB b μ μ := fun _ _ _ h => h
theorem sb_self (h : SubB b μ μ') : SubB b μ (μ'.set b Y) := fun a m n e => by rw [set_ne n]; exact h a m n e
theorem sb_new (h : SubB b μ μ') (hn : μ' l = none) : SubB b μ (μ'.set l Y) := fun a m n e => by
  have h2 := h a m n e
  rw [set_ne (fun z => by rw [z, hn] at h2; cases h2)]
  exact h2
theorem sub_new (h : Sub μ μ') (hn : μ' l = none) : Sub μ (μ'.set l Y) := fun a m e => by
  have h2 := h a m e
  rw [set_ne (fun z => by rw [z, hn] at h2; cases h2)]
  exact h2
/-- a list of one's own, changed again -/
theorem sub_own (h : Sub μ μ') (hn : μ l = none) : Sub μ (μ'.set l Y) := fun a m e => by
  rw [set_ne (fun z => by rw [z, hn] at e; cases e)]
  exact h a m e
theorem none_ne {m : MO} (h : (μ.set b m) l = none) : l ≠ b := fun z => by subst z; rw [set_same] at h; cases h
theorem none_back {m : MO} (h : (μ.set b m) l = none) : μ l = none := by
  have n := none_ne h
  rw [set_ne n] at h
  exact h
theorem ne_of_some {m : MO} (h : μ l = none) (k : μ b = some m) : l ≠ b := fun z => by subst z; rw [h] at k; cases k
end
abbrev Fq := Int × Int
abbrev Pl := Fq × Fq
end Z
namespace Z
open PySem L2
section
variable {K : PySem.W.Frag} {μ μ' : M} {Φ : D → M → Prop} {b l : Addr} {X : MO}
theorem ro_isB {a b : Bool} (q : Φ (.bl (decide (a = b))) μ) : RO K rIsB (.bl a) (.bl b) μ Φ := fun H x y c r1 r2 Q k => by
  cases r1; cases r2
  exact ⟨a, b, rfl, rfl, k _ μ _ H Fr.refl c (.bl _) q⟩
theorem ro_notB {a b : Bool} (q : Φ (.bl (!decide (a = b))) μ) : RO K rNotB (.bl a) (.bl b) μ Φ := fun H x y c r1 r2 Q k => by
  cases r1; cases r2
  exact ⟨a, b, rfl, rfl, k _ μ _ H Fr.refl c (.bl _) q⟩
theorem sb_trans {μ2 : M} (h : SubB b μ μ') (k : SubB b μ' μ2) : SubB b μ μ2 := fun a m n e => k a m n (h a m n e)
end
structure Gd (n : Nat) (p : Fq) : Prop where
  pos : 0 < p.2
  s1 : Sz n p.1
  s2 : Sz n p.2
structure GdP (n : Nat) (p : Pl) : Prop where
  x : Gd n p.1
  y : Gd n p.2
theorem Gd.mono {n m : Nat} {p : Fq} (h : Gd n p) (l : n ≤ m) : Gd m p := ⟨h.pos, sz_mono h.s1 l, sz_mono h.s2 l⟩
theorem GdP.mono {n m : Nat} {p : Pl} (h : GdP n p) (l : n ≤ m) : GdP m p := ⟨h.x.mono l, h.y.mono l⟩
end Z
namespace Z
open PySem L2
def AO (K : PySem.W.Frag) (to : TO) (τ : T) (μ : M) (Θ : Option Int → M → Prop) : Prop :=
  ∀ σ H, Slots K H τ σ → Z.Con K H μ → ∀ R : Option Int → Hp → Prop, (∀ o μ' H', Fr μ μ' H H' → Z.Con K H' μ' → Θ o μ' → R o H') → to σ H R
/-- what a slice of d answers -/
def RS (K : PySem.W.Frag) (r : V → Option Int → Option Int → Hp → VK → Prop) (d : D) (lo hi : Option Int) (μ : M) (Φ : D → M → Prop) : Prop :=
  ∀ H x, Z.Con K H μ → Rel K H x d → ∀ Q : VK, (∀ z μ' v H', Fr μ μ' H H' → Z.Con K H' μ' → Rel K H' v z → Φ z μ' → Q v H') → r x lo hi H Q
def cutD (ds : List D) (lo hi : Option Int) : List D := (ds.drop (HT.sIx ds.length 0 lo)).take (HT.sIx ds.length ds.length hi - HT.sIx ds.length 0 lo)
section
variable {K : PySem.W.Frag} {τ : T} {μ μ1 μ2 : M} {H H1 H2 H' : Hp} {σ : L2.St} {Φ : D → M → Prop} {ta tl te : TE} {to tp : TO} {Θ : Option Int → M → Prop} {d e : D}
theorem ao_no (h : Θ none μ) : AO K tNoPart τ μ Θ := fun σ H s c R k => k none μ H Fr.refl c h
theorem ao_pt (h : AE K te τ μ fun d μ1 => ∃ i, d = .int i ∧ Θ (some i) μ1) : AO K (tPart te) τ μ Θ := fun σ H s c R k => h σ H s c _ fun d μ1 v H1 f1 c1 r1 ⟨i, e, q⟩ => by
  subst e
  cases r1
  exact ⟨i, rfl, k (some i) μ1 H1 f1 c1 q⟩
theorem a_sl {r : V → Option Int → Option Int → Hp → VK → Prop} (h : AE K te τ μ fun d μ1 => AO K to τ μ1 fun lo μ2 => AO K tp τ μ2 fun hi μ3 => RS K r d lo hi μ3 Φ) : AE K (L2.tSl r te to tp) τ μ Φ := fun σ H s c Q k =>
  h σ H s c _ fun d μ1 v H1 f1 c1 r1 p1 => p1 σ H1 (s.mono (f1.tx c)) c1 _ fun lo μ2 H2 f2 c2 p2 => p2 σ H2 (s.mono ((f1.trans f2).tx c)) c2 _ fun hi μ3 H3 f3 c3 p3 =>
    p3 H3 v c3 (Rel.mono ((f2.trans f3).tx c1) _ _ r1) Q fun z μ' w H' f c' rz pz => k z μ' w H' (((f1.trans f2).trans f3).trans f) c' rz pz
theorem Rels.cut {vs : List V} {ds : List D} (lo hi : Option Int) (r : Rels K H vs ds) : Rels K H (cutV vs lo hi) (cutD ds lo hi) := by
  unfold cutV cutD
  rw [r.length]
  exact (r.drop _).take _
theorem rs_ref {a : Addr} {ds : List D} {lo hi : Option Int} (h : μ a = some (.lst ds)) (q : ∀ p, μ p = none → Φ (.ref p) (μ.set p (.lst (cutD ds lo hi)))) : RS K (rSlL K) (.ref a) lo hi μ Φ := fun H x c r Q k => by
  cases r
  obtain ⟨xs, hx, hr⟩ := c a _ h
  exact ⟨a, xs, rfl, SqL.of hx, fun p hp => k _ _ _ _ (fr_put hp) (con_put (m := .lst (cutD ds lo hi)) hp c ⟨_, upd_same, Rels.mono (tx_new hp) _ _ (hr.cut lo hi)⟩) (.ref p) (q p (c.free hp))⟩
theorem rs_rol {ds : List D} {lo hi : Option Int} (q : ∀ p, μ p = none → Φ (.ref p) (μ.set p (.lst (cutD ds lo hi)))) : RS K (rSlL K) (.rol ds) lo hi μ Φ := fun H x c r Q k => by
  cases r with
  | @rol a xs _ ht hr => exact ⟨a, xs, rfl, ht.sq, fun p hp => k _ _ _ _ (fr_put hp) (con_put (m := .lst (cutD ds lo hi)) hp c ⟨_, upd_same, Rels.mono (tx_new hp) _ _ (hr.cut lo hi)⟩) (.ref p) (q p (c.free hp))⟩
/-- two lists of the store, put together -/
theorem ro_cat {a b : Addr} {ds es : List D} (h1 : μ a = some (.lst ds)) (h2 : μ b = some (.lst es)) (hz : ds.length + es.length ≤ sizeLine) (q : ∀ p, μ p = none → Φ (.ref p) (μ.set p (.lst (ds ++ es)))) : RO K rCat (.ref a) (.ref b) μ Φ := fun H x y c r1 r2 Q k => by
  cases r1
  cases r2
  obtain ⟨xs, hx, hr⟩ := c a _ h1
  obtain ⟨ys, hy, hr2⟩ := c b _ h2
  exact ⟨a, b, xs, ys, rfl, rfl, hx, hy, by rw [hr.length, hr2.length]; exact hz, fun p hp => k _ _ _ _ (fr_put hp) (con_put (m := .lst (ds ++ es)) hp c ⟨_, upd_same, Rels.mono (tx_new hp) _ _ (hr.append hr2)⟩) (.ref p) (q p (c.free hp))⟩
end
end Z
namespace ZL
open PySem PySem.Spec PyProof.Rows PySem.Calls PySem.W
section
variable {prog : Program} {w : World} {A : Around} {E : Value → Shared → Prop} {s : Shared} {z TI TO T S i1 i2 l1 l2 : Addr} {xs ys : Array Value}
/-- how the zip stands ahead of turn k, while a list S takes its pairs -/
def ZSt (h : Heap) (z TI TO i1 i2 l1 l2 S : Addr) (xs ys : Array Value) (k : Nat) : Prop :=
  (IsPair h TI (.ref i1) (.ref i2) ∧ h.IsTupleIter i1 l1 k ∧ h.IsTupleIter i2 l2 k ∧ h.IsTuple l1 xs ∧ h.IsTuple l2 ys) ∧
  ((IsZip h z TI TO .none ∧ ∃ u v, IsPair h TO u v) ∨ ∃ T f oT, IsZipHeld h z TI TO T f ∧ h.get? T = some oT ∧ T ≠ z ∧ T ≠ i1 ∧ T ≠ i2 ∧ T ≠ S)
structure Off (S z TI TO i1 i2 l1 l2 : Addr) : Prop where
  sz : S ≠ z
  sTI : S ≠ TI
  sTO : S ≠ TO
  s1 : S ≠ i1
  s2 : S ≠ i2
  sl1 : S ≠ l1
  sl2 : S ≠ l2
theorem ZSt.keep {h h' : Heap} {k : Nat} (O : Off S z TI TO i1 i2 l1 l2) (st : ZSt h z TI TO i1 i2 l1 l2 S xs ys k) (hk : ∀ b o, b ≠ S → h.get? b = some o → h'.get? b = some o) : ZSt h' z TI TO i1 i2 l1 l2 S xs ys k := by
  obtain ⟨⟨a1, a2, a3, ⟨o4, a4, b4⟩, ⟨o5, a5, b5⟩⟩, q⟩ := st
  refine ⟨⟨hk _ _ O.sTI.symm a1, a2.at fun o e => hk _ _ O.s1.symm e, a3.at fun o e => hk _ _ O.s2.symm e, ⟨o4, hk _ _ O.sl1.symm a4, b4⟩, ⟨o5, hk _ _ O.sl2.symm a5, b5⟩⟩, ?_⟩
  rcases q with ⟨q1, u, v, q2⟩ | ⟨T, f, oT, q1, q2, n1, n2, n3, n4⟩
  · exact .inl ⟨hk _ _ O.sz.symm q1, u, v, hk _ _ O.sTO.symm q2⟩
  · exact .inr ⟨T, f, oT, hk _ _ O.sz.symm q1, hk _ _ n4 q2, n1, n2, n3, n4⟩
end
/-- what was made: a row of new pairs, each at a greater place -/
structure Row (xs ys : Array Value) (lo : Addr) (h : Heap) (as : List Addr) : Prop where
  rise : as.Pairwise (· < ·)
  above : ∀ a ∈ as, lo < a
  at_ : ∀ (j : Nat) (a : Addr), as[j]? = some a → ∃ x y, xs[j]? = some x ∧ ys[j]? = some y ∧ IsPair h a x y
section
open L2
def look : List Addr → List (V × V) → Addr → Option (V × V)
  | a :: as, z :: zs, b => if b = a then some z else look as zs b
  | _, _, _ => none
theorem look_at : ∀ {as : List Addr} {zs : List (V × V)} {j : Nat} {a : Addr} {z : V × V}, as.Nodup → as[j]? = some a → zs[j]? = some z → look as zs a = some z
  | [], _, _, _, _, _, h, _ => by simp at h
  | _ :: _, [], _, _, _, _, _, h => by simp at h
  | b :: as, y :: zs, 0, a, z, _, h, k => by
    have e1 : b = a := by simpa using h
    have e2 : y = z := by simpa using k
    unfold look
    rw [if_pos e1.symm, e2]
  | b :: as, y :: zs, j + 1, a, z, hn, h, k => by
    have hn' := List.nodup_cons.mp hn
    have h' : as[j]? = some a := by simpa using h
    have ne : a ≠ b := fun e => hn'.1 (by rw [← e]; exact List.mem_of_getElem? h')
    unfold look
    rw [if_neg ne]
    exact look_at hn'.2 h' (by simpa using k)
theorem look_out : ∀ {as : List Addr} {zs : List (V × V)} {a : Addr}, a ∉ as → look as zs a = none
  | [], _, _, _ => by unfold look; rfl
  | _ :: _, [], _, _ => by unfold look; rfl
  | b :: as, y :: zs, a, h => by
    unfold look
    rw [if_neg (fun e => h (by rw [e]; exact List.mem_cons_self))]
    exact look_out fun e => h (List.mem_cons_of_mem _ e)
def lay (H : Hp) (S : Addr) (as : List Addr) (zs : List (V × V)) : Hp := fun b => if b = S then some (.lst (as.map V.ref)) else match look as zs b with
  | some (x, y) => some (.tup [x, y])
  | none => H b
variable {X : Cx} {e e2 : Expr} {ta : TA} {p p2 cpos pos : Pos}
theorem laid {pins : List (Addr × Obj)} {σ : L2.St} {H : Hp} {s : Shared} {h' : Heap} {S : Addr} {acc : Array Value} {c : Nat} {as : List Addr} {xs ys : List V} {us vs : List Value} (I : Inv X pins σ H s) (hS0 : s.heap.objs.size ≤ S) (hk : ∀ b o, s.heap.get? b = some o → h'.get? b = some o) (rx : Vals xs us) (ry : Vals ys vs)
    (hS : h'.get? S = some { cls := .type "list", dict := none, data := .seq acc c, slots := #[] }) (hz : min us.length vs.length ≤ sizeLine) (hl : as.length = min us.length vs.length) (G : Row us.toArray vs.toArray S h' as) (hacc : acc.toList = as.map Value.ref) :
    Inv X pins σ (lay H S as (xs.zip ys)) { s with heap := h' } ∧ (∀ b o, H b = some o → lay H S as (xs.zip ys) b = some o) ∧ H S = none ∧ (∀ (j : Nat) t, as[j]? = some t → H t = none ∧ t ≠ S ∧ ∃ x y, xs[j]? = some x ∧ ys[j]? = some y ∧ lay H S as (xs.zip ys) t = some (.tup [x, y])) := by
  have nd : as.Nodup := List.Pairwise.imp (fun {a b} (h : a < b) => Nat.ne_of_lt h) G.rise
  have newS : H S = none := I.hok.fresh hS0
  have new : ∀ t ∈ as, H t = none := fun t ht => I.hok.fresh (Nat.le_of_lt (Nat.lt_of_le_of_lt hS0 (G.above t ht)))
  have offS : ∀ t ∈ as, t ≠ S := fun t ht => Nat.ne_of_gt (G.above t ht)
  have low : ∀ b o, s.heap.get? b = some o → b ∉ as ∧ b ≠ S := fun b o e => ⟨fun z => absurd (Heap.lt_size e) (Nat.not_lt.mpr (Nat.le_of_lt (Nat.lt_of_le_of_lt hS0 (G.above b z)))), Nat.ne_of_lt (Nat.lt_of_lt_of_le (Heap.lt_size e) hS0)⟩
  have eS : lay H S as (xs.zip ys) S = some (.lst (as.map V.ref)) := by unfold lay; rw [if_pos rfl]
  have off : ∀ b, b ∉ as → b ≠ S → lay H S as (xs.zip ys) b = H b := fun b h1 h2 => by unfold lay; rw [if_neg h2, look_out h1]
  have kp : ∀ b u, H b = some u → lay H S as (xs.zip ys) b = some u := fun b u e => by
    rw [off b (fun z => by rw [new b z] at e; cases e) (fun z => by rw [z, newS] at e; cases e)]; exact e
  have at_ : ∀ (j : Nat) t, as[j]? = some t → ∃ x y u v, xs[j]? = some x ∧ ys[j]? = some y ∧ us[j]? = some u ∧ vs[j]? = some v ∧ RelV x u ∧ RelV y v ∧ lay H S as (xs.zip ys) t = some (.tup [x, y]) ∧ IsPair h' t u v := fun j t hj => by
    obtain ⟨u, v, e1, e2, e3⟩ := G.at_ j t hj
    have e1 : us[j]? = some u := by simpa using e1
    have e2 : vs[j]? = some v := by simpa using e2
    have hj1 : j < xs.length := by rw [rx.length]; exact (List.getElem?_eq_some_iff.mp e1).1
    have hj2 : j < ys.length := by rw [ry.length]; exact (List.getElem?_eq_some_iff.mp e2).1
    obtain ⟨u', f1, r1⟩ := rx.get (List.getElem?_eq_getElem hj1)
    obtain ⟨v', f2, r2⟩ := ry.get (List.getElem?_eq_getElem hj2)
    rw [e1] at f1; cases f1
    rw [e2] at f2; cases f2
    refine ⟨xs[j], ys[j], u, v, List.getElem?_eq_getElem hj1, List.getElem?_eq_getElem hj2, e1, e2, r1, r2, ?_, e3⟩
    unfold lay
    rw [if_neg (offS t (List.mem_of_getElem? hj)), look_at (z := (xs[j], ys[j])) nd hj (List.getElem?_zip_eq_some.mpr ⟨List.getElem?_eq_getElem hj1, List.getElem?_eq_getElem hj2⟩)]
  refine ⟨?_, kp, newS, fun j t hj => ?_⟩
  · refine I.call' (ch := []) rfl ⟨fun b o q _ _ _ => hk b o q, fun b o q _ _ _ => ⟨o.slots, hk b o q⟩, fun b o q n _ => ?_, fun b o q _ => ⟨o, hk b o q⟩, fun b xs q => kp b _ q, fun b o u q => kp b _ q, fun b ps q => ⟨#[], by rw [kp b _ q]; simp⟩⟩ (fun b u q => ?_) I.bare fun b z => by simp at z
    · obtain ⟨z1, z2⟩ := low b o q
      rw [off b z1 z2]; exact n
    · by_cases hb : b ∈ as
      · obtain ⟨j, hj⟩ := List.mem_iff_getElem?.mp hb
        obtain ⟨x, y, u', v', _, _, _, _, r1, r2, e3, e4⟩ := at_ j b hj
        rw [e3] at q; cases q
        exact ⟨by show 2 ≤ sizeLine; decide, [u', v'], .cons r1 (.cons r2 .nil), ⟨_, e4, rfl, _, rfl⟩⟩
      · by_cases hb2 : b = S
        · rw [hb2, eS] at q; cases q
          rw [hb2]
          refine ⟨by rw [List.length_map, hl]; exact hz, acc.toList, c, by rw [hacc]; exact LiI.vals_refs as, ?_⟩
          rw [Array.toArray_toList]; exact hS
        · rw [off b hb hb2] at q
          exact (I.hok b u q).stay (fun d v _ y => hk d v y) (fun d y => kp d _ y) fun d xs y => kp d _ y
  · obtain ⟨x, y, _, _, e1, e2, _, _, _, _, e3, _⟩ := at_ j t hj
    exact ⟨new t (List.mem_of_getElem? hj), offS t (List.mem_of_getElem? hj), x, y, e1, e2, e3⟩
end
end ZL
namespace Z
open PySem L2
end Z
namespace Z
open PySem L2
section
variable {K : PySem.W.Frag} {τ : T} {μ μ1 μ2 : M} {H H1 H2 H' : Hp} {σ : L2.St} {Φ : D → M → Prop} {ta tl te : TE} {tt tt1 : TT} {g g1 : TG} {wi wi1 : TI} {d e : D}
theorem cutD_all {ds : List D} {lo hi : Option Int} (h : HT.sIx ds.length 0 lo = 0 ∧ HT.sIx ds.length ds.length hi = ds.length) : cutD ds lo hi = ds := by
  unfold cutD
  rw [h.1, h.2]
  simp
theorem rs_tupA {ds : List D} {lo hi : Option Int} (q : Φ (.tup (cutD ds lo hi)) μ) : RS K (rSlA K) (.tup ds) lo hi μ Φ := fun H x c r Q k => by
  cases r with
  | @tup a xs _ ht hr =>
    refine ⟨a, xs, rfl, ht.sq, fun hw => ?_, fun hw p hp => k _ μ _ _ (fr_new hp) (con_new hp c) (.tup (.inl upd_same) (Rels.mono (tx_new hp) _ _ (hr.cut lo hi))) q⟩
    rw [hr.length] at hw
    rw [cutD_all hw] at q
    exact k _ μ _ _ Fr.refl c (.tup ht hr) q
theorem op_catAK {X : Cx} {K : PySem.W.Frag} (h : X.K = K) : OpR X (binaryOp .Add) (rCatA K) := by subst h; exact op_catA
theorem sl_tupAK {X : Cx} {K : PySem.W.Frag} (h : X.K = K) : SlR X (rSlA K) := by subst h; exact sl_tupA
theorem ro_catA {ds es : List D} (hz : ds.length + es.length ≤ sizeLine) (q : Φ (.tup (ds ++ es)) μ) : RO K (rCatA K) (.tup ds) (.tup es) μ Φ := fun H x y c r1 r2 Q k => by
  cases r1 with
  | @tup a xs _ ht hr =>
    cases r2 with
    | @tup b ys _ ht2 hr2 =>
      refine ⟨a, b, xs, ys, rfl, rfl, ht.sq, ht2.sq, by rw [hr.length, hr2.length]; exact hz, fun z => ?_, fun _ z => ?_, fun _ _ p hp => ?_⟩
      · subst z; cases hr; exact k _ μ _ _ Fr.refl c (.tup ht2 hr2) q
      · subst z; cases hr2; rw [List.append_nil] at q; exact k _ μ _ _ Fr.refl c (.tup ht hr) q
      · exact k _ μ _ _ (fr_new hp) (con_new hp c) (.tup (.inl upd_same) (Rels.mono (tx_new hp) _ _ (hr.append hr2))) q
variable {Ψ : List D → M → (M → M) → Prop}
theorem slots_wipe {vs : List Nat} (hv : ∀ j, j ∈ vs → ∀ d, τ[j]? ≠ some (some d)) (s : Slots K H τ σ) : Slots K H τ (wipe σ vs) := ⟨by rw [wipe_length]; exact s.1, fun i d e => by
  obtain ⟨v, h1, h2⟩ := s.2 i d e
  exact ⟨v, by rw [wipe_at, if_neg fun z => hv i z d e]; exact h1, h2⟩⟩
theorem fr_set2 {a : Addr} {m m' : MO} (f : Fr μ μ1 H H1) : Fr (μ.set a m) (μ1.set a m') H H1 := fun x o n e => by
  have hx : x ≠ a := fun z => by rw [z, set_same] at n; cases n
  rw [set_ne hx] at n
  obtain ⟨e1, n1⟩ := f x o n e
  exact ⟨e1, by rw [set_ne hx]; exact n1⟩
theorem con_set {a : Addr} {m : MO} (n : μ a = none) (c : Z.Con K H (μ.set a m)) : Z.Con K H μ := c.sub (Sub.set n)
structure LcIn (K : PySem.W.Frag) (Dl : Addr) (μ0 : M) (H0 : Hp) (acc0 acc : List D) (μ' : M) (H' : Hp) : Prop where
  fr : Fr (μ0.set Dl (.lst acc0)) (μ'.set Dl (.lst acc)) H0 H'
  con : Z.Con K H' (μ'.set Dl (.lst acc))
  no : μ' Dl = none
theorem lc_stepIn {js : List Nat} {dec : D → List D → Prop} {Dl : Addr} {μ0 μ' : M} {H0 : Hp} {acc0 acc : List D} {P : List D → M → Prop} {Nx : Hp → Prop} {v : V} {x : D} (hg : TgOk K g js dec) (s : Slots K H' τ σ) (L : LcIn K Dl μ0 H0 acc0 acc μ' H') (rx : Rel K H' v x) (ht : LcTurn K τ tt te js dec x acc μ' P)
    (hn : ∀ acc2 μ2 H2, LcIn K Dl μ0 H0 acc0 acc2 μ2 H2 → P acc2 μ2 → Nx H2) :
    g v (wipe σ js) H' fun σ2 H2 => wipe σ2 js = wipe σ js ∧ tt σ2 H2 fun b H3 => if b = true then te σ2 H3 fun y H4 => ∃ acc, H4 Dl = some (.lst acc) ∧ acc.length < sizeLine ∧ Nx (upd H4 Dl (.lst (acc ++ [y]))) else Nx H3 := by
  obtain ⟨xs, hd, hl, ht⟩ := ht
  obtain ⟨vs0, hv0, hr0⟩ := L.con Dl _ set_same
  have c' : Z.Con K H' μ' := con_set L.no L.con
  refine hg x xs v _ H' hd rx _ fun vs hvs => ⟨by rw [wipe_sets (fun _ h => h), wipe_wipe], ?_⟩
  have s' : Slots K H' (sets τ js xs) (sets (wipe σ js) js vs) := slots_block s hvs hl
  refine ht _ H' s' c' _ fun b μ1 H1 f1 c1 p => ?_
  have n1 : μ1 Dl = none := (f1 Dl _ L.no hv0).2
  have h1 : H1 Dl = some (.lst vs0) := (f1 Dl _ L.no hv0).1
  cases b with
  | false => exact hn acc μ1 H1 ⟨L.fr.trans (fr_set2 f1), con_back (m := .lst acc) c1 ⟨vs0, h1, Rels.mono (f1.tx c') _ _ hr0⟩, n1⟩ p
  | true =>
    refine (show AE K te _ μ1 _ from p) _ H1 (s'.mono (f1.tx c')) c1 _ fun y μ2 w H2 f2 c2 r2 ⟨hz, p2⟩ => ?_
    have n2 : μ2 Dl = none := (f2 Dl _ n1 h1).2
    have h2 : H2 Dl = some (.lst vs0) := (f2 Dl _ n1 h1).1
    have hr2 : Rels K H2 vs0 acc := Rels.mono ((f1.trans f2).tx c') _ _ hr0
    obtain ⟨t3, c3⟩ := upd_out (o := .lst (vs0 ++ [w])) c2 n2 h2 (fun _ z => by cases z)
    refine ⟨vs0, h2, by rw [hr0.length]; exact hz, hn _ μ2 _ ⟨fun a o n e => ?_, con_back (m := .lst (acc ++ [y])) c3 ⟨_, upd_same, Rels.mono t3 _ _ (hr2.append (.cons r2 .nil))⟩, n2⟩ p2⟩
    have ha : a ≠ Dl := fun z => by rw [z, set_same] at n; cases n
    obtain ⟨e2, m2⟩ := (L.fr.trans (fr_set2 (m := .lst acc) (m' := .lst acc) (f1.trans f2))) a o n e
    exact ⟨by rw [upd_ne ha]; exact e2, by rw [set_ne ha] at m2 ⊢; exact m2⟩
theorem a_lc2 {js js1 vs : List Nat} {dec dec1 : D → List D → Prop} (hg : TgOk K g js dec) (hg1 : TgOk K g1 js1 dec1) (hv : ∀ j, j ∈ vs → ∀ d, τ[j]? ≠ some (some d)) (hjs : ∀ j ∈ js, j ∈ vs)
    (h : AI K wi τ μ fun xs μw back => ∃ P : Nat → List D → M → Prop, P 0 [] μw ∧
      (∀ (i : Nat) x acc μ', xs[i]? = some x → P i acc μ' → ∃ xd, dec x xd ∧ xd.length = js.length ∧ AT K tt (sets τ js xd) μ' fun b μ1 => if b = true then
          ∀ Dl, μ1 Dl = none → AI K wi1 (sets τ js xd) (μ1.set Dl (.lst acc)) fun ys μw1 back1 => ∃ (μv : M) (P1 : Nat → List D → M → Prop), μw1 = μv.set Dl (.lst acc) ∧ μv Dl = none ∧ P1 0 acc μv ∧
            (∀ (j : Nat) y acc μ', ys[j]? = some y → P1 j acc μ' → LcTurn K (sets τ js xd) tt1 te js1 dec1 y acc μ' (P1 (j + 1))) ∧
            ∀ acc' μ', P1 ys.length acc' μ' → μ' Dl = none → ∃ μo : M, back1 (μ'.set Dl (.lst acc')) = μo.set Dl (.lst acc') ∧ μo Dl = none ∧ P (i + 1) acc' μo
        else P (i + 1) acc μ1) ∧
      ∀ acc μ', P xs.length acc μ' → ∀ p, back μ' p = none → Φ (.ref p) ((back μ').set p (.lst acc))) :
    AE K (tLc2 wi g tt wi1 g1 tt1 te vs js1) τ μ Φ := fun σ H s c Q k => by
  refine h σ H s c _ fun J xs out G H1 μw back tx c1 W g1' o1 B ⟨P, p0, hs, hd⟩ Dl hD => ?_
  have s1 := slots_wipe hv (s.mono tx)
  refine ⟨fun i m H' => m = xs.length - i ∧ i ≤ xs.length ∧ ∃ acc μ', LcAt K Dl μw H1 acc μ' H' ∧ P i acc μ', ⟨xs.length, by omega, Nat.zero_le _, [], μw, lc_start c1 hD, p0⟩, ?_⟩
  rintro i m H' ⟨rfl, hi, acc, μ', L, p⟩
  have gH : G H' := W.keep _ _ _ _ c1 o1 g1' L.fr
  by_cases hlt : i < xs.length
  · refine .inr ⟨W.go i H' hlt gH, fun H2 => ∃ acc2 μ2, LcAt K Dl μw H1 acc2 μ2 H2 ∧ P (i + 1) acc2 μ2, fun H2 ⟨acc2, μ2, L2, p2⟩ => ⟨xs.length - (i + 1), by omega, rfl, hlt, acc2, μ2, L2, p2⟩, fun v H2 y => ?_⟩
    obtain ⟨x, hx, rx, hH⟩ := W.yld i H' v H2 hlt gH y
    have L2 : LcAt K Dl μw H1 acc μ' H2 := by
      rcases hH with e | ⟨T0, vs, hT, e⟩
      · rw [e]; exact L
      · obtain ⟨f2, c2⟩ := yld_ok (vs := vs) L.con hT
        obtain ⟨ws, hw, hr⟩ := L.at_
        rw [e]
        exact ⟨L.fr.trans f2, c2, L.no, ws, by rw [upd_ne (fun z => by rw [z, hT] at hw; cases hw)]; exact hw, Rels.mono (tx_new hT) _ _ hr⟩
    obtain ⟨xd, hdx, hlx, hat⟩ := hs i x acc μ' hx p
    refine hg x xd v _ H2 hdx rx _ fun us hus => ⟨by rw [wipe_sets hjs, wipe_wipe], ?_⟩
    have s2 : Slots K H2 (sets τ js xd) (sets (wipe σ vs) js us) := slots_sets hus (s1.mono (L2.fr.tx c1))
    refine hat _ H2 s2 L2.con _ fun b μ1 H3 f3 c3 p3 => ?_
    obtain ⟨vs0, hv0, hr0⟩ := L2.at_
    have n3 : μ1 Dl = none := (f3 Dl _ L2.no hv0).2
    have h3 : H3 Dl = some (.lst vs0) := (f3 Dl _ L2.no hv0).1
    have hr3 : Rels K H3 vs0 acc := Rels.mono (f3.tx L2.con) _ _ hr0
    cases b with
    | false => exact ⟨acc, μ1, ⟨L2.fr.trans f3, c3, n3, vs0, h3, hr3⟩, p3⟩
    | true =>
      have s3 : Slots K H3 (sets τ js xd) (sets (wipe σ vs) js us) := s2.mono (f3.tx L2.con)
      have c3' : Z.Con K H3 (μ1.set Dl (.lst acc)) := con_back (m := .lst acc) c3 ⟨vs0, h3, hr3⟩
      refine (show ∀ Dl, μ1 Dl = none → _ from p3) Dl n3 _ H3 s3 c3' _ fun J1 ys out1 G1 H4 μw1 back1 tx1 c4 W1 gg1 oo1 B1 ⟨μv, P1, ew, nv, q0, qs, qd⟩ => ?_
      subst ew
      have s4 := s3.mono tx1
      refine ⟨fun j m H' => m = ys.length - j ∧ j ≤ ys.length ∧ ∃ acc' μ', LcIn K Dl μv H4 acc acc' μ' H' ∧ P1 j acc' μ', ⟨ys.length, by omega, Nat.zero_le _, acc, μv, ⟨Fr.refl, c4, nv⟩, q0⟩, ?_⟩
      rintro j m H5 ⟨rfl, hj, acc5, μ5, L5, p5⟩
      have gH5 : G1 H5 := W1.keep _ _ _ _ c4 oo1 gg1 L5.fr
      by_cases hlt5 : j < ys.length
      · refine .inr ⟨W1.go j H5 hlt5 gH5, fun H6 => ∃ acc' μ', LcIn K Dl μv H4 acc acc' μ' H6 ∧ P1 (j + 1) acc' μ', fun H6 ⟨acc6, μ6, L6, p6⟩ => ⟨ys.length - (j + 1), by omega, rfl, hlt5, acc6, μ6, L6, p6⟩, fun v6 H6 y6 => ?_⟩
        obtain ⟨x6, hx6, rx6, hH6⟩ := W1.yld j H5 v6 H6 hlt5 gH5 y6
        have L6 : LcIn K Dl μv H4 acc acc5 μ5 H6 := by
          rcases hH6 with e | ⟨T0, vs, hT, e⟩
          · rw [e]; exact L5
          · obtain ⟨f2, c2⟩ := yld_ok (vs := vs) L5.con hT
            rw [e]
            exact ⟨L5.fr.trans f2, c2, L5.no⟩
        exact lc_stepIn hg1 (s4.mono (L6.fr.tx c4)) L6 rx6 (qs j x6 acc5 μ5 hx6 p5) fun acc7 μ7 H7 L7 p7 => ⟨acc7, μ7, L7, p7⟩
      · have e : j = ys.length := by omega
        subst e
        obtain ⟨μo, eo, no, po⟩ := qd acc5 μ5 p5 L5.no
        have fb := B1.fr _ _ L5.fr
        have cb := B1.con _ _ L5.fr L5.con
        rw [eo] at fb cb
        obtain ⟨vs9, hv9, hr9⟩ := cb Dl _ set_same
        refine .inl ⟨W1.stop _ H5 (Nat.le_refl _) gH5, acc5, μo, ⟨fun a o n e => ?_, con_set no cb, no, vs9, hv9, hr9⟩, po⟩
        have ha : a ≠ Dl := fun z => by rw [z, hD] at e; cases e
        obtain ⟨e3, n3'⟩ := (L2.fr.trans f3) a o n e
        obtain ⟨e5, n5⟩ := fb a o (by rw [set_ne ha]; exact n3') e3
        exact ⟨e5, by rw [set_ne ha] at n5; exact n5⟩
  · have e : i = xs.length := by omega
    subst e
    obtain ⟨vs, hv, hr⟩ := L.at_
    refine .inl ⟨W.stop _ H' (Nat.le_refl _) gH, ?_⟩
    have hbn : back μ' Dl = none := B.nw _ _ hD L.no
    have fb := B.fr _ _ L.fr
    have cb := B.con _ _ L.fr L.con
    refine k _ _ _ H' (fun b o n e => ?_) (con_back (m := .lst acc) cb ⟨vs, hv, hr⟩) (.ref Dl) (hd acc μ' p Dl hbn)
    obtain ⟨e2, n2⟩ := fb b o n e
    have hb : b ≠ Dl := fun z => by
      have e3 := B.old b o n e
      rw [z, hD] at e3; cases e3
    exact ⟨e2, by rw [set_ne hb]; exact n2⟩
end
end Z
namespace Z
open PySem L2
/-- plain, and n deep at most -/
structure OkN (n : Nat) (d : D) : Prop where
  p : D.plain d = true
  l : (D.py d).canLay0 = true
  d : (D.py d).depth ≤ n
theorem OkN.mono {n m : Nat} {d : D} (h : OkN n d) (l : n ≤ m) : OkN m d := ⟨h.p, h.l, Nat.le_trans h.d l⟩
theorem OkN.ok {n : Nat} {d : D} (h : OkN n d) (l : n ≤ 64) : D.ok d = true := by
  unfold D.ok SeqAt.shaped
  rw [h.p, h.l, decide_eq_true (Nat.le_trans h.d l)]
  rfl
theorem okn_int {i : Int} : OkN 0 (.int i) := ⟨by simp only [D.plain], by simp only [D.py, PyData.canLay0], by simp only [D.py, PyData.depth]; exact Nat.le_refl _⟩
theorem okn_bl {i : Bool} : OkN 0 (.bl i) := ⟨by simp only [D.plain], by simp only [D.py, PyData.canLay0], by simp only [D.py, PyData.depth]; exact Nat.le_refl _⟩
theorem okn_non : OkN 0 .non := ⟨by simp only [D.plain], by simp only [D.py, PyData.canLay0], by simp only [D.py, PyData.depth]; exact Nat.le_refl _⟩
theorem okn_all {n : Nat} : ∀ {ds : List D}, (∀ x ∈ ds, OkN n x) → D.plains ds = true ∧ PyData.canLayAll0 (D.pys ds) = true ∧ PyData.depthAll (D.pys ds) ≤ n
  | [], _ => ⟨by simp only [D.plains], by simp only [D.pys, PyData.canLayAll0], by simp only [D.pys, PyData.depthAll]; exact Nat.zero_le _⟩
  | x :: ds, h => by
    obtain ⟨h1, h2, h3⟩ := okn_all (ds := ds) fun y hy => h y (List.mem_cons_of_mem _ hy)
    have hx := h x List.mem_cons_self
    refine ⟨by simp only [D.plains, hx.p, h1, Bool.and_self], by simp only [D.pys, PyData.canLayAll0, hx.l, h2, Bool.and_self], ?_⟩
    simp only [D.pys, PyData.depthAll]
    exact Nat.max_le.mpr ⟨hx.d, h3⟩
theorem okn_tup {n : Nat} {ds : List D} (h : ∀ x ∈ ds, OkN n x) : OkN (n + 1) (.tup ds) := by
  obtain ⟨h1, h2, h3⟩ := okn_all h
  exact ⟨by simp only [D.plain]; exact h1, by simp only [D.py, PyData.canLay0]; exact h2, by simp only [D.py, PyData.depth]; omega⟩
theorem okn_pt {x y : Int} : OkN 1 (pt x y) := okn_tup fun z hz => by
  simp only [List.mem_cons, List.not_mem_nil, or_false] at hz
  rcases hz with rfl | rfl <;> exact okn_int
mutual
def D.it : D → Bool
  | .int _ => true
  | .tup ds => D.its ds
  | _ => false
def D.its : List D → Bool
  | [] => true
  | d :: ds => D.it d && D.its ds
end
mutual
theorem eqv_it : ∀ (d e : D), D.it d = true → D.it e = true → (PyData.eqv (D.py d) (D.py e) = true ↔ d = e)
  | .int i, .int j, _, _ => by simp [D.py, PyData.eqv]
  | .int i, .tup es, _, _ => by simp [D.py, PyData.eqv]
  | .tup ds, .int j, _, _ => by simp [D.py, PyData.eqv]
  | .tup ds, .tup es, h, k => by
    simp only [D.it] at h k
    simp only [D.py, PyData.eqv, D.tup.injEq]
    exact eqv_its ds es h k
  | .non, _, h, _ => by simp [D.it] at h
  | .bl _, _, h, _ => by simp [D.it] at h
  | .str _, _, h, _ => by simp [D.it] at h
  | .ty _, _, h, _ => by simp [D.it] at h
  | .rol _, _, h, _ => by simp [D.it] at h
  | .ref _, _, h, _ => by simp [D.it] at h
  | .int _, .non, _, h => by simp [D.it] at h
  | .int _, .bl _, _, h => by simp [D.it] at h
  | .int _, .str _, _, h => by simp [D.it] at h
  | .int _, .ty _, _, h => by simp [D.it] at h
  | .int _, .rol _, _, h => by simp [D.it] at h
  | .int _, .ref _, _, h => by simp [D.it] at h
  | .tup _, .non, _, h => by simp [D.it] at h
  | .tup _, .bl _, _, h => by simp [D.it] at h
  | .tup _, .str _, _, h => by simp [D.it] at h
  | .tup _, .ty _, _, h => by simp [D.it] at h
  | .tup _, .rol _, _, h => by simp [D.it] at h
  | .tup _, .ref _, _, h => by simp [D.it] at h
theorem eqv_its : ∀ (ds es : List D), D.its ds = true → D.its es = true → (PyData.eqvAll (D.pys ds) (D.pys es) = true ↔ ds = es)
  | [], [], _, _ => by simp [D.pys, PyData.eqvAll]
  | [], e :: es, _, _ => by simp [D.pys, PyData.eqvAll]
  | d :: ds, [], _, _ => by simp [D.pys, PyData.eqvAll]
  | d :: ds, e :: es, h, k => by
    simp only [D.its, Bool.and_eq_true] at h k
    have h1 := eqv_it d e h.1 k.1
    have h2 := eqv_its ds es h.2 k.2
    simp only [D.pys, PyData.eqvAll, Bool.and_eq_true, List.cons.injEq]
    rw [h1, h2]
end
end Z
namespace Z
open PySem L2
end Z
namespace PySem.HandSPX
open PySem PySem.Spec PySem.Calls
structure NewIn (B : String) (tl : List Value) : Prop where
  b : tl.contains (.type B) = true
  a : tl.contains (.type "AttributeError") = false
  n : tl.contains (.type "NameError") = false
section
variable {prog : Program} {w : World} {A : Around} {E : Value → Shared → Prop} {h : Heap} {g : Array GenState} {d : Drawn} {t : Nat} {os : OsState} {C : Addr} {B newId initId : String} {bmB rest : List Value}
/-- the class of the text at C: its objects are made by newId, B is of its chain, the two classes with fields of their own are not -/
structure OwnAt (h : Heap) (C : Addr) (B newId : String) : Prop where
  obj : ∃ (nm q : Str) (N : Addr) (bs bm : List Value) (hdct : Bool) (sn : List Str) (sub : List Value) (ab : Bool) (col : Option Bool) (dd : Option Addr) (k0 k1 k2 k3 k5 : Option Value), h.get? C = some (excClassObj nm q C N bs bm hdct sn sub ab col dd k0 k1 k2 k3 k5 newId) ∧
    (Value.ref C :: bm).contains (.type B) = true ∧ (Value.ref C :: bm).contains (.type "AttributeError") = false ∧ (Value.ref C :: bm).contains (.type "NameError") = false
/-- newId may be asked for such an object -/
theorem OwnAt.asked (c : OwnAt h C B newId) (F : ExcBaseFacts B newId initId bmB) {M : Model} {Q : Unit → Shared → Prop} (q : Q () ⟨h, g, d, t, os⟩) : wpAny M A (checkBuiltinCall newId ⟨.ref C :: rest, []⟩) Q E ⟨h, g, d, t, os⟩ := by
  obtain ⟨_, _, _, _, _, _, _, _, _, _, _, _, _, _, _, _, at_, isB, _⟩ := c.obj
  have plain := F.noStar
  simp only [checkBuiltinCall, F.newKind, F.newSplit, F.newRow]
  repeat' first
    | refine wpAny_loadPart_at at_ ?_
    | (refine wpAny_isSubtype_exc at_ ?_; rw [isB])
    | refine wpAny_staticBase_exc at_ ?_
    | refine wpAny_madeBy_exc at_ ?_
    | simp only [bne_self_eq_false, Bool.false_eq_true, if_false]
    | wp_step
  exact q
/-- what newId lays: the tuple of the arguments, then the object -/
theorem OwnAt.laid (c : OwnAt h C B newId) (F : ExcBaseFacts B newId initId bmB) (few : rest.length ≤ sizeLine) {R : Result → Shared → Prop}
    (q : R (.ok (.ret (.ref (h.objs.size + 1)))) ⟨(h.push (W.kdv_tup rest)).push (excO C h.objs.size), g, d, t, os⟩) : codeAny (model prog w) A (.builtin newId ⟨.ref C :: rest, []⟩) R ⟨h, g, d, t, os⟩ := by
  obtain ⟨_, _, _, _, _, _, _, _, _, _, _, _, _, _, _, _, at_, isB, notA, notN⟩ := c.obj
  have ends := F.ends
  apply codeAny_builtinAt F.entry
  unfold Builtin.«BaseException.__new__»
  apply wpAt_bind
  show wpAt _ _ _ (stack >>= _) _ _ _
  apply wpAt_bind
  apply wpAt_stack
  intro top below
  apply wpAt_of_wpAny
  wp_walk
  apply wpAt_of_wpAny
  rw [F.owner]
  repeat' first
    | with_reducible refine wpAny_madeHere_exc F.canon at_ ?_
    | with_reducible refine wpAny_loadPart_at at_ ?_
    | (with_reducible refine wpAny_isSubtype_exc at_ ?_; simp only [isB, notA, notN])
    | wp_step
  rw [show h.objs.size + 1 = (h.push (W.kdv_tup rest)).objs.size from (Heap.size_push ..).symm] at q
  exact q
/-- type.__call__ at C: laid, then given to its own __init__, which gives None -/
theorem OwnAt.text (c : OwnAt h C B newId) (F : ExcBaseFacts B newId initId bmB) (few : rest.length ≤ sizeLine) {fI : Addr} {Q : Fin → Shared → Prop} (init : W.Looks (model prog w) h (typeLookup (.ref C) "__init__") (some (.ref fI)))
    (bind : ∀ self, W.Looks (model prog w) h (bindSpecial (.ref fI) self) (.ref fI, [self]))
    (q : codeAny (model prog w) A (.call (.ref fI) ⟨.ref (h.objs.size + 1) :: rest, []⟩) (fun r z => match r with | .ok (.ret v) => v = .none ∧ Q (.done (.ret (.ref (h.objs.size + 1)))) z | .ok _ => False | .error e => E e z)
      ⟨(h.push (W.kdv_tup rest)).push (excO C h.objs.size), g, d, t, os⟩) : wpAny (model prog w) A (Builtin.«type.__call__» ⟨.ref C :: rest, []⟩) Q E ⟨h, g, d, t, os⟩ := by
  have c' := c
  obtain ⟨_, _, _, _, bm, _, _, _, _, _, _, _, _, _, _, _, at_, _⟩ := c'.obj
  have more : ∀ b o, h.get? b = some o → ((h.push (W.kdv_tup rest)).push (excO C h.objs.size)).get? b = some o := fun b o e => Heap.get?_push_of_some _ (Heap.get?_push_of_some _ e)
  have new : ((h.push (W.kdv_tup rest)).push (excO C h.objs.size)).get? (h.objs.size + 1) = some (excO C h.objs.size) := by heap_get
  have itself : (Value.ref C :: bm).contains (.ref C) = true := by rw [List.contains_cons, beq_self_eq_true, Bool.true_or]
  repeat' first
    | with_reducible refine wpAny_loadPart_at at_ ?_
    | with_reducible refine wpAny_madeBy_exc at_ ?_
    | wp_step
  apply codeAny_call_builtin_code (Code.quiet_builtin _ F.quiet) (c.asked F _)
  apply c.laid F few
  show wpAny _ _ _ _ _ _
  unfold isInstance
  have at2 := more _ _ at_
  repeat' first
    | with_reducible refine wpAny_loadPart_at new ?_
    | (with_reducible refine wpAny_isSubtype_exc at2 ?_; rw [itself])
    | wp_step
  show wpAny _ _ (typeLookup (.ref C) _) _ _ _
  apply (init.keeps more).at
  apply wpAny_holding
  apply wpAny_bind
  apply ((bind (.ref (h.objs.size + 1))).keeps more).at
  apply wpAny_bind
  apply wpAny_call
  apply codeAny_mono q
  intro r z out
  match r, out with
  | .error _, out => exact out
  | .ok (.ret _), ⟨rfl, out⟩ => first | exact wpAny_pure (wpAny_pure out) | (wp_walk; exact out)
/-- C(..) -/
theorem OwnAt.called (c : OwnAt h C B newId) (F : ExcBaseFacts B newId initId bmB) (few : rest.length ≤ sizeLine) {fI : Addr} {R : Result → Shared → Prop} (init : W.Looks (model prog w) h (typeLookup (.ref C) "__init__") (some (.ref fI)))
    (bind : ∀ self, W.Looks (model prog w) h (bindSpecial (.ref fI) self) (.ref fI, [self]))
    (q : codeAny (model prog w) (A.under (.builtin "type.__call__" ⟨.ref C :: rest, []⟩)) (.call (.ref fI) ⟨.ref (h.objs.size + 1) :: rest, []⟩) (W.InitBack (h.objs.size + 1) R) ⟨(h.push (W.kdv_tup rest)).push (excO C h.objs.size), g, d, t, os⟩) :
    codeAny (model prog w) A (.call (.ref C) ⟨rest, []⟩) R ⟨h, g, d, t, os⟩ := by
  obtain ⟨_, _, _, _, _, _, _, _, _, _, _, _, _, _, _, _, at_, _⟩ := id c.obj
  have looked := tc_lookup
  have bound := tc_bind (.ref C)
  have isType : (⟨h, g, d, t, os⟩ : Shared).TypeIs (.ref C) "type" := ⟨_, at_, rfl⟩
  apply codeAny_of_tree
  show wpAny _ _ (callAny (.ref C) _) _ _ _
  repeat any_goals first
    | assumption
    | with_reducible refine wpAny_loadPart_at at_ ?_
    | wp_step
  refine ⟨rfl, ?_⟩
  apply codeAny_call_builtin_at (Code.quiet_builtin _ (by decide +kernel)) entry_typeCall
  apply wpAny_check_type_call_sub at_
  apply c.text F few init bind
  apply codeAny_mono q
  intro r z out
  match r, out with
  | .error _, out => exact out
  | .ok (.ret _), out => exact out
end
end PySem.HandSPX
namespace XO
open PySem PySem.Spec PyProof.Rows L2
open Builtin Builtin.ObjectAttr
def isR : Value → Bool
  | .ref _ => true
  | _ => false
/-- own classes, then the base's chain -/
def rT (tl l : List Value) : Bool := l.dropWhile isR == tl
theorem isR_ex : ∀ {a : Value}, isR a = true → ∃ c, a = .ref c
  | .ref c, _ => ⟨c, rfl⟩
theorem rT_eq {tl : List Value} {a : Value} {r : List Value} (h : rT tl (a :: r) = true) : (∃ c, a = .ref c ∧ rT tl r = true) ∨ a :: r = tl := by
  unfold rT at h
  rw [List.dropWhile_cons] at h
  by_cases q : isR a = true
  · rw [if_pos q] at h
    obtain ⟨c, e⟩ := isR_ex q
    exact .inl ⟨c, e, h⟩
  · rw [if_neg q] at h
    exact .inr (beq_iff_eq.mp h)
theorem rT_nil {tl : List Value} (h : rT tl [] = true) : [] = tl := beq_iff_eq.mp h
theorem rT_pass {tl : List Value} (hp : ∀ self, refuseLoop self "__setattr__" tl = pure ()) (self : Value) : ∀ l : List Value, rT tl l = true → refuseLoop self "__setattr__" l = pure ()
  | [], h => by rw [rT_nil h]; exact hp self
  | a :: r, h => by
    rcases rT_eq h with ⟨c, e, q⟩ | e
    · rw [e, refuseLoop_ref]; exact rT_pass hp self r q
    · rw [e]; exact hp self
theorem rT_has {tl : List Value} (X : String) : ∀ l : List Value, rT tl l = true → l.contains (.type X) = tl.contains (.type X)
  | [], h => by rw [rT_nil h]
  | a :: r, h => by
    rcases rT_eq h with ⟨c, e, q⟩ | e
    · rw [e, List.contains_cons, rT_has X r q]; rfl
    · rw [e]
/-- such a class as it stands in the heap -/
theorem ownAt {h : Heap} {C N : Addr} {B newId : String} {tl bm bs : List Value} {nm q : Str} {hdct : Bool} {sn : List Str} {sub : List Value} {ab : Bool} {col : Option Bool} {dd : Option Addr} {k0 k1 k2 k3 k5 : Option Value} (NI : PySem.HandSPX.NewIn B tl)
    (at_ : h.get? C = some (excClassObj nm q C N bs bm hdct sn sub ab col dd k0 k1 k2 k3 k5 newId)) (chain : rT tl bm = true) : PySem.HandSPX.OwnAt h C B newId := by
  have other : ∀ (Y : String), (Value.ref C :: bm).contains (.type Y) = tl.contains (.type Y) := fun Y => by
    rw [List.contains_cons, rT_has Y bm chain]
    rfl
  exact ⟨_, _, _, _, bm, _, _, _, _, _, _, _, _, _, _, _, at_, (other _).trans NI.b, (other _).trans NI.a, (other _).trans NI.n⟩
/-- what is asked of a base: its chain is tl -/
structure Bt (tl : List Value) : Prop where
  pass : ∀ self, refuseLoop self "__setattr__" tl = pure ()
  obj : tl.contains (.type "object") = true
theorem rT_some {tl l : List Value} (b : Bt tl) (h : rT tl l = true) : l.isEmpty = false := by
  cases l with
  | nil =>
    have q := b.obj
    rw [← rT_nil h] at q
    cases q
  | cons _ _ => rfl
abbrev tlIE : List Value := [.type "IndexError", .type "LookupError", .type "Exception", .type "BaseException", .type "object"]
abbrev tlVE : List Value := [.type "ValueError", .type "Exception", .type "BaseException", .type "object"]
theorem bt_IE : Bt tlIE := ⟨fun self => by kernel_rfl, by decide +kernel⟩
abbrev tlKE : List Value := [.type "KeyError", .type "LookupError", .type "Exception", .type "BaseException", .type "object"]
theorem bt_KE : Bt tlKE := ⟨fun self => by kernel_rfl, by decide +kernel⟩
section
variable {prog : Program} {w : World} {A : Around} {E : Value → Shared → Prop} {R : Result → Shared → Prop} {hp : Heap} {g : Array GenState} {dr : Drawn} {t : Nat} {os : OsState}
/-- the first field of an exception of such a class -/
theorem osa_first {K : W.Frag} {nm : Str} {tk : Tok} {u : Value} {e C : Addr} {fv : Array Value} {cd : ClassData} {tl : List Value} (bt : Bt tl)
    (kin : K.In hp) (at_e : hp.get? e = some { cls := .ref C, data := .fields fv }) (cl : W.clsIn K C = some cd) (ch : rT tl cd.mro = true) (own : cd.hasDict = true) (none_ : W.findIn K (.ref C) nm = some none)
    (fin : ∀ h2 tk2 dx, (∀ b o, b ≠ e → hp.get? b = some o → h2.get? b = some o) → hp.objs.size ≤ dx → dx ≠ e → h2.get? e = some { cls := .ref C, dict := some dx, data := .fields fv } →
      h2.Ns1 dx (fun y => if y = nm then some u else none) → R (.ok (.ret .none)) ⟨h2, g, dr, tk2, os⟩) :
    codeAny (model prog w) A (.call (.builtin "object.__setattr__") ⟨[.ref e, .str nm tk, u], []⟩) R ⟨hp, g, dr, t, os⟩ := by
  have inst : W.InstAt hp e { cls := .ref C, data := .fields fv } C none := ⟨at_e, rfl, rfl, trivial⟩
  have sto := F.store_object
  have isO : cd.mro.contains (.type "object") = true := (rT_has "object" _ ch).trans bt.obj
  have ene : e ≠ hp.objs.size := Nat.ne_of_lt (Heap.lt_size at_e)
  have isI : W.Looks (model prog w) hp (isInstance (.ref e) (.type "object")) true :=
    inst.type.andThen (W.looks_mroIn kin (by unfold W.mroIn; rw [cl, Option.bind_some, if_neg (by rw [rT_some bt ch]; decide), isO]))
  refine codeAny_call_builtin sto.slot.plain sto.entry
    (@W.check_slot (model prog w) _ _ ⟨hp, g, dr, t, os⟩ "object.__setattr__" "object" "__setattr__" (.ref e) [.str nm tk, u] [] _ sto.kind sto.split isI (sto.args (.ref e) (.str nm tk) u) ?_)
  have chain : W.Looks (model prog w) hp (mroOf (.ref C)) cd.mro := (W.looks_clsIn kin cl).andThen .now
  have noTaker : W.Looks (model prog w) hp (storeTaker? none) none := .now
  have theCls : W.Looks (model prog w) hp (classData C) cd := W.looks_clsIn kin cl
  rw [W.osa_eq, refuse_eq]
  refine wpAny_bind (wpAny_bind (inst.type.at (wpAny_bind (chain.at ?_))))
  rw [rT_pass bt.pass _ _ ch]
  refine wpAny_pure (wpAny_bind (inst.type.at (wpAny_bind ((W.looks_findIn kin none_).at (wpAny_bind (noTaker.at ?_))))))
  show wpAny _ _ (storeInOwnDict (.ref e) (.ref C) (.str nm tk) nm u false) _ _ _
  obtain ⟨n0, b0, m0, s0, q0, hd0, sn0, sb0, a0, c0, d0⟩ := cd
  dsimp only at own
  subst own
  unfold storeInOwnDict ownDictForStores
  repeat (first | with_reducible refine HandSPX.store_in_new ?_ ?_ | with_reducible refine wpAny_loadPart_at at_e ?_ | with_reducible refine theCls.at ?_ | wp_step)
  · exact ⟨_, #[], _, (Heap.get?_update_ne _ _ _ _ ene.symm).trans (Heap.get?_push_at rfl rfl), rfl, fun e he => absurd he (by simp), fun _ => rfl⟩
  · intro h2 tk2 ns2 same
    have e_old : (hp.push { cls := .type "dict", data := .dict #[] }).get? e = some { cls := .ref C, data := .fields fv } := Heap.get?_push_of_some _ at_e
    refine fin h2 tk2 hp.objs.size (fun b o nb at_b => ?_) (Nat.le_refl _) ene.symm ?_ ns2
    · exact (same.2 b (Nat.ne_of_lt (Heap.lt_size at_b))).trans ((Heap.get?_update_ne _ _ _ _ nb).trans (Heap.get?_push_of_some _ at_b))
    · exact (same.2 e ene).trans (Heap.get?_update_self _ e_old rfl)
end
/-- what the written part says of such a class -/
structure OexB (K : PySem.W.Frag) (C : Addr) (newId : String) (tl : List Value) : Prop where
  cls : ∃ nm q N bs bm sn sub ab col dd k0 k1 k2 k3 k5, K.lookup C = some (excClassObj nm q C N bs bm true sn sub ab col dd k0 k1 k2 k3 k5 newId) ∧ rT tl bm = true
  bt : Bt tl
  sa : PySem.W.findIn K (.ref C) "__setattr__" = some (some (.builtin "object.__setattr__"))
  exC : PySem.W.subIn K (.ref C) (.type "BaseException") = some true
  tyC : PySem.W.typeIn K (.ref C) = some (.type "type")
  kC : PySem.W.keepIn K (.ref C) = true
section
variable {X : Cx} {pins : List (Addr × Obj)} {σ : L2.St} {H : Hp} {s : Shared} {a C dx : Addr} {f : Str} {y : V} {u : Value} {Q : Unit → Shared → Prop} {E : Value → Shared → Prop} {A : Around} {newId : String} {tl : List Value}
theorem put_first (T : OexB X.K C newId tl) (I : Inv X pins σ H s) (e : H a = some (exo a C none)) (none_ : PySem.W.findIn X.K (.ref C) f = some none) (ry : RelV y u)
    (k : ∀ dx s2, H dx = none → dx ≠ a → Inv X pins σ (upd (upd H dx (exd dx [(f, y)])) a (exo a C (some dx))) s2 → Q () s2) : wpAny (model X.prog X.w) A (setAttr (.ref a) f u) Q E s := by
  obtain ⟨nm, q, N, bs, bm, sn, sub, ab, col, dd, k0, k1, k2, k3, k5, atC, chain⟩ := T.cls
  have cl : PySem.W.clsIn X.K C = some { name := nm, bases := bs, mro := .ref C :: bm, ns := N, qualname := q, hasDict := true, slotNames := sn, subclasses := sub, abstract := ab, collection := col, hasDel := false } := by
    unfold PySem.W.clsIn; rw [atC] <;> rfl
  have chain2 : rT tl (.ref C :: bm) = true := by unfold rT at chain ⊢; rw [List.dropWhile_cons, if_pos (by rfl)]; exact chain
  obtain ⟨t1, at_a⟩ := exo_at I.hok e
  obtain ⟨hp, g, dr, t, os⟩ := s
  refine PySem.W.set_plain I.kIn (ox := { cls := .ref C, dict := none, data := .fields #[.ref t1, .none, .none, .none, .bool false, .none] }) (od := none) ⟨at_a, rfl, rfl, trivial⟩ T.sa ?_
  refine osa_first T.bt I.kIn at_a cl chain2 rfl none_ (fun h2 tk2 dx keep big dne hx hn => ?_)
  have free : H dx = none := I.hok.fresh big
  have nd : ∀ {b : Addr} {o : Obj}, hp.get? b = some o → b ≠ dx := fun {b o} z => Nat.ne_of_lt (Nat.lt_of_lt_of_le (Heap.lt_size z) big)
  have na : ∀ {b : Addr}, H b = none → b ≠ a := fun {b} n z => by rw [z, e] at n; cases n
  have un : Un X.fs [] H (upd (upd H dx (exd dx [(f, y)])) a (exo a C (some dx))) hp h2 :=
    ⟨fun b o z n _ _ => keep b o (na n) z, fun b o z n _ _ => ⟨o.slots, keep b o (na n) z⟩, fun b o z n _ => by rw [upd_ne (na n), upd_ne (nd z)]; exact n,
      fun b o z _ => by
        by_cases hb : b = a
        · exact ⟨_, by rw [hb]; exact hx⟩
        · exact ⟨o, keep b o hb z⟩,
      fun b xs z => by rw [upd_ne (at_ne e z exo_tup), upd_ne (ne_of_none z free)]; exact z,
      fun b o v z => by rw [upd_ne (at_ne e z exo_frz), upd_ne (ne_of_none z free)]; exact z,
      fun b ps z => ⟨#[], by rw [upd_ne (at_ne e z exo_tbl), upd_ne (ne_of_none z free), z]; simp⟩⟩
  refine k dx _ free dne (I.un (t' := tk2) un fun b o z => ?_)
  by_cases hb : b = a
  · subst hb
    rw [upd_same] at z
    cases z
    exact exo_ok hx
  by_cases hd : b = dx
  · subst hd
    rw [upd_ne hb, upd_same] at z
    cases z
    exact exd_ok hn (relO_put (fs := []) ry fun g => True.intro)
  rw [upd_ne hb, upd_ne hd] at z
  refine (I.hok b o z).stay (fun c v hc r => keep c v ?_ r) (fun c hc => ?_) (fun c xs hc => ?_)
  · rcases hc with hc | hc
    · rw [hc]; exact hb
    · exact at_ne e hc exo_own
  · rw [upd_ne (at_ne e hc exo_own), upd_ne (ne_of_none hc free)]; exact hc
  · rw [upd_ne (at_ne e hc exo_tup), upd_ne (ne_of_none hc free)]; exact hc
end
/-- self.f = e, in the making -/
def tOs1 (K : PySem.W.Frag) (newId : String) (tl : List Value) (f : Str) (to te : TE) : TS := fun D σ H => te σ H fun y H1 => to σ H1 fun x H2 => ∃ a C : Addr, x = .ref a ∧ OexB K C newId tl ∧ PySem.W.findIn K (.ref C) f = some none ∧
  H2 a = some (exo a C none) ∧ ∀ dx, H2 dx = none → dx ≠ a → D.nx σ (upd (upd H2 dx (exd dx [(f, y)])) a (exo a C (some dx)))
theorem ps_os1 {X : Cx} {o e : Expr} {to te : TE} {f : Str} {p pos : Pos} {newId : String} {tl : List Value} (ho : PE X o to) (he : PE X e te) (hs : swapsWith e (some (.Attribute o f p)) pos.line X.env = pure false := by rfl) :
    PS X (.Assign [.Attribute o f p] e pos) (tOs1 X.K newId tl f to te) := by
  refine ⟨fun pins s σ H D I h => ?_⟩
  refine plainObj_wpAny_Assign_Attribute (thn (he.run pins s σ H _ I h) fun v s1 ⟨y, H1, I1, r1, q1⟩ => thn (ho.run pins s1 σ H1 _ I1 q1) fun u s2 ⟨x, H2, I2, r2, a, C, ex, T, none_, ea, q⟩ => ?_) hs
  subst ex
  obtain rfl : u = Value.ref a := r2
  exact put_first T I2 ea none_ r1 fun dx s3 n ne J => ⟨σ, _, J, q dx n ne⟩
/-- __init__(self, v) of such a class -/
def spI1 (K : PySem.W.Frag) (newId : String) (tl : List Value) (f : Str) : Sp := fun vs H Q _ => ∃ (a C : Addr) (y : V), vs = [.ref a, y] ∧ OexB K C newId tl ∧ PySem.W.findIn K (.ref C) f = some none ∧ H a = some (exo a C none) ∧
  ∀ dx, H dx = none → dx ≠ a → Q .non (upd (upd H dx (exd dx [(f, y)])) a (exo a C (some dx)))
/-- C(e) -/
def tMk1 (C : Addr) (f : Str) (ta : TA) : L2.St → Hp → XK → Prop := fun σ H Q => ta σ H fun vs H1 => ∃ y, vs = [y] ∧ ∀ dx, H1 dx = none → Q (.ref C) (some dx) (upd H1 dx (.xd [(f, y)]))
section
variable {X : Cx} {C fI : Addr} {k : Nat} {fd : FuncData} {B newId initId : String} {tl : List Value} {x f p1 p2 : Str} {e : Expr} {es : List Expr} {ta : TA} {p pos : Pos}
theorem pmk_1 {tl0 : List Value} (F : ExcBaseFacts B newId initId tl0) (NI : PySem.HandSPX.NewIn B tl) (T : OexB X.K C newId tl) (none_ : PySem.W.findIn X.K (.ref C) f = some none) (iC : PySem.W.findIn X.K (.ref C) "__init__" = some (some (.ref fI))) (tI : PySem.W.typeIn X.K (.ref fI) = some (.type "function"))
    (G : FnOk X.prog X.w X.K X.mg X.base CX0 k fI fd [p1, p2] (spI1 X.K newId tl f)) (hr : Room (k + 1) X.A) (hb : Binds X.K fd [p1, p2] []) (hg : Gl X x) (hm : X.mg x = some (.ref C)) (ha : PA X (e :: es) ta)
    (hdb : (x == ("__debug__" : Str)) = false := by decide) (he : starEach (e :: es) X.env = (false, eval e X.env) :: starEach es X.env := by rfl) (hpl : (backTo pos (starEach es X.env)).any (·.1) = false := by rfl) :
    PMk X (.Call (.Name x p) (e :: es) [] pos) (tMk1 C f ta) := by
  intro pins s σ H Q I h
  obtain ⟨nm, q, N, bs, bm, sn, sub, ab, col, dd, k0, k1, k2, k3, k5, atC, chain⟩ := T.cls
  refine wpAny_Call_Name_kw (ld_glob I hg hm ?_ hdb)
  refine PySem.W.callWith_K (h₀ := X.base) I.ok.mod.kin T.kC (thn (ha.run pos pins s σ H _ I h) fun us s1 ⟨vs, H1, I1, r1, y, ev, q1⟩ => ⟨I1.kIn, ?_⟩) he hpl
  subst ev
  show wpAny _ _ (call (.ref C) us) _ _ _
  cases r1 with
  | @cons _ u0 _ ur ry rn =>
  cases rn
  obtain ⟨hp, g, dr, tk, os⟩ := s1
  have le1 : hp.objs.size ≤ hp.objs.size + 1 := Nat.le_succ _
  have free : H1 (hp.objs.size + 1) = none := I1.hok.fresh le1
  have old : ∀ b o, hp.get? b = some o → ((hp.push (PySem.W.kdv_tup [u0])).push (PySem.HandSPX.excO C hp.objs.size)).get? b = some o := fun b o z => Heap.get?_push_of_some _ (Heap.get?_push_of_some _ z)
  have hget : ((hp.push (PySem.W.kdv_tup [u0])).push (PySem.HandSPX.excO C hp.objs.size)).get? (hp.objs.size + 1) = some (PySem.HandSPX.excO C hp.objs.size) := by heap_get
  have J : Inv X pins σ (upd H1 (hp.objs.size + 1) (exo (hp.objs.size + 1) C none)) ⟨(hp.push (PySem.W.kdv_tup [u0])).push (PySem.HandSPX.excO C hp.objs.size), g, dr, tk, os⟩ :=
    I1.laid (t' := tk) (a := hp.objs.size + 1) (o := exo (hp.objs.size + 1) C none) old le1 (exo_ok hget)
  have rr : Vals [V.ref (hp.objs.size + 1), y] [Value.ref (hp.objs.size + 1), u0] := .cons rfl (.cons ry .nil)
  have small : [u0].length ≤ sizeLine := by rw [sizeLine_eq]; exact (by decide : 1 ≤ 16777216)
  have bd := hb _ [Value.ref (hp.objs.size + 1), u0] J.kIn rfl
  rw [List.append_nil] at bd
  have ask : spI1 X.K newId tl f [V.ref (hp.objs.size + 1), y] (upd H1 (hp.objs.size + 1) (exo (hp.objs.size + 1) C none))
      (fun v H2 => v = .non ∧ ∃ d, H2 (hp.objs.size + 1) = some (exo (hp.objs.size + 1) C (some d)) ∧ H2 d = some (exd d [(f, y)]) ∧ H1 d = none ∧ Q (.ref C) (some d) (upd (L2.del H2 (hp.objs.size + 1)) d (.xd [(f, y)]))) (fun _ _ _ => False) := by
    refine ⟨_, C, y, rfl, T, none_, upd_same, fun d fr ne => ⟨rfl, d, upd_same, by rw [upd_ne ne, upd_same], by rw [upd_ne ne] at fr; exact fr, ?_⟩⟩
    have e2 : upd (L2.del (upd (upd (upd H1 (hp.objs.size + 1) (exo (hp.objs.size + 1) C none)) d (exd d [(f, y)])) (hp.objs.size + 1) (exo (hp.objs.size + 1) C (some d))) (hp.objs.size + 1)) d (.xd [(f, y)]) = upd H1 d (.xd [(f, y)]) := by
      funext b
      by_cases b1 : b = d
      · rw [b1, upd_same, upd_same]
      · rw [upd_ne b1, upd_ne b1]
        by_cases b2 : b = hp.objs.size + 1
        · rw [b2, del_same, free]
        · rw [L2.del_ne b2, upd_ne b2, upd_ne b1, upd_ne b2]
    rw [e2]
    exact q1 d (by rw [upd_ne ne] at fr; exact fr)
  refine wpAny_call ((ownAt NI (I1.kIn _ _ atC) chain).called F small (PySem.W.looks_findIn I1.kIn iC) (fun self => PySem.W.bind_fn I1.kIn self tI)
    (codeAny_mono (G.run _ X.stack _ _ ⟨[Value.ref (hp.objs.size + 1), u0], []⟩ [Value.ref (hp.objs.size + 1), u0] _ _ (fun _ _ _ => False) (hr.make C [u0] []) (J.env0.make C [u0] []) bd rr ask) fun r s2 res => ?_))
  cases r with
  | error er => exact res.elim
  | ok fl =>
    cases fl with
    | ret u =>
      obtain ⟨v, H2, os2, bare2, un2, hok2, rv, ev, d, ea, ed, hd1, q2⟩ := res
      subst ev
      obtain ⟨h2, g2, d2, t2, o2⟩ := s2
      exact ⟨rv, mk_end (raises_own T.exC T.tyC) I1 le1 old un2 hok2 os2 bare2 ea ed hd1 q2⟩
    | next => exact res.elim
    | brk => exact res.elim
    | cont => exact res.elim
end
/-- the text of such an __init__ keeps spI1 -/
theorem init_ok {P : Program} {w : World} {K : PySem.W.Frag} {newId : String} {tl : List Value} {f p1 p2 : Str} {D : Ends} {vs : List V} {H : Hp} {Q : VK} {E : XK} (h : spI1 K newId tl f vs H Q E) :
    tOs1 K newId tl f (tVar 0) (tVar 1) { nx := fun _ H' => Q .non H', rt := Q } (L2.start [p1, p2] vs) H := by
  obtain ⟨a, C, y, ev, T, none_, ea, q⟩ := h
  subst ev
  exact ⟨y, rfl, _, rfl, a, C, rfl, T, none_, ea, fun dx n ne => q dx n ne⟩
end XO
namespace Z
open PySem L2
/-- o.m(..) where it may let an exception out -/
def tMethX (C : Addr) (m : Str) (sp : Sp) (E : L2.St → XK) (ta : TE) (t : TA) : TE := fun σ H Q => ta σ H fun x H1 => ∃ a dx fs, x = .ref a ∧ H1 a = some (.ins C dx fs) ∧ fs.lookup m = none ∧ t σ H1 fun vs H2 => sp (x :: vs) H2 Q (E σ)
abbrev XW := Str → Option Addr → M → Prop
/-- P args store wish out -/
abbrev PT4 := List D → M → (D → M → Prop) → XW → Prop
def spX (K : PySem.W.Frag) (cn : Str → Option Value) (P : PT4) : Sp := fun vs H Q E => ∃ ds μ Φ Ξ, Rels K H vs ds ∧ Z.Con K H μ ∧ P ds μ Φ Ξ ∧ (∀ d μ' v H', Fr μ μ' H H' → Z.Con K H' μ' → Rel K H' v d → Φ d μ' → Q v H') ∧
  ∀ x dx μ' cls H', cn x = some cls → Fr μ μ' H H' → Z.Con K H' μ' → Ξ x dx μ' → E cls dx H'
section
variable {K : PySem.W.Frag} {τ : T} {μ μ1 μ2 : M} {H H1 H2 : Hp} {σ : L2.St} {Φ Ψ : D → M → Prop} {ta tb tc te : TE} {t u : TT} {x y z d e : D} {N : AEnds} {ts us : TS} {P : PT4} {P3 : PT3} {E : XK} {g : TG} {cn : Str → Option Value}
theorem spX_len {vs : List V} {Q : VK} {n : Nat} (h : spX K cn P vs H Q E) (hn : ∀ ds μ Φ Ξ, P ds μ Φ Ξ → ds.length = n) : vs.length = n := by
  obtain ⟨ds, μ, Φ, Ξ, r, _, p, _⟩ := h
  rw [r.length]; exact hn _ _ _ _ p
abbrev endX (cn : Str → Option Value) (E : XK) (Φ : D → M → Prop) (Ξ : XW) : AEnds := { nx := fun _ μ' => Φ .non μ', rt := Φ, W := fun cls d _ H => E cls d H, cn := cn, xs := fun x dx _ μ' => Ξ x dx μ' }
theorem body_okX {Ns : List Str} {vs : List V} {Q : VK} (h : spX K cn P vs H Q E) (hb : ∀ ds μ Φ Ξ, P ds μ Φ Ξ → AS K ts (startD Ns.length ds) μ (endX cn E Φ Ξ)) :
    ts { nx := fun _ H' => Q .non H', rt := Q } (L2.start Ns vs) H := by
  obtain ⟨ds, μ, Φ, Ξ, r, c, p, k, kx⟩ := h
  exact hb ds μ Φ Ξ p _ H (slots_start r) c _ ⟨fun _ μ' _ H' f c' _ q => k .non μ' .non H' f c' .non q, fun d μ' v H' f c' r' q => k d μ' v H' f c' r' q, fun _ _ _ _ _ _ _ q => q.elim, fun _ _ _ _ _ _ _ q => q.elim,
    fun x dx _ μ' cls _ H' e f c' _ q => kx x dx μ' cls H' e f c' q⟩
/-- what a def has made for itself is forgotten at its end -/
abbrev UpX (Ξ : XW) : XW := fun x dx μ' => ∃ μ2, Sub μ2 μ' ∧ Ξ x dx μ2
/-- a call that lets nothing out here -/
theorem a_callX {ta : TA} (h : AA K ta τ μ fun ds μ1 => P ds μ1 Φ fun _ _ _ => False) : AE K (tCall (spX K cn P) [] E ta) τ μ Φ := fun σ H s c Q k =>
  h σ H s c _ fun ds μ1 vs H1 f1 c1 r1 p => by
    show spX K cn P (vs ++ []) H1 Q E
    rw [List.append_nil]
    exact ⟨ds, μ1, Φ, _, r1, c1, p, fun d μ' v H' f c' r q => k d μ' v H' (f1.trans f) c' r q, fun _ _ _ _ _ _ _ _ q => q.elim⟩
def AEX (K : PySem.W.Frag) (t : TE) (τ : T) (μ : M) (N : AEnds) (Φ : D → M → Prop) : Prop :=
  ∀ σ H, Slots K H τ σ → Con K H μ → ∀ Q : VK, (∀ d μ' v H', Fr μ μ' H H' → Con K H' μ' → Rel K H' v d → Φ d μ' → Q v H') →
    (∀ x dx μ' cls H', N.cn x = some cls → Fr μ μ' H H' → Con K H' μ' → N.xs x dx τ μ' → N.W cls dx σ H') → t σ H Q
theorem x_of {E' : Ends} (k : EndsOk K N μ H E') (s : Slots K H τ σ) (c : Con K H μ) : ∀ x dx μ' cls H', N.cn x = some cls → Fr μ μ' H H' → Con K H' μ' → N.xs x dx τ μ' → N.W cls dx σ H' :=
  fun x dx μ' cls H' e f c' q => k.wx x dx τ μ' cls σ H' e f c' (s.mono (f.tx c)) q
theorem s_dropX (h : AEX K te τ μ N fun _ μ' => N.nx τ μ') : AS K (tDrop te) τ μ N := fun σ H s c E k =>
  h σ H s c _ (fun d μ' v H' f c' r p => k.nx τ μ' σ H' f c' (s.mono (f.tx c)) p) (x_of k s c)
theorem s_asgX (h : AEX K te τ μ N fun d μ' => AG K g d τ μ' N.nx) : AS K (tAsg te g) τ μ N := fun σ H s c E k =>
  h σ H s c _ (fun d μ' v H' f c' r p => p σ H' v (s.mono (f.tx c)) c' r _ fun τ2 μ2 σ2 H2 f2 c2 s2 q => k.nx τ2 μ2 σ2 H2 (f.trans f2) c2 s2 q) (x_of k s c)
theorem x_call {ta : TA} (h : AA K ta τ μ fun ds μ1 => P ds μ1 Φ fun x dx μ' => N.xs x dx τ μ') : AEX K (tCallS (spX K N.cn P) (WE N.W) ta) τ μ N Φ := fun σ H s c Q k kx =>
  h σ H s c _ fun ds μ1 vs H1 f1 c1 r1 p => ⟨ds, μ1, Φ, _, r1, c1, p, fun d μ' v H' f c' r q => k d μ' v H' (f1.trans f) c' r q, fun x dx μ' cls H' e f c' q => kx x dx μ' cls H' e (f1.trans f) c' q⟩
theorem look_none {H1 : Hp} {m : Str} : ∀ {vs : List (Str × V)} {fs : List (Str × D)}, RelKV K H1 vs fs → fs.lookup m = none → vs.lookup m = none := by
  intro vs fs r
  induction r with
  | nil => intro _; rfl
  | cons a _ ih =>
    rename_i p q ps qs _
    obtain ⟨e1, _⟩ := a
    intro h
    rw [List.lookup_cons] at h ⊢
    rw [e1]
    split at h
    · cases h
    · exact ih h
/-- o.m(..), what the instance is made of kept -/
theorem a_methX {C : Addr} {m : Str} {ta : TA} (h : AE K te τ μ fun o μ1 => ∃ a dx fs, o = .ref a ∧ μ1 a = some (.ins C dx fs) ∧ fs.lookup m = none ∧ AA K ta τ μ1 fun ds μ2 => P (o :: ds) μ2 Φ fun _ _ _ => False) :
    AE K (tMeth C m (spX K cn P) [] E te ta) τ μ Φ := fun σ H s c Q k =>
  h σ H s c _ fun o μ1 v H1 f1 c1 r1 ⟨a, dx, fs, e, ha, hm, p1⟩ => by
    subst e
    cases r1
    obtain ⟨vs, hv, hr⟩ := c1 a _ ha
    refine ⟨a, dx, vs, rfl, hv, look_none hr hm, p1 σ H1 (s.mono (f1.tx c)) c1 _ fun ds μ2 us H2 f2 c2 r2 p => ?_⟩
    rw [List.append_nil]
    exact ⟨.ref a :: ds, μ2, Φ, _, .cons (.ref a) r2, c2, p, fun d μ' v H' f c' r q => k d μ' v H' ((f1.trans f2).trans f) c' r q, fun _ _ _ _ _ _ _ _ q => q.elim⟩
theorem x_meth {C : Addr} {m : Str} {ta : TA} (h : AE K te τ μ fun o μ1 => ∃ a dx fs, o = .ref a ∧ μ1 a = some (.ins C dx fs) ∧ fs.lookup m = none ∧ AA K ta τ μ1 fun ds μ2 => P (o :: ds) μ2 Φ fun x dx μ' => N.xs x dx τ μ') :
    AEX K (tMethX C m (spX K N.cn P) (WE N.W) te ta) τ μ N Φ := fun σ H s c Q k kx =>
  h σ H s c _ fun o μ1 v H1 f1 c1 r1 ⟨a, dx, fs, e, ha, hm, p1⟩ => by
    subst e
    cases r1
    obtain ⟨vs, hv, hr⟩ := c1 a _ ha
    exact ⟨a, dx, vs, rfl, hv, look_none hr hm, p1 σ H1 (s.mono (f1.tx c)) c1 _ fun ds μ2 us H2 f2 c2 r2 p =>
      ⟨.ref a :: ds, μ2, Φ, _, .cons (.ref a) r2, c2, p, fun d μ' v H' f c' r q => k d μ' v H' ((f1.trans f2).trans f) c' r q, fun x dx μ' cls H' e f c' q => kx x dx μ' cls H' e ((f1.trans f2).trans f) c' q⟩⟩
/-- C(..) with no __init__ of its own -/
theorem s_raise0 {C : Addr} {x : Str} (hc : N.cn x = some (.ref C)) (h : N.xs x none τ μ) : AS K (fun _ σ H => (fun (_ : L2.St) (H : Hp) (Q : XK) => Q (.ref C) none H) σ H fun cls d H' => N.W cls d σ H') τ μ N := fun σ H s c E k =>
  k.wx x none τ μ (.ref C) σ H hc Fr.refl c s h
theorem s_raise1 {C : Addr} {x f : Str} {ta : TA} (hc : N.cn x = some (.ref C)) (h : AA K ta τ μ fun ds μ' => ∃ d, ds = [d] ∧ ∀ dx, μ' dx = none → N.xs x (some dx) τ (μ'.set dx (.xd [(f, d)]))) :
    AS K (fun _ σ H => XO.tMk1 C f ta σ H fun cls d H' => N.W cls d σ H') τ μ N := fun σ H s c E k =>
  h σ H s c _ fun ds μ1 vs H1 f1 c1 r1 ⟨d, e, q⟩ => by
    subst e
    cases r1 with
    | cons r rn =>
      rename_i v0 _
      cases rn
      refine ⟨_, rfl, fun dx hn => ?_⟩
      have n := c1.free hn
      have cc : Con K (upd H1 dx (.xd [(f, v0)])) (μ1.set dx (.xd [(f, d)])) := con_put hn c1 ⟨_, upd_same, .cons ⟨rfl, Rel.mono (tx_new hn) _ _ r⟩ .nil⟩
      have ff : Fr μ (μ1.set dx (.xd [(f, d)])) H (upd H1 dx (.xd [(f, v0)])) := f1.trans (fr_put hn)
      exact k.wx x (some dx) τ _ (.ref C) σ _ hc ff cc (s.mono (ff.tx c)) (q dx n)
/-- err.f of the caught one at a -/
theorem a_xf {a : Addr} {cls : Value} {dx : Option Addr} {C : Addr} {f : Str} (ec : cls = .ref C) (h : AE K te τ μ fun o μ1 => o = .ref a ∧ ∃ b fs d, dx = some b ∧ μ1 b = some (.xd fs) ∧ fs.lookup f = some d ∧ Φ d μ1) : AE K (tXf a cls dx C f te) τ μ Φ := fun σ H s c Q k =>
  h σ H s c _ fun o μ1 v H1 f1 c1 r1 ⟨e, b, fs, d, eb, hb, hl, q⟩ => by
    subst e
    cases r1
    obtain ⟨vs, hv, hr⟩ := c1 b _ hb
    obtain ⟨w, hw, rw'⟩ := look_rel hr hl
    exact ⟨rfl, ec, b, vs, w, eb, hv, hw, k d μ1 w H1 f1 c1 rw' q⟩
/-- what the clause makes of an exception: caught, b, by this clause's suite, or let through -/
theorem s_tryAs (cn : Str → Option Value) {tb : WX → TS} {tu : Addr → Value → Option Addr → TS} {c : Value} {i : Nat} (hit : Str → Bool) (hm : ∀ x cls, cn x = some cls → PySem.W.exmOne K cls c = some (hit x))
    (hb : ∀ W, AS K (tb W) τ μ { N with W := W, cn := cn, xs := fun x dx τ' μ' => (hit x = true ∧ ∀ a cls, cn x = some cls → AS K (tu a cls dx) (τ'.set i (some (.ref a))) μ'
      { nx := fun τ2 μ2 => N.nx (τ2.set i none) μ2, rt := N.rt, bk := fun τ2 μ2 => N.bk (τ2.set i none) μ2, ct := fun τ2 μ2 => N.ct (τ2.set i none) μ2 }) ∨ (hit x = false ∧ N.cn x = cn x ∧ N.xs x dx τ' μ') }) :
    AS K (fun D σ H => tb (wAs K c i tu N.W D) D σ H) τ μ N := fun σ H s cc E k => by
  refine hb (wAs K c i tu N.W E) σ H s cc E ⟨k.nx, k.rt, k.bk, k.ct, fun x dx τ' μ' cls σ' H' ec f c' s' q => ?_⟩
  refine ⟨hit x, hm x cls ec, fun hx a na => ?_, fun hx => ?_⟩
  · rcases q with ⟨_, q⟩ | ⟨z, _⟩
    · have unset : ∀ {τ2 : T} {σ2 : L2.St} {H2 : Hp}, Slots K H2 τ2 σ2 → Slots K H2 (τ2.set i none) (σ2.set i none) := fun {τ2 σ2 H2} s2 => by
        refine ⟨by rw [List.length_set, List.length_set]; exact s2.1, fun j d e => ?_⟩
        by_cases hj : i = j
        · subst hj
          by_cases hi : i < τ2.length
          · rw [List.getElem?_set_self hi] at e; cases e
          · rw [List.getElem?_eq_none (by rw [List.length_set]; omega)] at e; cases e
        · rw [List.getElem?_set_ne hj] at e ⊢
          exact s2.2 j d e
      exact q a cls ec (σ'.set i (some (.ref a))) H' (s'.set (.ref a) i) c' _ ⟨fun τ2 μ2 σ2 H2 f2 c2 s2 p => k.nx _ μ2 _ H2 (f.trans f2) c2 (unset s2) p, fun d μ2 v H2 f2 c2 r p => k.rt d μ2 v H2 (f.trans f2) c2 r p,
        fun τ2 μ2 σ2 H2 f2 c2 s2 p => k.bk _ μ2 _ H2 (f.trans f2) c2 (unset s2) p, fun τ2 μ2 σ2 H2 f2 c2 s2 p => k.ct _ μ2 _ H2 (f.trans f2) c2 (unset s2) p, fun _ _ _ _ _ _ _ z => by cases z⟩
    · rw [hx] at z; cases z
  · rcases q with ⟨z, _⟩ | ⟨_, q⟩
    · rw [hx] at z; cases z
    · exact k.wx x dx τ' μ' cls σ' H' (q.1.trans ec) f c' s' q.2
end
/-- a def that may let an exception out -/
structure DefX (P : Program) (w : World) (K : PySem.W.Frag) (mg : Str → Option Value) (base : Heap) (x : Str) (ps : List Str) (k : Nat) (sp : Sp) : Prop where
  ex : ∃ f fd, FnOk P w K mg base (L2.CX P w) k f fd ps sp ∧ mg x = some (.ref f) ∧ PySem.W.keepIn K (.ref f) = true ∧ Binds K fd ps []
/-- a method of the class at C -/
structure Mth (P : Program) (w : World) (K : PySem.W.Frag) (mg : Str → Option Value) (base : Heap) (C : Addr) (m : Str) (ps : List Str) (k : Nat) (sp : Sp) : Prop where
  ex : ∃ f fd, FnOk P w K mg base (L2.CX P w) k f fd ps sp ∧ Cls K C ∧ Meth K C m f ∧ Binds K fd ps []
theorem fn_lift {P : Program} {w : World} {K : PySem.W.Frag} {mg : Str → Option Value} {base : Heap} {k : Nat} {f : Addr} {fd : FuncData} {ps : List Str} {sp : Sp} (F : FnOk P w K mg base CX0 k f fd ps sp) : FnOk P w K mg base (L2.CX P w) k f fd ps sp :=
  ⟨F.len, fun A outer s H args us vs Q E hr e b r h => codeAny_mono (F.run A outer s H args us vs Q E hr e b r h) fun r s' q => by
    cases r with
    | error e => exact q.elim
    | ok fl =>
      cases fl with
      | ret u => exact q
      | next => exact q.elim
      | brk => exact q.elim
      | cont => exact q.elim⟩
section
variable {X : Cx} {k : Nat} {ps : List Str} {sp : Sp} {x m : Str} {C : Addr} {p pos apos : Pos} {o e : Expr} {es : List Expr} {to : TE} {t : TA} {W : WX}
/-- how a method's call is read -/
abbrev MCall (X : Cx) (o : Expr) (m : Str) (es : List Expr) (kws : List Keyword) (pos apos : Pos) (pl : Sem Bool) : Prop :=
  eval (.Call (.Attribute o m apos) es kws pos) X.env = (do let ov ← eval o X.env; standAt apos.atName; let (g, own) ← holding [ov] (getMethod ov m pl); callWith pos g own (backTo pos (starEach es X.env)) (backToKw pos (keywordEach kws X.env)))
theorem pe_mthN {pl : Sem Bool} (G : Mth X.prog X.w X.K X.mg X.base C m ps k sp) (hr : Room k X.A) (ho : PE X o to) (ha : PA X (e :: es) t)
    (hst : starEach (e :: es) X.env = (false, eval e X.env) :: starEach es X.env := by rfl) (hpl : (backTo pos (starEach es X.env)).any (·.1) = false := by rfl)
    (ht : MCall X o m (e :: es) [] pos apos pl := by rfl) :
    PE X (.Call (.Attribute o m apos) (e :: es) [] pos) (tMeth C m sp [] E0 to t) := by
  obtain ⟨f, fd, F, c, hm, hb⟩ := G.ex
  exact pe_meth ho c hm F hr hb .nil passL ha hst hpl ht
theorem pe_mthN0 {pl : Sem Bool} (G : Mth X.prog X.w X.K X.mg X.base C m ps k sp) (hr : Room k X.A) (ho : PE X o to)
    (ht : MCall X o m [] [] pos apos pl := by rfl) :
    PE X (.Call (.Attribute o m apos) [] [] pos) (tMeth C m sp [] E0 to tNil) := by
  obtain ⟨f, fd, F, c, hm, hb⟩ := G.ex
  exact pe_meth0 ho c hm F hr hb .nil passL ht
theorem pe_mthX {pl : Sem Bool} (tk : Takes X W) (G : Mth X.prog X.w X.K X.mg X.base C m ps k sp) (hr : Room k X.A) (ho : PE X o to) (ha : PA X (e :: es) t)
    (hst : starEach (e :: es) X.env = (false, eval e X.env) :: starEach es X.env := by rfl) (hpl : (backTo pos (starEach es X.env)).any (·.1) = false := by rfl)
    (ht : MCall X o m (e :: es) [] pos apos pl := by rfl) :
    PE X (.Call (.Attribute o m apos) (e :: es) [] pos) (tMethX C m sp (WE W) to t) := by
  obtain ⟨f, fd, F, c, hm, hb⟩ := G.ex
  exact ⟨fun pins s σ H Q I h => PySem.W.methodCall_KW (pl := pl) (thn (ho.run pins s σ H _ I h) fun u s1 ⟨x, H1, I1, ru, a, _, _, ex, ea, l, q⟩ => by
    subst ex
    cases ru
    exact getmeth_ok I1 ea c hm l (PySem.W.callWith_K (first := [.ref a]) (h₀ := X.base) I.ok.mod.kin hm.kp (thn (ha.run pos pins s1 σ H1 _ I1 q) fun _ s2 ⟨_, H2, I2, r, q2⟩ => ⟨I2.kIn, run_fnS (vs := .ref a :: _) (us := .ref a :: _) F hr hb (passAt tk σ) I2 (.cons rfl r) q2⟩) hst hpl)) ht⟩
end
end Z
namespace Z
open PySem L2
def kD : Key → D
  | .inl i => .int i
  | .inr s => .str s
abbrev kT (k : List Key) : D := .tup (k.map kD)
section
variable {κ : Type} [DecidableEq κ]
def valD (kvs : List (κ × D)) (k : κ) : Option D := (kvs.find? fun kv => decide (kv.1 = k)).map (·.2)
def putKD (kvs : List (κ × D)) (k : κ) (v : D) : List (κ × D) := if (valD kvs k).isSome = true then kvs.map fun kv => if kv.1 = k then (kv.1, v) else kv else kvs ++ [(k, v)]
theorem valD_cons {p : κ × D} {r : List (κ × D)} {k : κ} : valD (p :: r) k = if p.1 = k then some p.2 else valD r k := by
  unfold valD
  by_cases h : p.1 = k
  · rw [if_pos h]; simp [List.find?_cons, h]
  · rw [if_neg h]; simp [List.find?_cons, h]
theorem putKD_new {r : List (κ × D)} {k : κ} {v : D} (h : valD r k = none) : putKD r k v = r ++ [(k, v)] := by
  unfold putKD; rw [h]; rfl
variable {K : PySem.W.Frag} {H : Hp}
theorem kv_val {vs : List (κ × V)} {kvs : List (κ × D)} (r : RelKV K H vs kvs) (k : κ) : (valV vs k = none ∧ valD kvs k = none) ∨ ∃ v d, valV vs k = some v ∧ valD kvs k = some d ∧ Rel K H v d := by
  induction r with
  | nil => exact .inl ⟨rfl, rfl⟩
  | cons a _ ih =>
    rename_i p q ps qs _
    obtain ⟨e, r⟩ := a
    rw [valD_cons]
    by_cases h : p.1 = k
    · rw [valV_pos h, if_pos (e.symm.trans h)]
      exact .inr ⟨_, _, rfl, rfl, r⟩
    · rw [valV_neg h, if_neg (fun z => h (e.trans z))]
      exact ih
theorem kv_isSome {vs : List (κ × V)} {kvs : List (κ × D)} (r : RelKV K H vs kvs) (k : κ) : (valV vs k).isSome = (valD kvs k).isSome := by
  rcases kv_val r k with ⟨a, b⟩ | ⟨v, d, a, b, _⟩ <;> rw [a, b] <;> rfl
theorem kv_len {vs : List (κ × V)} {kvs : List (κ × D)} (r : RelKV K H vs kvs) : vs.length = kvs.length := Paired.length r
theorem kv_app {vs ws : List (κ × V)} {kvs lws : List (κ × D)} (r : RelKV K H vs kvs) (r2 : RelKV K H ws lws) : RelKV K H (vs ++ ws) (kvs ++ lws) := by
  induction r with
  | nil => exact r2
  | cons a _ ih => exact .cons a ih
theorem kv_get : ∀ {vs : List (κ × V)} {kvs : List (κ × D)} {i : Nat} {k : κ} {v : V}, RelKV K H vs kvs → vs[i]? = some (k, v) → ∃ d, kvs[i]? = some (k, d)
  | [], [], i, k, v, .nil, z => by simp at z
  | p :: vs, q :: kvs, 0, k, v, .cons a b, z => by
    obtain ⟨e1, _⟩ := a
    simp at z
    subst z
    exact ⟨q.2, by simp [show k = q.1 from e1]⟩
  | p :: vs, q :: kvs, i + 1, k, v, .cons a b, z => by
    obtain ⟨d, hd⟩ := kv_get (i := i) b (by simpa using z)
    exact ⟨d, by simpa using hd⟩
theorem kv_map (k : κ) {v : V} {d : D} (rv : Rel K H v d) : ∀ {vs : List (κ × V)} {kvs : List (κ × D)}, RelKV K H vs kvs → RelKV K H (vs.map fun kv => if kv.1 = k then (kv.1, v) else kv) (kvs.map fun kv => if kv.1 = k then (kv.1, d) else kv)
  | [], [], .nil => .nil
  | (g, x) :: vs, (g', y) :: kvs, .cons a b => by
    obtain ⟨e, r⟩ := a
    have e : g = g' := e
    subst e
    rw [List.map_cons, List.map_cons]
    refine .cons ?_ (kv_map k rv b)
    dsimp only
    by_cases h : g = k
    · rw [if_pos h, if_pos h]; exact ⟨rfl, rv⟩
    · rw [if_neg h, if_neg h]; exact ⟨rfl, r⟩
theorem kv_put {vs : List (κ × V)} {kvs : List (κ × D)} (r : RelKV K H vs kvs) (k : κ) {v : V} {d : D} (rv : Rel K H v d) : RelKV K H (putK vs k v) (putKD kvs k d) := by
  have hs := kv_isSome r k
  unfold putK putKD
  rw [valV_any, hs]
  split
  · exact kv_map k rv r
  · exact kv_app r (.cons ⟨rfl, rv⟩ .nil)
end
section
variable {K : PySem.W.Frag} {τ : T} {μ μ1 μ2 : M} {H H1 H2 : Hp} {σ : L2.St} {Φ Ψ : D → M → Prop} {ta tb td te tv ty : TE} {tt : TT} {x y z d e : D} {N : AEnds} {ts us : TS}
theorem rel_key {v : V} {k : Key} (r : Rel K H v (kD k)) : v = kV k := by
  cases k with
  | inl i => cases r; rfl
  | inr s => cases r; rfl
theorem rel_kV (k : Key) : Rel K H (kV k) (kD k) := by
  cases k with
  | inl i => exact .int i
  | inr s => exact .str s
theorem rels_keys : ∀ {k : List Key} {vs : List V}, Rels K H vs (k.map kD) → vs = k.map kV
  | [], _, .nil => rfl
  | k :: ks, _, .cons a b => by rw [List.map_cons, rel_key a, rels_keys b]
theorem rels_kV : ∀ (k : List Key), Rels K H (k.map kV) (k.map kD)
  | [] => .nil
  | k :: ks => .cons (rel_kV k) (rels_kV ks)
theorem rel_kT {v : V} {k : List Key} (r : Rel K H v (kT k)) : ∃ b, v = .ref b ∧ H b = some (.tup (k.map kV)) := by
  cases r with
  | tup h hr =>
    cases h with
    | inl h => exact ⟨_, rfl, by rw [h, rels_keys hr]⟩
/-- {} -/
theorem a_dnewT (h : ∀ p, μ p = none → Φ (.ref p) (μ.set p (.dT []))) : AE K tDNewT τ μ Φ := fun σ H s c Q k p hp =>
  k _ _ _ _ (fr_put hp) (con_put (m := .dT []) hp c ⟨[], upd_same, .nil⟩) (.ref p) (h p (c.free hp))
theorem a_dnewK (h : ∀ p, μ p = none → Φ (.ref p) (μ.set p (.dK []))) : AE K tDNewK τ μ Φ := fun σ H s c Q k p hp =>
  k _ _ _ _ (fr_put hp) (con_put (m := .dK []) hp c ⟨[], upd_same, .nil⟩) (.ref p) (h p (c.free hp))
/-- what the dict at a holds at the key y, by the store -/
def Dg (μ : M) (a : Addr) (y : D) (o : Option D) : Prop :=
  (∃ kvs k, μ a = some (.dK kvs) ∧ y = kD k ∧ o = valD kvs k) ∨ (∃ kvs k, μ a = some (.dT kvs) ∧ y = kT k ∧ o = valD kvs k) ∨ ∃ od us kvs k, μ a = some (.fT od us kvs) ∧ y = kT k ∧ o = valD kvs k
theorem dg_ok {v : V} {a : Addr} {o : Option D} (c : Con K H μ) (g : Dg μ a y o) (r : Rel K H v y) : ∃ p, DGet H a v p ∧ p.isSome = o.isSome ∧ ∀ d, o = some d → ∃ u, p = some u ∧ Rel K H u d := by
  have fin : ∀ {κ : Type} [DecidableEq κ] {vs : List (κ × V)} {kvs : List (κ × D)} (k : κ), RelKV K H vs kvs → o = valD kvs k → (valV vs k).isSome = o.isSome ∧ ∀ d, o = some d → ∃ u, valV vs k = some u ∧ Rel K H u d := by
    intro κ _ vs kvs k rr e
    subst e
    refine ⟨kv_isSome rr k, fun d e => ?_⟩
    rcases kv_val rr k with ⟨_, b⟩ | ⟨v', d', a', b, r'⟩
    · rw [b] at e; cases e
    · rw [b] at e; cases e; exact ⟨v', a', r'⟩
  rcases g with ⟨kvs, k, ha, ey, eo⟩ | ⟨kvs, k, ha, ey, eo⟩ | ⟨od, us, kvs, k, ha, ey, eo⟩
  · subst ey
    obtain ⟨vs, hv, hr⟩ := c a _ ha
    rw [rel_key r]
    exact ⟨_, .inl ⟨vs, k, .inl hv, rfl, rfl⟩, fin k hr eo⟩
  · subst ey
    obtain ⟨vs, hv, hr⟩ := c a _ ha
    obtain ⟨b, e, hb⟩ := rel_kT r
    subst e
    exact ⟨_, .inr ⟨vs, k, b, .inl hv, rfl, hb, rfl⟩, fin k hr eo⟩
  · subst ey
    obtain ⟨vs, hv, hr, _⟩ := c a _ ha
    obtain ⟨b, e, hb⟩ := rel_kT r
    subst e
    exact ⟨_, .inr ⟨vs, k, b, .inr ⟨od, hv⟩, rfl, hb, rfl⟩, fin k hr eo⟩
/-- d[y] -/
theorem a_dget (h : AE K td τ μ fun o μ1 => AE K ty τ μ1 fun y μ2 => ∃ a d, o = .ref a ∧ Dg μ2 a y (some d) ∧ Φ d μ2) : AE K (tDGet td ty) τ μ Φ := fun σ H s c Q k =>
  h σ H s c _ fun o μ1 v H1 f1 c1 r1 p1 => p1 σ H1 (s.mono (f1.tx c)) c1 _ fun y μ2 w H2 f2 c2 r2 ⟨a, d, e, g, q⟩ => by
    subst e
    cases r1
    obtain ⟨p, g', _, hp⟩ := dg_ok c2 g r2
    obtain ⟨u, eu, ru⟩ := hp d rfl
    subst eu
    exact ⟨a, u, rfl, g', k d μ2 u H2 (f1.trans f2) c2 ru q⟩
/-- y in d -/
theorem a_din (h : AE K ty τ μ fun y μ1 => AE K td τ μ1 fun o μ2 => ∃ a p, o = .ref a ∧ Dg μ2 a y p ∧ Φ (.bl p.isSome) μ2) : AE K (tDIn ty td) τ μ Φ := fun σ H s c Q k =>
  h σ H s c _ fun y μ1 w H1 f1 c1 r1 p1 => p1 σ H1 (s.mono (f1.tx c)) c1 _ fun o μ2 v H2 f2 c2 r2 ⟨a, p, e, g, q⟩ => by
    subst e
    cases r2
    obtain ⟨p', g', hs, _⟩ := dg_ok c2 g (Rel.mono (f2.tx c1) _ _ r1)
    refine ⟨a, p', rfl, g', ?_⟩
    rw [hs]
    exact k _ μ2 _ H2 (f1.trans f2) c2 (.bl _) q
theorem a_dnotin (h : AE K ty τ μ fun y μ1 => AE K td τ μ1 fun o μ2 => ∃ a p, o = .ref a ∧ Dg μ2 a y p ∧ Φ (.bl (!p.isSome)) μ2) : AE K (tDNotIn ty td) τ μ Φ := fun σ H s c Q k =>
  h σ H s c _ fun y μ1 w H1 f1 c1 r1 p1 => p1 σ H1 (s.mono (f1.tx c)) c1 _ fun o μ2 v H2 f2 c2 r2 ⟨a, p, e, g, q⟩ => by
    subst e
    cases r2
    obtain ⟨p', g', hs, _⟩ := dg_ok c2 g (Rel.mono (f2.tx c1) _ _ r1)
    refine ⟨a, p', rfl, g', ?_⟩
    rw [hs]
    exact k _ μ2 _ H2 (f1.trans f2) c2 (.bl _) q
/-- d[y] = v -/
theorem s_dput (h : AE K tv τ μ fun v μ1 => AE K td τ μ1 fun o μ2 => AE K ty τ μ2 fun y μ3 => ∃ a, o = .ref a ∧
      ((∃ kvs k, μ3 a = some (.dT kvs) ∧ y = kT k ∧ kvs.length < sizeLine ∧ N.nx τ (μ3.set a (.dT (putKD kvs k v)))) ∨ ∃ kvs k, μ3 a = some (.dK kvs) ∧ y = kD k ∧ kvs.length < sizeLine ∧ N.nx τ (μ3.set a (.dK (putKD kvs k v))))) :
    AS K (sDPut td ty tv) τ μ N := fun σ H s c E k =>
  h σ H s c _ fun v μ1 w H1 f1 c1 r1 p1 => p1 σ H1 (s.mono (f1.tx c)) c1 _ fun o μ2 u H2 f2 c2 r2 p2 => p2 σ H2 (s.mono ((f1.trans f2).tx c)) c2 _ fun y μ3 x H3 f3 c3 r3 ⟨a, e, q⟩ => by
    subst e
    cases r2
    have fa := (f1.trans f2).trans f3
    have rw' : Rel K H3 w v := Rel.mono ((f2.trans f3).tx c1) _ _ r1
    rcases q with ⟨kvs, kk, ha, ey, hl, q⟩ | ⟨kvs, kk, ha, ey, hl, q⟩
    · subst ey
      obtain ⟨vs, hv, hr⟩ := c3 a _ ha
      obtain ⟨b, eb, hb⟩ := rel_kT r3
      subst eb
      have fr := fr_mut (H := H3) (o := .dT (putK vs kk w)) (m' := .dT (putKD kvs kk v)) ha
      have tx := tx_mut (o := .dT (putK vs kk w)) c3 ha
      exact ⟨a, _, rfl, .inr ⟨vs, kk, b, hv, rfl, hb, by rw [kv_len hr]; exact hl, rfl⟩, k.nx τ _ σ _ (fa.trans fr) (con_mut c3 ha ⟨_, upd_same, kv_put (RelKV.mono tx hr) kk (Rel.mono tx _ _ rw')⟩) (s.mono ((fa.trans fr).tx c)) q⟩
    · subst ey
      obtain ⟨vs, hv, hr⟩ := c3 a _ ha
      have ek := rel_key r3
      subst ek
      have fr := fr_mut (H := H3) (o := .dK (putK vs kk w)) (m' := .dK (putKD kvs kk v)) ha
      have tx := tx_mut (o := .dK (putK vs kk w)) c3 ha
      exact ⟨a, _, rfl, .inl ⟨vs, kk, hv, rfl, by rw [kv_len hr]; exact hl, rfl⟩, k.nx τ _ σ _ (fa.trans fr) (con_mut c3 ha ⟨_, upd_same, kv_put (RelKV.mono tx hr) kk (Rel.mono tx _ _ rw')⟩) (s.mono ((fa.trans fr).tx c)) q⟩
/-- the dict at p is read, not written, meanwhile -/
theorem a_lockT {p : Addr} {kvs : List (List Key × D)} (hp : μ p = some (.dT kvs)) (h : ∀ od us, AE K te τ (μ.set p (.fT od us kvs)) fun x μ' => μ' p = some (.fT od us kvs) ∧ Φ x (μ'.set p (.dT kvs))) : AE K (tLockE te) τ μ Φ := fun σ H s c Q k => by
  obtain ⟨us, hv, hr⟩ := c p _ hp
  refine ⟨p, .dT us, hv, trivial, fun od => ?_⟩
  have tx := tx_mut (o := .frz od (.dT us)) c hp
  have fr := fr_mut (H := H) (o := .frz od (.dT us)) (m' := .fT od us kvs) hp
  refine h od us σ _ (s.mono tx) (con_mut c hp ⟨us, upd_same, RelKV.mono tx hr, rfl⟩) _ fun x μ' v H' f c' r ⟨hm, q⟩ => ?_
  obtain ⟨ws, hw, hr2, e⟩ := c' p _ hm
  subst e
  have tx2 := tx_mut (o := .dT ws) c' hm
  have fr2 := fr_mut (H := H') (o := .dT ws) (m' := .dT kvs) hm
  exact ⟨hw, k x _ v _ ((fr.trans f).trans fr2) (con_mut c' hm ⟨ws, upd_same, RelKV.mono tx2 hr2⟩) (Rel.mono tx2 _ _ r) q⟩
/-- a comprehension over the keys of a dict that is read -/
theorem a_lcK {g : TG} {js : List Nat} {dec : D → List D → Prop} (hg : TgOk K g js dec)
    (h : AE K td τ μ fun o μ1 => ∃ a od us kvs, o = .ref a ∧ μ1 a = some (.fT od us kvs) ∧ ∃ P : Nat → List D → M → Prop, P 0 [] μ1 ∧ (∀ i acc μ', P i acc μ' → μ' a = some (.fT od us kvs)) ∧
      (∀ (i : Nat) p acc μ', kvs[i]? = some p → P i acc μ' → LcTurn K τ tt te js dec (kT p.1) acc μ' (P (i + 1))) ∧ ∀ acc μ', P kvs.length acc μ' → ∀ p, μ' p = none → Φ (.ref p) (μ'.set p (.lst acc))) :
    AE K (tLc (iKeys td) g tt te js) τ μ Φ := fun σ H s c Q k => h σ H s c _ fun o μ1 v H1 f1 c1 r1 ⟨a, od, us, kvs, e, ha, P, p0, hin, hs, hd⟩ => by
  subst e
  cases r1
  obtain ⟨ws, hw, hr, e⟩ := c1 a _ ha
  subst e
  refine ⟨a, od, rfl, .inr ⟨ws, hw, fun Dl hD => ?_⟩⟩
  have s1 := s.mono (f1.tx c)
  refine ⟨fun i m H' => m = kvs.length - i ∧ i ≤ kvs.length ∧ ∃ acc μ', LcAt K Dl μ1 H1 acc μ' H' ∧ P i acc μ', ⟨kvs.length, by omega, Nat.zero_le _, [], μ1, lc_start c1 hD, p0⟩, ?_⟩
  rintro i m H' ⟨rfl, hi, acc, μ', L, p⟩
  obtain ⟨ws', hw', hr', e⟩ := L.con a _ (hin i acc μ' p)
  subst e
  by_cases hlt : i < kvs.length
  · refine .inr ⟨⟨hw', by rw [kv_len hr']; exact hlt⟩, fun H2 => ∃ acc2 μ2, LcAt K Dl μ1 H1 acc2 μ2 H2 ∧ P (i + 1) acc2 μ2, fun H2 ⟨acc2, μ2, L2, p2⟩ => ⟨kvs.length - (i + 1), by omega, rfl, hlt, acc2, μ2, L2, p2⟩, fun v H2 y => ?_⟩
    obtain ⟨eH, kk, vv, q, hk, ev, hq⟩ := y
    subst eH ev
    have hkv : ∃ d, kvs[i]? = some (kk, d) := kv_get hr' hk
    obtain ⟨d, hkd⟩ := hkv
    exact lc_step hD hg s1 c1 L (.tup (.inl hq) (rels_kV kk)) (hs i _ acc μ' hkd p) fun acc2 μ2 H3 L3 p3 => ⟨acc2, μ2, L3, p3⟩
  · have e : i = kvs.length := by omega
    subst e
    obtain ⟨f2, c2⟩ := lc_end hD L
    exact .inl ⟨⟨hw', by rw [kv_len hr']; exact hi⟩, k _ _ _ H' (f1.trans f2) c2 (.ref Dl) (hd acc μ' p Dl L.no)⟩
end
end Z
namespace ST
open PySem PySem.Spec PyProof.Rows L2 PpSet
section
variable {X : Cx} {pins : List (Addr × Obj)} {σ : L2.St} {H : Hp} {s : Shared} {E : Value → Shared → Prop}
/-- set.add of a tuple of ints -/
theorem add_tup {Dl b : Addr} {L : List (Addr × List Int)} {k : List Int} {Q : Value → Shared → Prop} (hu : X.A.units + 1 < cLine) (I : Inv X pins σ H s) (hD : H Dl = some (SetTO X.prog X.w Dl L)) (hb : H b = some (.tup (k.map V.int)))
    (hL : ∀ p ∈ L, H p.1 = some (.tup (p.2.map V.int))) (few : L.length + 1 < 64)
    (fin : ∀ L2 s2, (k ∈ L.map (·.2) → L2 = L) → (k ∉ L.map (·.2) → L2.Perm ((b, k) :: L)) → Inv X pins σ (upd H Dl (SetTO X.prog X.w Dl L2)) s2 → Q .none s2) :
    wpAny (model X.prog X.w) X.A (call (.builtin "set.add") [.ref Dl, .ref b]) Q E s := by
  have tup : ∀ {c : Addr} {l : List Int}, H c = some (.tup (l.map V.int)) → IsT X.prog X.w s.heap l c := fun h => I.isT (.inl (.inl h))
  have sT : SetT0 X.prog X.w s.heap Dl L := (I.hok Dl _ hD).1
  obtain ⟨es, ep, t, R⟩ := sT.full fun p hp => tup (hL p hp)
  obtain ⟨o, ho, hex, hd⟩ := R.ob
  have isSet : s.TypeIs (.ref Dl) "set" := ⟨o, ho, hex.1⟩
  refine wpAny_call_entry F.slot_set_add isSet F.entry_set_add ?_ (F.args_set_add_2 _ _)
  have hash := fun Q => wpAny_pyHash_tuple (prog := X.prog) (w := X.w) (A := X.A.in1) (E := E) (Q := Q) (show X.A.units + 1 < cLine from hu) (tup hb)
  simp only [Builtin.«set.add», Builtin.Frozenset.oneOther, Builtin.Frozenset.addrOf, setAdd, List.isEmpty_nil, bind_assoc]
  refine wpAny_bind (wpAny_pure (wpAny_bind (wpAny_pure (wpAny_bind (wpAny_holding (wpAny_bind (hash _ ?_)))))))
  refine add_at (s := { s with toks := s.toks + (k.length + 1) }) R (tup hb) (by show X.A.units + 1 < cLine; exact hu) few fun _ h2 L2 es2 ep2 t2 sb R2 c1 c2 => ?_
  obtain ⟨o2, ho2, _⟩ := R2.ob
  show wpAny _ _ (ret Value.none) _ _ _
  exact wpAny_pure ⟨_, rfl, fin L2 _ c1 c2 (I.write (e := Dl) (t' := s.toks + (k.length + 1)) (by rw [hD]; trivial) (.inl rfl) (fun c u hc hu => (sb.2 c hc).trans hu) ⟨o2, ho2⟩ (setTO_new R2.t0))⟩
/-- {elt for target in iter if ..}, elt a tuple of ints: Dl the new set -/
def tScT (P : Program) (w : World) (wi : TI) (g : TG) (tt : TT) (te : TE) (vs : List Nat) : TE := fun σ H Q => wi σ H fun J H1 => ∀ Dl, H1 Dl = none → ∃ W : Nat → Nat → Hp → Prop, (∃ m, W 0 m (upd H1 Dl (SetTO P w Dl []))) ∧ ∀ i m H, W i m H →
  (J.stop i H ∧ Q (.ref Dl) H) ∨ (J.go i H ∧ ∃ Nx : Hp → Prop, (∀ H', Nx H' → ∃ m', m' < m ∧ W (i + 1) m' H') ∧ ∀ x H', J.yld i H x H' → g x (wipe σ vs) H' fun σ2 H2 => wipe σ2 vs = wipe σ vs ∧ tt σ2 H2 fun b H3 =>
    if b = true then te σ2 H3 fun y H4 => ∃ (c : Addr) (k : List Int) (L : List (Addr × List Int)), y = .ref c ∧ H4 c = some (.tup (k.map V.int)) ∧ H4 Dl = some (SetTO P w Dl L) ∧ (∀ p ∈ L, H4 p.1 = some (.tup (p.2.map V.int))) ∧ L.length + 1 < 64 ∧
      ∀ L2, (k ∈ L.map (·.2) → L2 = L) → (k ∉ L.map (·.2) → L2.Perm ((c, k) :: L)) → Nx (upd H4 Dl (SetTO P w Dl L2)) else Nx H3)
theorem fresh_set {P : Program} {w : World} {H : Hp} {h : Heap} : ObjOk P w H (h.push { cls := .type "set", dict := none, data := .set #[] 0 (.fresh 0 0 (!w.params.followText "set-order")) }) h.objs.size (SetTO P w h.objs.size []) :=
  setTO_new (SetTR.t0 (setTR_fresh (P := P) (w := w) (Heap.get?_push_size _ rfl)))
theorem pe_scT {elt tg iter : Expr} {ifs : List Expr} {scope : Scope} {own : List (PySem.Str × Nat)} {pos : Pos} {wi : TI} {g : TG} {tt : TT} {te : TE} (hu : X.A.units + 1 < cLine) (hc : X.calm = true) (hN : X.N.Nodup) (hi : PI X tg iter wi) (ok : BlkOk X.N X.env.scope scope own)
    (hg : ∀ (s : Shared) (H : Hp) (C : Addr) (cl : List (PySem.Str × Addr)) (fp : List Addr), PG (X.blk s H scope (compEnvC scope cl C X.env) fp) tg g)
    (ht : ∀ (s : Shared) (H : Hp) (C : Addr) (cl : List (PySem.Str × Addr)) (fp : List Addr), PTs (X.blk s H scope (compEnvC scope cl C X.env) fp) ifs tt)
    (he : ∀ (s : Shared) (H : Hp) (C : Addr) (cl : List (PySem.Str × Addr)) (fp : List Addr), PE (X.blk s H scope (compEnvC scope cl C X.env) fp) elt te)
    (hs : ∀ x, foldedSetIterable iter X.env x = pure x := by intro _; rfl) :
    PE X (.SetComp elt [⟨tg, iter, ifs, 0⟩] scope pos) (tScT X.prog X.w wi g tt te (own.map (·.2))) := by
  refine ⟨fun pins s0 σ H0 Q I0 ask => ?_⟩
  rw [eval_SetComp]
  have cells : ∀ y ∈ scope.names, y.2 = .free → ∃ c, X.env.cells.lookup y.1 = some c := fun y hy e => I0.ok.has _ (ok.free y hy e)
  refine wpAny_comprehension_free (use := none) rfl hs (closure_ok cells) ok.kind (fun y hy e => by rw [ok.uniq y hy, e]) (thn (hi.run pins s0 σ H0 _ I0 ask) fun xv s1 hx => thn hx fun itv s2 got => ?_)
  obtain ⟨it, fp, tn, J, HI, eit, I2, T, st2, f2, q⟩ := got
  subst eit
  refine newSet_ok (newEnv_comp ?_)
  -- the new set
  obtain ⟨Dl, eD⟩ : ∃ d, d = s2.heap.objs.size := ⟨_, rfl⟩
  rw [← eD]
  obtain ⟨s3, e3⟩ : ∃ z : Shared, z = { s2 with heap := s2.heap.push { cls := .type "set", dict := none, data := .set #[] 0 (.fresh 0 0 (!X.w.params.followText "set-order")) } } := ⟨_, rfl⟩
  rw [← e3]
  have no : HI Dl = none := I2.hok.fresh (Nat.le_of_eq eD.symm)
  obtain ⟨H3, eH⟩ : ∃ z, z = upd HI Dl (SetTO X.prog X.w Dl []) := ⟨_, rfl⟩
  obtain ⟨W, ⟨m0, w0⟩, turn⟩ := q Dl no
  rw [← eH] at w0
  have I3 : Inv X pins σ H3 s3 := by
    subst e3 eH eD
    exact I2.laid (t' := s2.toks) (fun b o e => Heap.get?_push_of_some _ e) (Nat.le_refl _) fresh_set
  have old3 : ∀ b o, s2.heap.get? b = some o → s3.heap.get? b = some o := fun b o e => by subst e3; exact Heap.get?_push_of_some _ e
  have f3 : ∀ b ∈ fp, FpOk X pins H3 b ∧ b < s3.heap.objs.size := fun b hb => by
    obtain ⟨o, ob, _⟩ := T.obj _ _ st2 b hb
    refine ⟨⟨?_, (f2 b hb).2⟩, Heap.lt_size (old3 b o ob)⟩
    rw [eH, upd_ne (by rw [eD]; exact Nat.ne_of_lt (Heap.lt_size ob))]
    exact (f2 b hb).1
  have st3 := T.keep _ _ s3.heap st2 fun b _ o e => old3 b o e
  have I4 := block_start I3 ok hN f3
  have pg := hg s3 H3 s3.heap.objs.size (cellsFrom (s3.heap.objs.size + 1) scope.names (cloFrom X.env.cells scope.names [])) fp
  have pt := ht s3 H3 s3.heap.objs.size (cellsFrom (s3.heap.objs.size + 1) scope.names (cloFrom X.env.cells scope.names [])) fp
  have pe := he s3 H3 s3.heap.objs.size (cellsFrom (s3.heap.objs.size + 1) scope.names (cloFrom X.env.cells scope.names [])) fp
  have Cl : (compEnvC scope (cellsFrom (s3.heap.objs.size + 1) scope.names (cloFrom X.env.cells scope.names [])) s3.heap.objs.size X.env).locals = s3.heap.objs.size := rfl
  show codeAny _ _ (.compStart _ 0 (.ref it) (.ref Dl) (compEnvC scope (cellsFrom (s3.heap.objs.size + 1) scope.names (cloFrom X.env.cells scope.names [])) s3.heap.objs.size X.env)) _ { s3 with heap := pushCells (s3.heap.push { cls := .type "dict", data := .dict #[] }) scope.names }
  generalize compEnvC scope (cellsFrom (s3.heap.objs.size + 1) scope.names (cloFrom X.env.cells scope.names [])) s3.heap.objs.size X.env = ce at I4 pg pt pe Cl ⊢
  obtain ⟨s4, e4⟩ : ∃ z : Shared, z = { s3 with heap := pushCells (s3.heap.push { cls := .type "dict", data := .dict #[] }) scope.names } := ⟨_, rfl⟩
  rw [← e4] at I4 ⊢
  have st4 := T.keep _ _ s4.heap st3 fun b _ o e => by rw [e4]; exact pushCells_keeps _ _ _ _ (Heap.get?_push_of_some _ e)
  have stay : ∀ {σ' : L2.St} {H' : Hp} {s' : Shared}, Inv (X.blk s3 H3 scope ce fp) [] σ' H' s' → (∀ b ∈ fp, H' b = none) → ∀ b ∈ fp, FpOk (X.blk s3 H3 scope ce fp) [] H' b := fun {σ' H' s'} I' hn b hb =>
    ⟨hn b hb, (I'.ok.exf b hb).1, I'.ok.exfs b hb, .inl hb, fun x c e => (I'.ok.exf b hb).2 x c e, fun p hp => nomatch (show p ∈ ([] : List (Addr × Obj)) from hp)⟩
  let Lp : Nat → Shared → Prop := fun n s' => ∃ i H', Inv (X.blk s3 H3 scope ce fp) [] (wipe σ (own.map (·.2))) H' s' ∧ tn i s'.heap ∧ (∀ b ∈ fp, H' b = none) ∧ W i n H'
  refine (fun loop => codeAny_compStart_set loop (T.self X.A 0 s4 _ _ st4 loop)) (compLoopS_any Lp (fun n s5 lp => ?_) m0 ⟨0, H3, I4, st4, fun b hb => (f3 b hb).1.1, w0⟩)
  obtain ⟨i, H5, I5, st5, n5, w5⟩ := lp
  rcases turn i n H5 w5 with ⟨stop, qq⟩ | ⟨go, Nx, hNx, step⟩
  · -- the end: back in the def
    refine thnF (T.done (X.blk s3 H3 scope ce fp) rfl rfl rfl hc i [] s5 _ H5 (fun _ _ => False) I5 (stay I5 n5) st5 stop) fun r s6 ⟨er, I6⟩ => ?_
    subst er
    have I7 : Inv X pins σ H5 s6 := I3.call' (ch := fp) I6.os I6.base I6.hok I6.bare fun b hb => ⟨(f3 b hb).1.2.2.2.1, (f3 b hb).1.2.1, (f3 b hb).1.2.2.2.2.1, (f3 b hb).1.2.2.2.2.2⟩
    have freeC : H5 s3.heap.objs.size = none := by rw [← Cl]; exact I6.free
    obtain ⟨m, hn, _⟩ := I6.loc
    have hn : s6.heap.Ns s3.heap.objs.size m := by rw [← Cl]; exact hn
    obtain ⟨g0, g1, g2, g3, g4, g5⟩ := I3.fpOk (Nat.le_refl _) freeC
    exact ⟨m, hn, fun h2 sb => ⟨.ref Dl, H5, I7.turned (t' := s6.toks) (fun b o hb e => (sb.2 b hb).trans e) g0 g1 g3 g4 g5, rfl, qq⟩⟩
  · refine thnF (T.item (X.blk s3 H3 scope ce fp) rfl rfl rfl hc i [] s5 _ H5 (fun _ _ => False) I5 (stay I5 n5) st5 go) fun r s6 ⟨u, er, h6⟩ => ?_
    subst er
    refine thnF h6 fun _ s7 ⟨x, H7, I7, r7, y7, st7, n7⟩ => ?_
    refine thnF (pg.run _ s7 _ H7 x u _ (I7.pinned (stay I7 n7) (T.obj _ _ st7)) r7 (step x H7 y7)) fun _ s8 ⟨σ8, H8, I8, w8, q8⟩ => ?_
    refine thnF (pt.run _ s8 σ8 H8 _ I8 q8) fun b s9 ⟨H9, I9, q9⟩ => ?_
    have next : ∀ {s' : Shared} {H' : Hp}, Inv (X.blk s3 H3 scope ce fp) ([] ++ pinsAt fp s7.heap) σ8 H' s' → Nx H' → ∃ m, m < n ∧ Lp m s' := fun {s' H'} I' nx => by
      obtain ⟨m2, lt, w2⟩ := hNx H' nx
      have there : ∀ b ∈ fp, ∃ o, s7.heap.get? b = some o ∧ s'.heap.get? b = some o ∧ H' b = none := fun b hb => by
        obtain ⟨o, e, _⟩ := T.obj _ _ st7 b hb
        have z := I'.pin (b, o) (List.mem_append_right _ (List.mem_append_right _ (mem_pinsAt hb e)))
        exact ⟨o, e, z.1, z.2.1⟩
      refine ⟨m2, lt, i + 1, H', (I'.unpinned (pins := [])).weak (by rw [← w8, wipe_length]) (fun j v e => (wipe_some (by rw [← w8] at e; exact e)).1), T.keep _ _ _ st7 fun b hb o e => ?_, fun b hb => ?_, w2⟩
      · obtain ⟨o2, e2, e3', _⟩ := there b hb
        rw [e] at e2; cases e2; exact e3'
      · obtain ⟨_, _, _, z⟩ := there b hb
        exact z
    cases b with
    | false =>
      simp only [Bool.false_eq_true, if_false] at q9 ⊢
      exact next I9 q9
    | true =>
      simp only [if_true] at q9 ⊢
      refine thnF (pe.run _ s9 σ8 H9 _ I9 q9) fun z s10 ⟨yv, H10, I10, r10, c, k, L, ey, hcT, hDl, hL, few, nx⟩ => ?_
      subst ey
      cases (show z = Value.ref c from r10)
      exact add_tup (X := X.blk s3 H3 scope ce fp) hu I10 hDl hcT hL few fun L2 s11 c1 c2 I11 => next I11 (nx L2 c1 c2)
/-- len of it -/
def rLenST (P : Program) (w : World) : List V → Hp → VK → Prop := fun xs H Q => ∃ (a : Addr) (L : List (Addr × List Int)), xs = [.ref a] ∧ H a = some (SetTO P w a L) ∧ Q (.int L.length) H
theorem cr_lenST : CallR X (.builtin "len") (rLenST X.prog X.w) := by
  intro pins s σ H xs us Q I r h
  obtain ⟨a, L, e, ha, q⟩ := h
  subst e
  cases r with
  | @cons _ u _ ur r rn =>
    cases rn
    cases (show u = Value.ref a from r)
    have sT : SetT0 X.prog X.w s.heap a L := (I.hok a _ ha).1
    obtain ⟨es, ep, t, ⟨o, ho, hex, hd⟩, rows, tab, _, _, _, room, few⟩ := sT.ex
    have sz : es.size = L.length := by rw [← Array.length_toList, rows]; exact List.length_map ..
    have fit : t.fits es.size = true := by
      have a1 : t.place.size = L.length := by rw [tab.sz, List.length_map]
      have a2 : t.dummies.size = 0 := by rw [tab.dm]; rfl
      unfold SetTable.fits SetTable.fill
      rw [Bool.and_eq_true, beq_iff_eq, decide_eq_true_eq, a2, sz]
      omega
    refine call_len_set ho hex hd fit (by rw [sz]; have := sizeLine_eq; omega) ⟨.int L.length, H, I.tok _, ⟨_, by rw [sz]⟩, q⟩
end
end ST
namespace Z
open PySem L2 ST
structure StAt (P : Program) (w : World) (K : PySem.W.Frag) (Dl : Addr) (μ : M) (H0 : Hp) (acc : List (List Int)) (H' : Hp) : Prop where
  fr : Fr μ μ H0 H'
  con : Z.Con K H' μ
  no : μ Dl = none
  at_ : ∃ L : List (Addr × List Int), H' Dl = some (SetTO P w Dl L) ∧ (∀ p ∈ L, H' p.1 = some (.tup (p.2.map V.int))) ∧ (L.map (·.2)).Nodup ∧ L.length ≤ acc.length ∧ ∀ k, k ∈ L.map (·.2) ↔ k ∈ acc
theorem seto_ne {P : Program} {w : World} {a : Addr} {L : List (Addr × List Int)} {o : HO} (h : SetTO P w a L = o) (n : ∀ φ, o ≠ .ext φ) : False := n _ h.symm
theorem seto_nc {P : Program} {w : World} {a : Addr} {L : List (Addr × List Int)} {q : Str} (h : SetTO P w a L = LamX.CodeO a q) : False := by
  unfold SetTO LamX.CodeO at h
  injection h with h
  obtain ⟨o, ho⟩ : ∃ o : Obj, o = { cls := .none, data := .fields #[.none, .str q 0] } := ⟨_, rfl⟩
  have e : (Heap.mk (Array.replicate (a + 1) o) {}).get? a = some o := by
    subst ho
    unfold Heap.get?
    simp
  have z := congrFun h (Heap.mk (Array.replicate (a + 1) o) {})
  have k : SetT0 P w (Heap.mk (Array.replicate (a + 1) o) {}) a L := by
    rw [z]
    subst ho
    exact ⟨_, _, 0, e, rfl, rfl⟩
  obtain ⟨es, ep, t, ⟨o2, h2, _, h3⟩, _⟩ := k.ex
  rw [e] at h2
  cases h2
  rw [ho] at h3
  cases h3
theorem rels_ints {K : PySem.W.Frag} {H : Hp} : ∀ {k : List Int} {vs : List V}, Rels K H vs (k.map D.int) → vs = k.map V.int
  | [], _, .nil => rfl
  | _ :: _, _, .cons (.int _) b => by rw [List.map_cons, rels_ints b]
theorem rel_tupI {K : PySem.W.Frag} {H : Hp} {v : V} {k : List Int} (r : Rel K H v (.tup (k.map D.int))) : ∃ c, v = .ref c ∧ H c = some (.tup (k.map V.int)) := by
  cases r with
  | tup h hr =>
    cases h with
    | inl h => exact ⟨_, rfl, by rw [h, rels_ints hr]⟩
section
variable {P : Program} {w : World} {K : PySem.W.Frag} {τ : T} {μ : M} {H H0 H' : Hp} {σ : L2.St} {Φ : D → M → Prop} {te : TE} {wi : TI} {g : TG} {Dl : Addr} {acc : List (List Int)}
theorem st_upd {L L2 : List (Addr × List Int)} (c : Z.Con K H μ) (no : μ Dl = none) (h : H Dl = some (SetTO P w Dl L)) : Tx H (upd H Dl (SetTO P w Dl L2)) ∧ Z.Con K (upd H Dl (SetTO P w Dl L2)) μ := by
  have t : Tx H (upd H Dl (SetTO P w Dl L2)) := ⟨fun a xs e => by rw [upd_ne (fun z => by subst z; rw [h] at e; exact seto_ne (Option.some.inj e) (fun _ z => nomatch z))]; exact e,
    fun a ob xs e => by rw [upd_ne (fun z => by subst z; rw [h] at e; exact seto_ne (Option.some.inj e) (fun _ z => nomatch z))]; exact e,
    fun a q e => by rw [upd_ne (fun z => by subst z; rw [h] at e; exact seto_nc (Option.some.inj e))]; exact e⟩
  exact ⟨t, fun a m e => (c a m e).mono t (upd_ne (fun z => by subst z; rw [no] at e; cases e))⟩
theorem st_start (c : Z.Con K H μ) (hD : H Dl = none) : StAt P w K Dl μ H [] (upd H Dl (SetTO P w Dl [])) :=
  ⟨fr_new hD, con_new hD c, c.free hD, [], upd_same, (fun _ h => absurd h List.not_mem_nil), List.nodup_nil, Nat.le_refl _, fun _ => Iff.rfl⟩
/-- how many different ones there are -/
def NumOf (l : List (List Int)) (n : Nat) : Prop := ∃ d : List (List Int), d.Nodup ∧ (∀ k, k ∈ d ↔ k ∈ l) ∧ n = d.length
theorem a_lenSc {js : List Nat} {dec : D → List D → Prop} (hg : TgOk K g js dec)
    (h : AI K wi τ μ fun xs μw back => ∃ f : D → List Int, xs.length < 63 ∧ (∀ x ∈ xs, ∃ ds, dec x ds ∧ ds.length = js.length ∧ AE K te (sets τ js ds) μw fun y μ2 => y = .tup ((f x).map D.int) ∧ μ2 = μw) ∧ ∀ n, NumOf (xs.map f) n → Φ (.int (n : Int)) (back μw)) :
    AE K (tCB (rLenST P w) (tCons (tScT P w wi g tYes te js) tNil)) τ μ Φ := fun σ H s c Q k => by
  refine h σ H s c _ fun J xs out G H1 μw back tx c1 W g1 o1 B ⟨f, hz, hs, hd⟩ Dl hD => ?_
  have s1 := s.mono tx
  refine ⟨fun i m H' => m = xs.length - i ∧ i ≤ xs.length ∧ StAt P w K Dl μw H1 ((xs.take i).map f) H', ⟨xs.length, by omega, Nat.zero_le _, st_start c1 hD⟩, ?_⟩
  rintro i m H' ⟨rfl, hi, S⟩
  have gH : G H' := W.keep _ _ _ _ c1 o1 g1 S.fr
  by_cases hlt : i < xs.length
  · refine .inr ⟨W.go i H' hlt gH, fun H2 => StAt P w K Dl μw H1 ((xs.take (i + 1)).map f) H2, fun H2 S2 => ⟨xs.length - (i + 1), by omega, rfl, hlt, S2⟩, fun v H2 y => ?_⟩
    obtain ⟨x, hx, rx, hH⟩ := W.yld i H' v H2 hlt gH y
    have S2 : StAt P w K Dl μw H1 ((xs.take i).map f) H2 := by
      rcases hH with e | ⟨T0, vs, hT, e⟩
      · rw [e]; exact S
      · obtain ⟨f2, c2⟩ := yld_ok (vs := vs) S.con hT
        obtain ⟨L, a1, a2, a3, a4, a5⟩ := S.at_
        rw [e]
        exact ⟨S.fr.trans f2, c2, S.no, L, (f2 Dl _ S.no a1).1, fun p hp => (f2.tx S.con).t _ _ (a2 p hp), a3, a4, a5⟩
    obtain ⟨ds, hdec, hl, he⟩ := hs x (List.mem_of_getElem? hx)
    refine hg x ds v _ H2 hdec rx _ fun vs hvs => ⟨by rw [wipe_sets (fun _ h => h), wipe_wipe], ?_⟩
    have s' : Slots K H2 (sets τ js ds) (sets (wipe σ js) js vs) := slots_block (s1.mono (S2.fr.tx c1)) hvs hl
    refine he _ H2 s' S2.con _ fun y μ2 u H4 f4 c4 r4 ⟨ey, em⟩ => ?_
    subst ey em
    obtain ⟨ca, eu, hc⟩ := rel_tupI r4
    subst eu
    obtain ⟨L, a1, a2, a3, a4, a5⟩ := S2.at_
    have b1 : H4 Dl = some (SetTO P w Dl L) := (f4 Dl _ S2.no a1).1
    have b2 : ∀ p ∈ L, H4 p.1 = some (.tup (p.2.map V.int)) := fun p hp => (f4.tx S2.con).t _ _ (a2 p hp)
    have tl : ((xs.take i).map f).length ≤ i := by rw [List.length_map, List.length_take]; omega
    refine ⟨ca, f x, L, rfl, hc, b1, b2, by omega, fun L2 k1 k2 => ?_⟩
    obtain ⟨t5, c5⟩ := st_upd (L2 := L2) c4 S2.no b1
    have more : (xs.take (i + 1)).map f = (xs.take i).map f ++ [f x] := by
      rw [List.take_add_one, hx, List.map_append]; rfl
    have ff : Fr μ2 μ2 H1 (upd H4 Dl (SetTO P w Dl L2)) := fun a o n e => by
      obtain ⟨e2, m2⟩ := (S2.fr.trans f4) a o n e
      exact ⟨by rw [upd_ne (ne_of_none e hD)]; exact e2, m2⟩
    refine ⟨ff, c5, S2.no, L2, upd_same, ?_⟩
    rw [more]
    by_cases hm : f x ∈ L.map (·.2)
    · have e := k1 hm
      subst e
      refine ⟨fun p hp => t5.1 _ _ (b2 p hp), a3, by rw [List.length_append]; omega, fun k => ?_⟩
      rw [List.mem_append, a5 k]
      exact ⟨.inl, fun z => z.elim id fun z => by rw [List.mem_singleton.mp z]; exact (a5 _).mp hm⟩
    · have pm := k2 hm
      refine ⟨fun p hp => t5.1 _ _ ?_, ?_, ?_, fun k => ?_⟩
      · rcases List.mem_cons.mp (pm.mem_iff.mp hp) with e | z
        · rw [e]; exact hc
        · exact b2 p z
      · exact (pm.map (·.2)).nodup_iff.mpr (List.nodup_cons.mpr ⟨hm, a3⟩)
      · rw [pm.length_eq, List.length_cons, List.length_append]
        simp only [List.length_cons, List.length_nil]
        omega
      · rw [(pm.map (·.2)).mem_iff, List.map_cons, List.mem_cons, List.mem_append, List.mem_singleton, a5 k]
        exact ⟨fun z => z.symm, fun z => z.symm⟩
  · have e : i = xs.length := by omega
    subst e
    obtain ⟨L, a1, a2, a3, a4, a5⟩ := S.at_
    rw [List.take_length] at a5
    refine .inl ⟨W.stop _ H' (Nat.le_refl _) gH, ?_⟩
    refine ⟨Dl, L, rfl, a1, k _ (back μw) _ H' (B.fr _ _ S.fr) (B.con _ _ S.fr S.con) (.int _) (hd L.length ⟨L.map (·.2), a3, a5, by rw [List.length_map]⟩)⟩
end
theorem num_all {l : List (List Int)} {n : Nat} (h : l.Nodup) (m : NumOf l n) : n = l.length := by
  obtain ⟨d, h1, h2, e⟩ := m
  rw [e]
  exact Nat.le_antisymm (List.Nodup.length_le_of_subset h1 fun k hk => (h2 k).mp hk) (List.Nodup.length_le_of_subset h fun k hk => (h2 k).mpr hk)
theorem few_of_dup : ∀ (l d : List (List Int)), d.Nodup → (∀ k, k ∈ d → k ∈ l) → ¬ l.Nodup → d.length < l.length
  | [], _, _, _, h => absurd List.nodup_nil h
  | x :: r, d, hd, hs, h => by
    rw [List.length_cons]
    by_cases hx : x ∈ r
    · have := List.Nodup.length_le_of_subset hd fun k hk => by
        rcases List.mem_cons.mp (hs k hk) with e | z
        · rw [e]; exact hx
        · exact z
      omega
    · have hr : ¬ r.Nodup := fun z => h (List.nodup_cons.mpr ⟨hx, z⟩)
      have := few_of_dup r (d.erase x) (hd.erase x) (fun k hk => by
        have hk2 := (List.Nodup.mem_erase_iff hd).mp hk
        rcases List.mem_cons.mp (hs k hk2.2) with e | z
        · exact absurd e hk2.1
        · exact z) hr
      have h2 : d.length ≤ (d.erase x).length + 1 := by rw [List.length_erase]; split <;> omega
      omega
theorem num_some {l : List (List Int)} {n : Nat} (h : ¬ l.Nodup) (m : NumOf l n) : n < l.length := by
  obtain ⟨d, h1, h2, e⟩ := m
  rw [e]
  exact few_of_dup l d h1 (fun k hk => (h2 k).mp hk) h
end Z
namespace Z
open PySem L2 PyProof.Rows
section
variable {X : Cx} {a b c e : Expr} {ta tb tc te : TE} {pos : Pos}
def tChain3 (r1 r2 r3 : R2) (ta tb tc te : TE) : TE := fun σ H Q => ta σ H fun x H1 => tb σ H1 fun y H2 => r1 x y H2 fun z H3 => ∃ k, z = .bl k ∧
  (if k = true then tc σ H3 fun w H4 => r2 y w H4 fun z' H5 => ∃ k', z' = .bl k' ∧ (if k' = true then te σ H5 fun u H6 => r3 w u H6 Q else Q (.bl false) H5) else Q (.bl false) H3)
theorem pe_chain3 {o1 o2 o3 : CmpOp} {r1 r2 r3 : R2} (h1 : OpR X (compareOp o1) r1) (h2 : OpR X (compareOp o2) r2) (h3 : OpR X (compareOp o3) r3) (ha : PE X a ta) (hb : PE X b tb) (hc : PE X c tc) (he : PE X e te)
    (hm : lastMarks [o1, o2, o3] [b, c, e] = false := by with_unfolding_all rfl) : PE X (.Compare a [o1, o2, o3] [b, c, e] pos) (tChain3 r1 r2 r3 ta tb tc te) := by
  refine ⟨fun pins s σ H Q I h => ?_⟩
  refine Compare_chain (thn (ha.run pins s σ H _ I h) fun v s1 ⟨x, H1, I1, k1, q1⟩ => chain_link (thn (hb.run pins s1 σ H1 _ I1 q1) fun u s2 ⟨y, H2, I2, k2, q2⟩ =>
    thn (h1 pins s2 σ H2 x y v u _ I2 k1 k2 q2) fun d s3 ⟨z, H3, I3, k3, b1, eb, q3⟩ => ?_)) hm
  subst eb
  cases k3
  refine wpAny_truthy_bool ?_
  cases b1 with
  | false => exact ite_ff ⟨.bl false, H3, I3, rfl, q3⟩
  | true =>
    refine ite_tt (chain_link (thn (hc.run pins s3 σ H3 _ I3 q3) fun w s4 ⟨z', H4, I4, k4, q4⟩ => thn (h2 pins s4 σ H4 y z' u w _ I4 k2 k4 q4) fun d2 s5 ⟨z2, H5, I5, k5, b2, eb2, q5⟩ => ?_))
    subst eb2
    cases k5
    refine wpAny_truthy_bool ?_
    cases b2 with
    | false => exact ite_ff ⟨.bl false, H5, I5, rfl, q5⟩
    | true => exact ite_tt (chain_last (thn (he.run pins s5 σ H5 _ I5 q5) fun w' s6 ⟨z6, H6, I6, k6, q6⟩ => h3 pins s6 σ H6 z' z6 w w' Q I6 k4 k6 q6))
end
section
variable {K : PySem.W.Frag} {τ : T} {μ μ1 μ2 : M} {H H1 H2 : Hp} {σ : L2.St} {Φ Ψ : D → M → Prop} {ta tb tc td te : TE} {r1 r2 r3 : R2} {d e : D} {N : AEnds}
theorem a_chain3 (h : AE K ta τ μ fun d μ1 => AE K tb τ μ1 fun e μ2 => RO K r1 d e μ2 fun z μ3 => ∃ b, z = .bl b ∧
      if b = true then AE K tc τ μ3 fun w μ4 => RO K r2 e w μ4 fun z' μ5 => ∃ b', z' = .bl b' ∧ if b' = true then AE K te τ μ5 fun u μ6 => RO K r3 w u μ6 Φ else Φ (.bl false) μ5 else Φ (.bl false) μ3) :
    AE K (tChain3 r1 r2 r3 ta tb tc te) τ μ Φ := by
  intro σ H s c Q k
  refine h σ H s c _ fun d μ1 v H1 f1 c1 k1 p1 => ?_
  refine p1 σ H1 (s.mono (f1.tx c)) c1 _ fun e μ2 u H2 f2 c2 k2 p2 => ?_
  refine p2 H2 v u c2 (Rel.mono (f2.tx c1) _ _ k1) k2 _ fun z μ3 w H3 f3 c3 kz ⟨b, ez, p3⟩ => ?_
  subst ez
  cases kz
  refine ⟨b, rfl, ?_⟩
  have f13 := (f1.trans f2).trans f3
  cases b with
  | false => exact k _ μ3 _ H3 f13 c3 (.bl false) (show Φ (.bl false) μ3 from p3)
  | true =>
    have p3' : AE K tc τ μ3 fun w μ4 => RO K r2 e w μ4 fun z' μ5 => ∃ b', z' = .bl b' ∧ if b' = true then AE K te τ μ5 fun u μ6 => RO K r3 w u μ6 Φ else Φ (.bl false) μ5 := p3
    rw [if_pos rfl]
    refine p3' σ H3 (s.mono (f13.tx c)) c3 _ fun x4 μ4 w' H4 f4 c4 k4 p4 => ?_
    refine p4 H4 u w' c4 (Rel.mono ((f3.trans f4).tx c2) _ _ k2) k4 _ fun z' μ5 o H5 f5 c5 kz' ⟨b', ez', p5⟩ => ?_
    subst ez'
    cases kz'
    refine ⟨b', rfl, ?_⟩
    have f15 := (f13.trans f4).trans f5
    cases b' with
    | false => exact k _ μ5 _ H5 f15 c5 (.bl false) (show Φ (.bl false) μ5 from p5)
    | true =>
      have p5' : AE K te τ μ5 fun u μ6 => RO K r3 x4 u μ6 Φ := p5
      rw [if_pos rfl]
      refine p5' σ H5 (s.mono (f15.tx c)) c5 _ fun u2 μ6 v6 H6 f6 c6 k6 p6 => ?_
      exact p6 H6 w' v6 c6 (Rel.mono ((f5.trans f6).tx c4) _ _ k4) k6 Q fun z μ7 o7 H7 f7 c7 k7 p7 => k z μ7 o7 H7 ((f15.trans f6).trans f7) c7 k7 p7
end
theorem rc_max3 {K : PySem.W.Frag} {i j l : Int} {μ : M} {Φ : D → M → Prop} (q : Φ (.int (max (max i j) l)) μ) : RC K (rNuC3 nuMax3) [.int i, .int j, .int l] μ Φ := fun H xs c r Q k => by
  cases r with
  | cons a r =>
    cases r with
    | cons b r =>
      cases r with
      | cons d r =>
        cases a; cases b; cases d; cases r
        refine ⟨_, _, _, .int (max (max i j) l), rfl, ?_, k _ μ _ H Fr.refl c (.int _) q⟩
        have m2 : ∀ x y : Int, nuMax2 (.int x) (.int y) = some (.int (max x y)) := fun x y => by
          unfold nuMax2 nuLt nuCB
          simp only [Option.map_some]
          by_cases h : x < y
          · rw [if_pos (decide_eq_true h)]; congr 2; omega
          · rw [if_neg (by simpa using h)]; congr 2; omega
        unfold nuMax3
        rw [m2, Option.bind_some, m2]
def gFld (K : PySem.W.Frag) (to : TE) (f : Str) : TG := fun v σ H Q => to σ H fun x H2 => ∃ a C dx fs, x = .ref a ∧ H2 a = some (.ins C dx fs) ∧ Cls K C ∧ NoAttr K C f ∧ fs.length < 1000 ∧ Q σ (upd H2 a (.ins C dx (putF f v fs)))
theorem pg_fld {X : Cx} {o : Expr} {f : Str} {to : TE} {pos : Pos} (ho : PE X o to) : PG X (.Attribute o f pos) (gFld X.K to f) := by
  refine ⟨fun pins s σ H v u Q I r h => ?_⟩
  rw [PySem.assign_Attribute]
  refine wpAny_bind (wpAny_holding (thn (ho.run pins s σ H _ I h) fun ov s1 ⟨x, H2, I2, rx, a, C, dx, fs, ex, ea, c, n, l, q⟩ => ?_))
  subst ex
  obtain rfl : ov = Value.ref a := rx
  refine wpAny_bind (wpAny_standAt (wpAny_bind (wpAny_holding (setattr_ok I2 ea c n l r fun s3 I3 => ?_))))
  exact wpAny_release ⟨σ, _, I3, q⟩
section
variable {K : PySem.W.Frag} {τ : T} {μ μ1 μ2 : M} {H H1 H2 : Hp} {σ : L2.St} {Φ : D → M → Prop} {to te : TE} {d e : D} {N : AEnds}
theorem kvF_len {vs : List (Str × V)} {fs : List (Str × D)} (r : RelKV K H vs fs) : vs.length = fs.length := Paired.length r
theorem g_fld {f : Str} {Θ : T → M → Prop} (h : AE K to τ μ fun o μ2 => ∃ a C dx fs, o = .ref a ∧ μ2 a = some (.ins C dx fs) ∧ Cls K C ∧ NoAttr K C f ∧ fs.length < 1000 ∧ Θ τ (μ2.set a (.ins C dx (putD f d fs)))) : AG K (gFld K to f) d τ μ Θ := fun σ H v s c r Q k =>
  h σ H s c _ fun o μ2 w H2 f2 c2 r2 ⟨a, C, dx, fs, e, ha, hc, hn, hz, q⟩ => by
    subst e
    cases r2
    obtain ⟨vs, hv, hr⟩ := c2 a _ ha
    have fr := fr_mut (H := H2) (o := .ins C dx (putF f v vs)) (m' := .ins C dx (putD f d fs)) ha
    exact ⟨a, C, dx, vs, rfl, hv, hc, hn, by rw [kvF_len hr]; exact hz, k τ _ σ _ (f2.trans fr) (con_mut c2 ha ⟨_, upd_same, put_rel (Rel.mono ((f2.trans fr).tx c) _ _ r) (RelKV.mono (tx_mut c2 ha) hr)⟩) (s.mono ((f2.trans fr).tx c)) q⟩
theorem a_makeK {C : Addr} {n m : Nat} {cn : Str → Option Value} {P : PT4} {gV : List V → List V → List V} (gD : List D → List D → List D) {E : XK} {t tk : TA} (hg : ∀ H vs zs ds es, Rels K H vs ds → Rels K H zs es → ds.length = n + 1 → es.length = m → Rels K H (gV vs zs) (gD ds es))
    (h : AA K t τ μ fun ds μ1 => AA K tk τ μ1 fun es μ2 => ds.length = n ∧ es.length = m ∧ ∀ x dx, μ2 x = none → P (gD (.ref x :: ds) es) (μ2.set x (.ins C dx [])) (fun v μ3 => v = .non ∧ Φ (.ref x) μ3) fun _ _ _ => False) :
    AE K (tMakeK C n m (spX K cn P) gV E t tk) τ μ Φ := fun σ H s c Q k =>
  h σ H s c _ fun ds μ1 vs H1 f1 c1 r1 p1 => p1 σ H1 (s.mono (f1.tx c)) c1 _ fun es μ2 zs H2 f2 c2 r2 ⟨l1, l2, p2⟩ => by
    refine ⟨by rw [r1.length]; exact l1, by rw [r2.length]; exact l2, fun x dx hx hdx ne => ?_⟩
    have c3 : Con K (upd H2 dx (.own x)) μ2 := con_new hdx c2
    have hx3 : upd H2 dx (.own x) x = none := by rw [upd_ne (Ne.symm ne)]; exact hx
    have c4 : Con K (upd (upd H2 dx (.own x)) x (.ins C dx [])) (μ2.set x (.ins C dx [])) := con_put (m := .ins C dx []) hx3 c3 ⟨[], upd_same, .nil⟩
    have f4 : Fr μ2 (μ2.set x (.ins C dx [])) H2 (upd (upd H2 dx (.own x)) x (.ins C dx [])) := (fr_new hdx).trans (fr_put hx3)
    have r1' := (Rels.mono ((f2.trans f4).tx c1) _ _ r1)
    have r2' := (Rels.mono (f4.tx c2) _ _ r2)
    refine ⟨gD (.ref x :: ds) es, _, _, _, hg _ _ _ _ _ (.cons (.ref x) r1') r2' (by rw [List.length_cons, l1]) l2, c4, p2 x dx (c2.free hx), fun d μ' v H' f c' r ⟨ed, q⟩ => ?_, fun _ _ _ _ _ _ _ _ q => q.elim⟩
    subst ed
    cases r
    exact ⟨rfl, k _ μ' _ H' (((f1.trans f2).trans f4).trans f) c' (.ref x) q⟩
end
end Z
namespace Z
open PySem L2 PyProof.Rows
/-- an own error with one field -/
structure Exc1 (P : Program) (w : World) (K : PySem.W.Frag) (mg : Str → Option Value) (base : Heap) (x f : Str) (C : Addr) : Prop where
  ex : ∃ (B newId initId : String) (tl0 tl : List Value) (fI : Addr) (fd : FuncData) (p1 p2 : Str), ExcBaseFacts B newId initId tl0 ∧ PySem.HandSPX.NewIn B tl ∧ XO.OexB K C newId tl ∧ PySem.W.findIn K (.ref C) "__init__" = some (some (.ref fI)) ∧ PySem.W.typeIn K (.ref fI) = some (.type "function") ∧
    FnOk P w K mg base CX0 1 fI fd [p1, p2] (XO.spI1 K newId tl f) ∧ Binds K fd [p1, p2] []
  no : PySem.W.findIn K (.ref C) f = some none
  mg : mg x = some (.ref C)
  xf : XfC K C
/-- an own error with a text -/
structure Exc0 (K : PySem.W.Frag) (mg : Str → Option Value) (x : Str) (C : Addr) : Prop where
  ex : ∃ (B newId initId : String) (tl : List Value), ExcBaseFacts B newId initId tl ∧ PySem.W.excIn K C tl newId = true
  mg : mg x = some (.ref C)
  kp : PySem.W.keepIn K (.ref C) = true
  r1 : PySem.W.subIn K (.ref C) (.type "BaseException") = some true
  r2 : PySem.W.typeIn K (.ref C) = some (.type "type")
section
variable {X : Cx} {C : Addr} {x f m : Str} {j : Nat} {p p2 pos : Pos} {e : Expr} {es : List Expr} {ta : TA}
theorem pmk_e1 (G : Exc1 X.prog X.w X.K X.mg X.base x f C) (hr : Room 2 X.A) (hg : Gl X x) (ha : PA X (e :: es) ta)
    (hdb : (x == ("__debug__" : Str)) = false := by decide) (he : starEach (e :: es) X.env = (false, eval e X.env) :: starEach es X.env := by rfl) (hpl : (backTo pos (starEach es X.env)).any (·.1) = false := by rfl) :
    PMk X (.Call (.Name x p) (e :: es) [] pos) (XO.tMk1 C f ta) := by
  obtain ⟨B, newId, initId, tl0, tl, fI, fd, p1, p2, F, NI, T, iC, tI, FI, hb⟩ := G.ex
  exact XO.pmk_1 F NI T G.no iC tI FI hr hb hg G.mg ha hdb he hpl
theorem pmk_e0 (G : Exc0 X.K X.mg x C) (hg : Gl X x) (hdb : (x == ("__debug__" : Str)) = false := by decide) : PMk X (.Call (.Name x p) [.Constant (.str m) j p2] [] pos) (fun _ H Q => Q (.ref C) none H) := by
  obtain ⟨B, newId, initId, tl, F, q⟩ := G.ex
  exact pmk_own F q G.mg G.kp (raises_own G.r1 G.r2) hg hdb
end
/-- the values by the parameters' order: behind the written ones, those by name (true) and the lacking ones (false) -/
def gK {α : Type} (π : List (Bool × Nat)) (us mv ws : List α) : List α := us ++ π.filterMap fun p => if p.1 = true then ws[p.2]? else mv[p.2]?
theorem vals_at {vs : List V} {us : List Value} (r : Vals vs us) (i : Nat) : (vs[i]? = none ∧ us[i]? = none) ∨ ∃ v u, vs[i]? = some v ∧ us[i]? = some u ∧ RelV v u := by
  induction r generalizing i with
  | nil => exact .inl ⟨by simp, by simp⟩
  | cons a _ ih =>
    cases i with
    | zero => exact .inr ⟨_, _, by simp, by simp, a⟩
    | succ i => simpa using ih i
theorem rels_at {K : PySem.W.Frag} {H : Hp} : ∀ {vs : List V} {ds : List D} (r : Rels K H vs ds) (i : Nat), (vs[i]? = none ∧ ds[i]? = none) ∨ ∃ v d, vs[i]? = some v ∧ ds[i]? = some d ∧ Rel K H v d
  | [], [], .nil, i => .inl ⟨by simp, by simp⟩
  | v :: vs, d :: ds, .cons a b, 0 => .inr ⟨v, d, by simp, by simp, a⟩
  | v :: vs, d :: ds, .cons a b, i + 1 => by simpa using rels_at b i
theorem vals_gK (π : List (Bool × Nat)) {vs mz zs : List V} {us mv ws : List Value} (r : Vals vs us) (r1 : Vals mz mv) (r2 : Vals zs ws) : Vals (gK π vs mz zs) (gK π us mv ws) := by
  refine r.append ?_
  induction π with
  | nil => exact .nil
  | cons p π ih =>
    have z : (((if p.1 = true then zs[p.2]? else mz[p.2]?) = none ∧ (if p.1 = true then ws[p.2]? else mv[p.2]?) = none)) ∨ ∃ v u, (if p.1 = true then zs[p.2]? else mz[p.2]?) = some v ∧ (if p.1 = true then ws[p.2]? else mv[p.2]?) = some u ∧ RelV v u := by
      by_cases h : p.1 = true
      · rw [if_pos h, if_pos h]; exact vals_at r2 _
      · rw [if_neg h, if_neg h]; exact vals_at r1 _
    rw [List.filterMap_cons, List.filterMap_cons]
    rcases z with ⟨a, b⟩ | ⟨v, u, a, b, k⟩
    · rw [a, b]; exact ih
    · rw [a, b]; exact .cons k ih
theorem rels_gK {K : PySem.W.Frag} {H : Hp} (π : List (Bool × Nat)) {vs mz zs : List V} {us mv ws : List D} (r : Rels K H vs us) (r1 : Rels K H mz mv) (r2 : Rels K H zs ws) : Rels K H (gK π vs mz zs) (gK π us mv ws) := by
  refine r.append ?_
  induction π with
  | nil => exact .nil
  | cons p π ih =>
    have z : (((if p.1 = true then zs[p.2]? else mz[p.2]?) = none ∧ (if p.1 = true then ws[p.2]? else mv[p.2]?) = none)) ∨ ∃ v u, (if p.1 = true then zs[p.2]? else mz[p.2]?) = some v ∧ (if p.1 = true then ws[p.2]? else mv[p.2]?) = some u ∧ Rel K H v u := by
      by_cases h : p.1 = true
      · rw [if_pos h, if_pos h]; exact rels_at r2 _
      · rw [if_neg h, if_neg h]; exact rels_at r1 _
    rw [List.filterMap_cons, List.filterMap_cons]
    rcases z with ⟨a, b⟩ | ⟨v, u, a, b, k⟩
    · rw [a, b]; exact ih
    · rw [a, b]; exact .cons k ih
/-- C(.., k = v, ..), its __init__ keeping sp -/
structure MkK (P : Program) (w : World) (K : PySem.W.Frag) (mg : Str → Option Value) (base : Heap) (x : Str) (C : Addr) (ps : List Str) (n : Nat) (ks : List Str) (π : List (Bool × Nat)) (mz : List V) (k : Nat) (sp : Sp) : Prop where
  ex : ∃ f fd g, Mk K C f ∧ FnOk P w K mg base (L2.CX P w) k f fd ps sp ∧ mg x = some (.ref C) ∧ KBn K fd ps (n + 1) ks g (fun vs zs => gK π vs mz zs)
section
variable {X : Cx} {C : Addr} {x : Str} {ps ks : List Str} {n k : Nat} {π : List (Bool × Nat)} {mz : List V} {sp : Sp} {p pos : Pos} {e : Expr} {es : List Expr} {kws : List Keyword} {t tk : TA}
theorem pe_mkK (G : MkK X.prog X.w X.K X.mg X.base x C ps n ks π mz k sp) (hr : Room (k + 1) X.A) (hg : Gl X x) (ha : PA X (e :: es) t) (hkw : PK X kws tk)
    (hall : (backToKw pos (keywordEach kws X.env)).all (·.1.isSome) = true := by rfl) (hks : (backToKw pos (keywordEach kws X.env)).filterMap (·.1) = ks := by rfl) (hdb : (x == ("__debug__" : Str)) = false := by decide)
    (he : starEach (e :: es) X.env = (false, eval e X.env) :: starEach es X.env := by rfl) (hpl : ((backTo pos (starEach (e :: es) X.env)).any (·.1) || (backToKw pos (keywordEach kws X.env)).any (·.1.isNone)) = false := by rfl) :
    PE X (.Call (.Name x p) (e :: es) kws pos) (tMakeK C n ks.length sp (fun vs zs => gK π vs mz zs) E0 t tk) := by
  obtain ⟨f, fd, g, M, F, hm, hb⟩ := G.ex
  exact pe_makeK M F hr hg hm hb passL ha hkw hall hks hdb he hpl
end
theorem a_mkK {K : PySem.W.Frag} {τ : T} {μ : M} {Φ : D → M → Prop} {C : Addr} {n m : Nat} {π : List (Bool × Nat)} {mz : List V} (mD : List D) (hmz : ∀ H, Rels K H mz mD) {cn : Str → Option Value} {P : PT4} {E : XK} {t tk : TA}
    (h : AA K t τ μ fun ds μ1 => AA K tk τ μ1 fun es μ2 => ds.length = n ∧ es.length = m ∧ ∀ x dx, μ2 x = none → P (gK π (.ref x :: ds) mD es) (μ2.set x (.ins C dx [])) (fun v μ3 => v = .non ∧ Φ (.ref x) μ3) fun _ _ _ => False) :
    AE K (tMakeK C n m (spX K cn P) (fun vs zs => gK π vs mz zs) E t tk) τ μ Φ := a_makeK (fun ds es => gK π ds mD es) (fun H vs zs ds es r1 r2 _ _ => rels_gK π r1 (hmz H) r2) h
/-- a def of a class, its keyword defaults by name -/
theorem kbn_of {K : PySem.W.Frag} {x qual : Str} {params : Arguments} {body : List Stmt} {scope : Scope} {kws : List (Str × V)} {f : Addr} {fd : FuncData} {ps : List Str} (F : FunD K x qual params body scope [] kws f fd) (n : Nat) (ks : List Str) (ms : List (Str × V)) (π : List (Bool × Nat)) (hk : kws ≠ []) (hms : ∀ q ∈ ms, q ∈ kws)
    (h : ∀ (D : Addr) (doc pm : Value) (an : Option Addr) (cdv ct : Value) (us mv ws : List Value), us.length = n → mv.length = ms.length → ws.length = ks.length →
      KwChain D ((ms.map (·.1)).zip mv) (bindArgs (PySem.W.fnOf x qual params body scope .none (.ref D) doc pm an cdv ct) ⟨us, ks.zip ws⟩) (ps.zip (gK π us mv ws))) : ∃ g, KBn K fd ps n ks g (fun vs zs => gK π vs (ms.map (·.2)) zs) := by
  obtain ⟨mv, hb⟩ := F.kbinds0 n ks ms (fun us mv ws => gK π us mv ws) hk hms (fun r1 r2 r3 => vals_gK π r1 r2 r3) h
  exact ⟨_, hb⟩
/-- does «except C» name an error of the class at S -/
theorem exm_pair {K : PySem.W.Frag} {S C : Addr} {b : Bool} (h1 : PySem.W.subIn K (.ref C) (.type "BaseException") = some true) (h2 : PySem.W.isClsIn K C = true) (h3 : PySem.W.typeIn K (.ref C) = some (.type "type")) (h4 : PySem.W.subIn K (.ref S) (.ref C) = some b) :
    PySem.W.exmOne K (.ref S) (.ref C) = some b := by
  have e2 : ((PySem.W.clsIn K C).isSome && PySem.W.typeIn K (.ref C) == some (.type "type")) = true := by
    have h5 : (PySem.W.clsIn K C).isSome = true := h2
    rw [h5, h3] <;> rfl
  have e1 : (PySem.W.subIn K (.ref C) (.type "BaseException") == some true) = true := by rw [h1] <;> rfl
  unfold PySem.W.exmOne
  rw [if_pos e1]
  unfold PySem.W.kitCls
  first
    | (rw [if_pos e2]; exact h4)
    | (simp only [e2, if_true]; exact h4)
section
variable {X : Cx} {K : PySem.W.Frag} {o value : Expr} {f : PySem.Str} {ta tv : TE} {pos pos' : Pos}
theorem ps_fldK (h : X.K = K) (ha : PE X o ta) (hv : PE X value tv) (hs : swapsWith value (some (.Attribute o f pos')) pos.line X.env = pure false) : PS X (.Assign [.Attribute o f pos'] value pos) (sFld K ta tv f) := by
  subst h; exact ps_fld ha hv hs
theorem pg_fldK (h : X.K = K) (ho : PE X o ta) : PG X (.Attribute o f pos) (gFld K ta f) := by subst h; exact pg_fld ho
end
/-- what a def that may raise has made for itself is forgotten at its end -/
theorem body_okXU {K : PySem.W.Frag} {H : Hp} {ts : TS} {P : PT4} {E : XK} {Ns : List Str} {vs : List V} {Q : VK} {cn : Str → Option Value} (h : spX K cn P vs H Q E) (hb : ∀ ds μ Φ Ξ, P ds μ Φ Ξ → AS K ts (startD Ns.length ds) μ (endX cn E (Up Φ) (UpX Ξ))) :
    ts { nx := fun _ H' => Q .non H', rt := Q } (L2.start Ns vs) H := by
  obtain ⟨ds, μ, Φ, Ξ, r, c, p, k, kx⟩ := h
  refine hb ds μ Φ Ξ p _ H (slots_start r) c _ ⟨fun _ μ' _ H' f c' _ ⟨μ2, sb, q⟩ => k .non μ2 .non H' (f.sub sb) (c'.sub sb) .non q, fun d μ' v H' f c' r' ⟨μ2, sb, q⟩ => k d μ2 v H' (f.sub sb) (c'.sub sb) r' q, fun _ _ _ _ _ _ _ q => q.elim, fun _ _ _ _ _ _ _ q => q.elim,
    fun x dx _ μ' cls _ H' e f c' _ ⟨μ2, sb, q⟩ => kx x dx μ2 cls H' e (f.sub sb) (c'.sub sb) q⟩
/-- a written constant of the top -/
structure Cst (mg : Str → Option Value) (x : Str) (v : V) : Prop where
  ex : ∃ u, mg x = some u ∧ RelV v u
theorem pe_cst {X : Cx} {x : Str} {v : V} {pos : Pos} (G : Cst X.mg x v) (hg : Gl X x) (hd : (x == ("__debug__" : Str)) = false := by decide) : PE X (.Name x pos) (tC v) := by
  obtain ⟨u, hm, r⟩ := G.ex
  exact pe_glob hg hm r hd
theorem okn_str {s : Str} (h : PyData.strOk s = true) : OkN 0 (.str s) := ⟨by simp only [D.plain], by simp only [D.py, PyData.canLay0]; exact h, by simp only [D.py, PyData.depth]; exact Nat.le_refl _⟩
section
variable {K : PySem.W.Frag} {μ : M} {Φ : D → M → Prop} {a b : Addr}
theorem ro_neLL {n : Nat} {ds : List D} (h1 : μ a = some (.lst ds)) (h2 : μ b = some (.lst ds)) (ok : ∀ x ∈ ds, OkN n x) (hn : n < 64) (q : Φ (.bl false) μ) : RO K (rNeD K) (.ref a) (.ref b) μ Φ := fun H x y c r1 r2 Q k => by
  cases r1; cases r2
  obtain ⟨xs, hx, hr⟩ := c a _ h1
  obtain ⟨ys, hy, hr2⟩ := c b _ h2
  obtain ⟨p1, p2, p3⟩ := okn_all ok
  have lay : (PyData.list (D.pys ds)).canLay0 = true := by simp only [PyData.canLay0]; exact p2
  have sh : SeqAt.shaped (.list (D.pys ds)) = true := by
    unfold SeqAt.shaped
    rw [Bool.and_eq_true]
    exact ⟨lay, decide_eq_true (by simp only [PyData.depth]; omega)⟩
  refine ⟨.list (D.pys ds), .list (D.pys ds), .lst (SqL.of hx) (Rels.dp _ _ hr p1), .lst (SqL.of hy) (Rels.dp _ _ hr2 p1), sh, sh, ?_⟩
  rw [SeqAt.eqv_refl _ lay]
  exact k _ μ _ H Fr.refl c (.bl _) q
end
end Z
namespace SD
open PySem PySem.Spec PyProof.Rows L2 PySem.W
/-- a list of data is held, each value with what it reads as -/
def rSortD (K : PySem.W.Frag) : List V → Hp → VK → Prop := fun vs H Q => ∃ (a : Addr) (bs : List (V × PyData)), vs = [.ref a] ∧ SqL K H a (bs.map (·.1)) ∧ (∀ b ∈ bs, Dp K H b.1 b.2) ∧ AllAlike (bs.map (·.2)) ∧ Sortable (bs.map (·.2)) ∧
  (∀ b ∈ bs, b.2.depth ≤ 8) ∧ ∀ p, H p = none → Q (.ref p) (upd H p (.lst ((bs.mergeSort (dataLe false (·.2))).map (·.1))))
theorem each_of {α β γ : Type} {R : α → β → Prop} (f : γ → α) : ∀ {bs : List γ} {us : List β}, Paired R (bs.map f) us → EachIs (fun u b => R (f b) u) us bs
  | [], [], .nil => .nil
  | _ :: _, _ :: _, .cons a b => .cons a (each_of f b)
theorem each_imp {α β : Type} {R S : α → β → Prop} : ∀ {us : List α} {bs : List β}, EachIs R us bs → (∀ u b, b ∈ bs → R u b → S u b) → EachIs S us bs
  | [], [], .nil, _ => .nil
  | _ :: _, _ :: _, .cons a b, h => .cons (h _ _ List.mem_cons_self a) (each_imp b fun u c hc => h u c (List.mem_cons_of_mem _ hc))
theorem vals_each {γ : Type} (f : γ → V) : ∀ {us : List Value} {bs : List γ}, EachIs (fun u b => RelV (f b) u) us bs → Vals (bs.map f) us
  | [], [], .nil => .nil
  | _ :: _, _ :: _, .cons a b => .cons a (vals_each f b)
theorem cr_sortD {X : Cx} (hu : X.A.units + 64 < cLine) : CallR X (.builtin "sorted") (rSortD X.K) := by
  intro pins s σ H vs us Q I r h
  obtain ⟨a, bs, rfl, hs, hd, hal, hk, hde, q⟩ := h
  obtain ⟨its, rv, hl, hz⟩ := I.list hs
  rw [Vals.ref1 r]
  have e : EachIs (fun u (b : V × PyData) => RelV b.1 u) its bs := each_of (fun b : V × PyData => b.1) rv
  have er : EachIs (fun v (b : V × PyData) => ∃ as, Reads s.heap v b.2 as) its bs := each_imp e fun u b hb rb => Dp.reads I b.2 b.1 u (hd b hb) rb
  have len : bs.length = its.length := e.length.symm
  have small : bs.length ≤ sizeLine := by
    rw [List.length_map] at hz
    exact hz
  refine sorted_data (enc := fun b : V × PyData => b.2) hl.isList e er hal hk small (fun b hb => by have := hde b hb; omega) fun out ho eo => ?_
  obtain ⟨c, hc⟩ := sortedAll_at s.heap its out.toArray
  have rr := vals_each (fun b : V × PyData => b.1) eo
  have big : ((bs.mergeSort (dataLe false (·.2))).map (·.1)).length ≤ sizeLine := by
    rw [List.length_map, List.length_mergeSort]
    exact small
  exact ⟨.ref (s.heap.objs.size + 1), upd H (s.heap.objs.size + 1) (.lst ((bs.mergeSort (dataLe false (·.2))).map (·.1))), I.laid (t' := s.toks) (fun b u e => sortedAll_old e) (Nat.le_succ _) ⟨big, out, c, rr, hc⟩, rfl, q _ (I.hok.fresh (Nat.le_succ _))⟩
theorem cr_sortDK {X : Cx} {K : PySem.W.Frag} (h : X.K = K) (hu : X.A.units + 64 < cLine) : CallR X (.builtin "sorted") (rSortD K) := by subst h; exact cr_sortD hu
end SD
namespace Z
open PySem L2 SD PySem.W
/-- a list of data, sorted as Python has it -/
def srtD (ds : List D) : List D := ds.mergeSort (dataLe false D.py)
theorem zip_rels {K : PySem.W.Frag} {H : Hp} : ∀ {vs : List V} {ds : List D}, Rels K H vs ds → (vs.zip ds).map (·.1) = vs ∧ (vs.zip ds).map (·.2) = ds ∧ ∀ p ∈ vs.zip ds, Rel K H p.1 p.2
  | [], [], .nil => ⟨rfl, rfl, fun _ h => (by cases h)⟩
  | v :: vs, d :: ds, .cons a b => by
    obtain ⟨h1, h2, h3⟩ := zip_rels b
    refine ⟨by rw [List.zip_cons_cons, List.map_cons, h1], by rw [List.zip_cons_cons, List.map_cons, h2], fun p hp => ?_⟩
    rcases List.mem_cons.mp hp with e | z
    · rw [e]; exact a
    · exact h3 p z
theorem rels_of_pairs {K : PySem.W.Frag} {H : Hp} : ∀ {ps : List (V × D)}, (∀ p ∈ ps, Rel K H p.1 p.2) → Rels K H (ps.map (·.1)) (ps.map (·.2))
  | [], _ => .nil
  | p :: ps, h => .cons (h p List.mem_cons_self) (rels_of_pairs fun q hq => h q (List.mem_cons_of_mem _ hq))
section
variable {K : PySem.W.Frag} {μ : M} {Φ : D → M → Prop} {a : Addr}
theorem rc_sorted {ds : List D} (h : μ a = some (.lst ds)) (ok : ∀ x ∈ ds, OkN 8 x) (hal : AllAlike (ds.map D.py)) (hk : Sortable (ds.map D.py)) (q : ∀ p, μ p = none → Φ (.ref p) (μ.set p (.lst (srtD ds)))) : RC K (rSortD K) [.ref a] μ Φ := fun H xs c r Q k => by
  cases r with
  | cons r rn =>
  cases r; cases rn
  obtain ⟨vs, hv, hr⟩ := c a _ h
  obtain ⟨z1, z2, z3⟩ := zip_rels hr
  have e1 : ((vs.zip ds).map fun p => (p.1, D.py p.2)).map (·.1) = vs := by rw [List.map_map]; exact z1
  have e2 : ((vs.zip ds).map fun p => (p.1, D.py p.2)).map (·.2) = ds.map D.py := by
    rw [List.map_map]
    have : ((fun x : V × PyData => x.2) ∘ fun p : V × D => (p.1, D.py p.2)) = D.py ∘ (·.2) := rfl
    rw [this, ← List.map_map, z2]
  have inD : ∀ p ∈ vs.zip ds, p.2 ∈ ds := fun p hp => by rw [← z2]; exact List.mem_map.mpr ⟨p, hp, rfl⟩
  refine ⟨a, (vs.zip ds).map fun p => (p.1, D.py p.2), rfl, by rw [e1]; exact SqL.of hv, fun b hb => ?_, by rw [e2]; exact hal, by rw [e2]; exact hk, fun b hb => ?_, fun p hp => ?_⟩
  · obtain ⟨p, hp, rfl⟩ := List.mem_map.mp hb
    exact Rel.dp _ _ (z3 p hp) (ok _ (inD p hp)).p
  · obtain ⟨p, hp, rfl⟩ := List.mem_map.mp hb
    exact (ok _ (inD p hp)).d
  · have m1 : (((vs.zip ds).map fun p => (p.1, D.py p.2)).mergeSort (dataLe false (·.2))).map (·.1) = ((vs.zip ds).mergeSort (dataLe false fun p => D.py p.2)).map (·.1) := by
      rw [← List.map_mergeSort (r := dataLe false fun p : V × D => D.py p.2) (s := dataLe false (·.2)) (f := fun p => (p.1, D.py p.2)) (fun _ _ _ _ => rfl), List.map_map]
      rfl
    have m2 : srtD ds = ((vs.zip ds).mergeSort (dataLe false fun p => D.py p.2)).map (·.2) := by
      unfold srtD
      rw [List.map_mergeSort (r := dataLe false fun p : V × D => D.py p.2) (s := dataLe false D.py) (f := fun p : V × D => p.2) (fun _ _ _ _ => rfl), z2]
    rw [m1]
    have rr : Rels K H (((vs.zip ds).mergeSort (dataLe false fun p => D.py p.2)).map (·.1)) (srtD ds) := by
      rw [m2]
      exact rels_of_pairs fun p hp => z3 p ((List.mergeSort_perm _ _).mem_iff.mp hp)
    exact k _ _ _ _ (fr_put hp) (con_put (m := .lst (srtD ds)) hp c ⟨_, upd_same, Rels.mono (tx_new hp) _ _ rr⟩) (.ref p) (q p (c.free hp))
end
/-- pairs of ints stand as tuples do -/
def leP (p q : Int × Int) : Bool := decide (p.1 < q.1) || (decide (p.1 = q.1) && decide (p.2 ≤ q.2))
theorem le_pt (a b c d : Int) : dataLe false D.py (pt a b) (pt c d) = leP (a, b) (c, d) := by
  unfold dataLe sortLe leP
  simp only [cond_false, D.py, D.pys, keyToks, keyToksAll, List.singleton_append, List.cons_append, List.nil_append]
  show (!PyProof.Rows.lexLt PyProof.Rows.itemOrd [.inl 1, .inl c, .inl 1, .inl d, .inl 0] [.inl 1, .inl a, .inl 1, .inl b, .inl 0]) = _
  rw [PyProof.Rows.lex_cons, PyProof.Rows.lex_cons, PyProof.Rows.lex_cons, PyProof.Rows.lex_cons, PyProof.Rows.lex_cons]
  show (!(decide ((1 : Int) < 1) || (!decide ((1 : Int) < 1) && (decide (c < a) || (!decide (a < c) && (decide ((1 : Int) < 1) || (!decide ((1 : Int) < 1) && (decide (d < b) || (!decide (b < d) && (decide ((0 : Int) < 0) || (!decide ((0 : Int) < 0) && false)))))))))) ) = _
  by_cases h1 : a < c <;> by_cases h2 : c < a <;> by_cases h3 : b ≤ d <;> by_cases h4 : d < b <;> by_cases h5 : a = c <;> simp [h1, h2, h3, h4, h5] <;> omega
end Z
namespace ZT
open PySem PySem.Spec PyProof.Rows L2
section
variable {M : Model} {h : Heap} {a : Addr} {oe : Obj} {vs : Array Value}
theorem lk_type (ha : h.get? a = some oe) : PySem.W.Looks M h (typeOf (.ref a)) oe.cls :=
  fun _ _ _ _ k q => wpAny_typeOf_ref (k _ _ ha) q
end
/-- a record made over h0, on its way to be raised -/
structure Made (M : Model) (h0 h : Heap) (a : Addr) (cls : Value) (d : Option Addr) : Prop where
  new : h0.get? a = none
  old : ∀ b o, h0.get? b = some o → h.get? b = some o
  fin : ∃ oe vs, h.get? a = some oe ∧ oe.data = .fields vs ∧ oe.cls = cls ∧ oe.dict = d ∧ vs[1]? = some .none ∧ 4 < vs.size
  exc : PySem.W.Looks M h0 (isSubtype cls (.type "BaseException")) true
  met : PySem.W.Looks M h0 (typeOf cls) (.type "type")
section
variable {M : Model} {h0 : Heap} {a : Addr} {cls : Value} {d : Option Addr} {A : Around} {E : Value → Shared → Prop} {s : Shared}
/-- one more field is told -/
theorem Made.upd {h : Heap} (m : Made M h0 h a cls d) {i : Nat} (v : Value) (hi : i ≠ 1) : Made M h0 (h.update a (Obj.mapFields (·.setIfInBounds i v))) a cls d := by
  obtain ⟨oe, vs, ha, hd, hc, hx, h1, hz⟩ := m.fin
  have hd' := Obj.data_mapFields hd (·.setIfInBounds i v)
  exact ⟨m.new, fun b o e => (Heap.get?_update_other _ _ fun z => Option.some_ne_none _ (((congrArg h0.get? z).trans e).symm.trans m.new)).trans (m.old b o e),
    ⟨_, _, Heap.get?_update_self _ ha (Obj.isFreed_of_fields hd'), hd', (Obj.cls_mapFields ..).trans hc, (HandSPX.dict_mapFields ..).trans hx, HotX.set_other hi h1, by rw [HotX.set_size]; exact hz⟩, m.exc, m.met⟩
theorem Made.put (m : Made M h0 s.heap a cls d) {i : Nat} {v : Value} {Q : Unit → Shared → Prop} (hi : i ≠ 1) (h4 : i ≤ 4)
    (q : ∀ h', Made M h0 h' a cls d → Q () { s with heap := h' }) : wpAny M A (setField (.ref a) i v) Q E s := by
  obtain ⟨oe, vs, ha, hd, -, -, -, hz⟩ := id m.fin
  exact wpAny_setField ha hd (Nat.lt_of_le_of_lt h4 hz) (q _ (m.upd v hi))
end
end ZT
namespace L2H
open PySem PySem.Spec PyProof.Rows L2 HotX
end L2H
namespace ZT
open PySem PySem.Spec PyProof.Rows L2
/-- kinds of records: with any context, with none -/
structure Kind (Z : Value → Option Addr → Obj → Prop) : Prop where
  zc : ∀ {c d o}, Z c d o → Zc c d o
  land : ∀ {M : Model} {A : Around} {E₁ : Value → Shared → Prop} {env : Env} {outer : List Env} {B : Heap} {L a : Addr} {c : Value} {d : Option Addr} {Q : Unit → Shared → Prop} {s : Shared}, A.frames = some (env :: outer) → env.frame = some L →
    Sky B (env :: outer) a (Z c d) L s.heap → (∀ h', HandSPX.FlyingZ B (env :: outer) a (Z c d) h' → s.heap.UpToSlots h' → Q () { s with heap := h' }) →
      wpAny M A (noteFrame (.ref a) env) (fun _ s₂ => wpAny M A (setFlight (.ref a) none) Q E₁ s₂) E₁ s
/-- the own frame is on top -/
structure Top (X : Cx) : Prop where
  ok : X.Ok
  stk : X.stack = X.env :: X.outer
  frm : X.env.frame = some X.env.locals
theorem Top.frames {X : Cx} (t : Top X) (hd : Option Value) : (X.A.mark hd).frames = some (X.env :: X.outer) := t.stk ▸ t.ok.frames
/-- an error at a: sI is the state without it, B the ground -/
structure Aloft (Z : Value → Option Addr → Obj → Prop) (X : Cx) (B : Heap) (sI : Shared) (pins : List (Addr × Obj)) (σ : L2.St) (H : Hp) (c : Value) (d : Option Addr) (a : Addr) (s : Shared) : Prop where
  inv : Inv X pins σ H sI
  gnd : ∀ b o, sI.heap.get? b = some o → b ∉ frs X.stack → B.get? b = some o
  up : sI.heap.UpToSlots s.heap
  sky : Sky B X.stack a (Z c d) X.env.locals s.heap
  na : H a = none
  os : s.os = sI.os
  ag : AllBare s.gens
section
variable {Z : Value → Option Addr → Obj → Prop} {X : Cx} {B : Heap} {sI s : Shared} {pins : List (Addr × Obj)} {σ : L2.St} {H : Hp} {c : Value} {d : Option Addr} {a : Addr}
theorem Aloft.xe {W : WX} (x : Aloft Zc X B sI pins σ H c d a s) (w : W c d σ H) : L2.XE X W (.ref a) s := ⟨a, B, sI, pins, σ, H, c, d, rfl, x.inv, x.gnd, x.up, x.sky, x.na, x.os, x.ag, w⟩
/-- the same, caught: it flies over this frame, noted nowhere -/
structure Got (Z : Value → Option Addr → Obj → Prop) (X : Cx) (B : Heap) (sI : Shared) (pins : List (Addr × Obj)) (σ : L2.St) (H : Hp) (c : Value) (d : Option Addr) (a : Addr) (s : Shared) : Prop where
  top : Top X
  inv : Inv X pins σ H sI
  gnd : ∀ b o, sI.heap.get? b = some o → b ∉ frs X.stack → B.get? b = some o
  up : sI.heap.UpToSlots s.heap
  fl : HandSPX.FlyingZ B (X.env :: X.outer) a (Z c d) s.heap
  na : H a = none
  os : s.os = sI.os
  ag : AllBare s.gens
theorem Got.here (g : Got Z X B sI pins σ H c d a s) : Inv X pins σ H s := g.inv.landed g.gnd g.fl.1 g.up g.os g.ag
/-- its record stands apart from all frames, and from the ground -/
theorem Got.apart (g : Got Z X B sI pins σ H c d a s) : ∃ oe vs, s.heap.get? a = some oe ∧ Z c d oe ∧ oe.data = .fields vs ∧ a ≠ X.env.locals ∧ a ∉ X.fs ∧ X.base.get? a = none := by
  obtain ⟨oe, vs, he, hz, hd⟩ := g.fl.there
  have off : a ∉ frs (X.env :: X.outer) := fun hm => by
    obtain ⟨-, o, e, nf⟩ := g.fl.2.2.1.mem hm
    exact nf vs (Option.some.inj (he.symm.trans e) ▸ hd)
  have nl : a ≠ X.env.locals := fun z => off (List.mem_filterMap.mpr ⟨X.env, List.mem_cons_self, z ▸ g.top.frm⟩)
  have nf : a ∉ X.fs := fun hm => off (by
    obtain ⟨e, he, q⟩ := List.mem_filterMap.mp hm
    exact List.mem_filterMap.mpr ⟨e, List.mem_cons_of_mem _ he, q⟩)
  refine ⟨oe, vs, he, hz, hd, nl, nf, Option.eq_none_iff_forall_not_mem.mpr fun o e => ?_⟩
  have b1 := g.gnd a o (g.inv.bk a o e) (g.top.stk ▸ off)
  exact Option.some_ne_none _ (b1.symm.trans g.fl.2.1)
/-- .. and stays so in a greater heap, or when its flight is told again -/
theorem Got.grow (g : Got Z X B sI pins σ H c d a s) (o : Obj) : Got Z X B sI pins σ H c d a { s with heap := s.heap.push o } := by
  have k : ∀ b u, s.heap.get? b = some u → (s.heap.push o).get? b = some u := fun b u e => Heap.get?_push_of_some _ e
  obtain ⟨f1, f2, f3, oe, vs, T, oT, ts, k1, k2, k3, k4, k5, k6, k7, k8⟩ := g.fl
  exact ⟨g.top, g.inv, g.gnd, g.up.trans (.of_keeps k), ⟨fun b u e => k b u (f1 b u e), f2, f3.of_keeps fun b u e _ => ⟨u, k b u e, rfl⟩, oe, vs, T, oT, ts, k _ _ k1, k2, k3, k4, k5, k6, k _ _ k7, k8⟩, g.na, g.os, g.ag⟩
end
section
variable {X : Cx} {pins : List (Addr × Obj)} {σ : L2.St} {H : Hp} {s : Shared}
/-- h' is h but for the object at L -/
def Off (L : Addr) (h h' : Heap) : Prop := ∀ b, b ≠ L → h'.get? b = h.get? b
theorem Off.cell {L b : Addr} {h h' : Heap} {v : Option Value} (f : Off L h h') (n : b ≠ L) : h.IsCell b v → h'.IsCell b v := fun ⟨o, e, d⟩ => ⟨o, (f b n).trans e, d⟩
theorem Off.un {fs ex : List Addr} {H' : Hp} {L : Addr} {h0 h h' : Heap} (u : Un fs ex H' H h0 h) (f : Off L h h') (n : ∀ b o, h0.get? b = some o → b ≠ L) : Un fs ex H' H h0 h' where
  keep b o e z i j := (f b (n b o e)).trans (u.keep b o e z i j)
  slot b o e z i j := (u.slot b o e z i j).imp fun _ q => (f b (n b o e)).trans q
  free := u.free
  there b o e j := (u.there b o e j).imp fun _ q => (f b (n b o e)).trans q
  tups := u.tups
  frzs := u.frzs
  tbls := u.tbls
theorem Off.hok {P : Program} {w : World} {L : Addr} {h h' : Heap} (k : HOk P w H h) (f : Off L h h') (n : H L = none) : HOk P w H h' := fun b o e =>
  (k b o e).stay (fun x u way q => (f x fun z => way.elim (fun w => by rw [← w, z, n] at e; cases e) fun w => by rw [z, n] at w; cases w).trans q) (fun _ q => q) fun _ _ q => q
end
end ZT
namespace ZT
open PySem PySem.Spec PyProof.Rows L2
/-- the context of a suite, F about what leaves it -/
abbrev sctx (X : Cx) (a : Addr) (pn : List (Addr × Obj)) (F : Value → Shared → Prop) : Cx := { X with A := X.A.mark (some (.ref a)), calm := false, pn := pn, xe := F }
end ZT
namespace ZT
open PySem PySem.Spec PyProof.Rows L2
/-- the names in a clause's tuple -/
inductive NsL (X : Cx) : List Expr → List Value → Prop
  | nil : NsL X [] []
  | cons {x : Str} {c : Value} {np : Pos} {es : List Expr} {cs : List Value} (hc : Names X x c) (r : NsL X es cs) : NsL X (.Name x np :: es) (c :: cs)
/-- a clause's classes, by what they answer -/
inductive Test (X : Cx) : Expr → (Value → Option Bool) → Prop
  | one {x : Str} {c : Value} {np : Pos} (hc : Names X x c) : Test X (.Name x np) (fun cls => PySem.W.exmOne X.K cls c)
  | tup {es : List Expr} {cs : List Value} {k : Nat} {np : Pos} (h : NsL X es cs) (z : cs.length = 2 ∨ cs.length = 3 ∨ cs.length = 4) : Test X (.Tuple es k np) (fun cls => PySem.W.exmAny X.K cls cs)
section
variable {Z : Value → Option Addr → Obj → Prop} {X : Cx} {B : Heap} {sI s : Shared} {pins : List (Addr × Obj)} {σ : L2.St} {H : Hp} {c : Value} {d : Option Addr} {a : Addr}
/-- the state as a suite's -/
theorem Got.suite (g : Got Z X B sI pins σ H c d a s) : ∃ oe, Z c d oe ∧ (∃ vs, oe.data = .fields vs) ∧ X.base.get? a = none ∧ s.heap.get? a = some oe ∧ ∀ F, Inv (sctx X a ((a, oe) :: (X.pn ++ pins)) F) [] σ H s := by
  obtain ⟨oe, vs, he, hz, hd, nl, nf, nb⟩ := g.apart
  exact ⟨oe, hz, ⟨vs, hd⟩, nb, he, fun F => Inv.unwish (X := sctx X a _ F) (E := fun _ _ => False) (g.here.suite he hd g.na nl nf)⟩
theorem name_ld {x : Str} {v : Value} {np : Pos} {pn : List (Addr × Obj)} {Q E : Value → Shared → Prop} (I : Inv (X.suite a pn) [] σ H s) (hc : Names X x v) (q : Q v s) : wpAny (model X.prog X.w) (X.A.mark (some (.ref a))) (eval (.Name x np) X.env) Q E s :=
  match hc with
  | ⟨g, dbg, .inl m⟩ => ld_glob (X := X.suite a pn) I g m q dbg
  | ⟨g, dbg, .inr ⟨m, v, nn⟩⟩ => ld_blt (X := X.suite a pn) I g m v q nn dbg
theorem names_ld {es : List Expr} {cs : List Value} {pos : Pos} {pn : List (Addr × Obj)} {E : Value → Shared → Prop} (I : Inv (X.suite a pn) [] σ H s) (hn : NsL X es cs) : ∀ {Q : List Value → Shared → Prop}, Q cs s → wpAny (model X.prog X.w) (X.A.mark (some (.ref a))) (spliced (backTo pos (starEach es X.env))) Q E s := by
  induction hn with
  | nil => exact fun q => wpAny_items_nil q
  | cons hc _ ih => exact fun q => wpAny_items_cons (name_ld I hc (ih q))
theorem Test.run {te : Expr} {ans : Value → Option Bool} {b : Bool} {G : Bool → Shared → Prop} {E1 E2 : Value → Shared → Prop} (t : Test X te ans) (k : Kind Z) (g : Got Z X B sI pins σ H c d a s) (hb : ans c = some b)
    (q : ∀ h', Got Z X B sI pins σ H c d a { s with heap := h' } → G b { s with heap := h' }) :
    wpAny (model X.prog X.w) (X.A.mark (some (.ref a))) (eval te X.env) (fun v s₁ => wpAny (model X.prog X.w) (X.A.mark (some (.ref a))) (excMatches (.ref a) v) G E2 s₁) E1 s := by
  obtain ⟨oe, hz, -, -, he, J⟩ := g.suite
  have I := J fun _ _ => False
  have ty : PySem.W.Looks (model X.prog X.w) s.heap (typeOf (.ref a)) c := (k.zc hz).1 ▸ lk_type he
  cases t with
  | one hc => exact name_ld I hc ((PySem.W.exm_one I.kIn ty hb).here (q _ g))
  | @tup es cs n np hn z =>
    refine wpAny_Tuple (names_ld I hn ⟨by have := sizeLine_eq; omega, ?_⟩)
    have more : ∀ b o, s.heap.get? b = some o → (s.heap.push { cls := .type "tuple", data := .seq cs.toArray }).get? b = some o := fun b o e => Heap.get?_push_of_some _ e
    have at_ := Heap.get?_push_size s.heap (o := { cls := .type "tuple", data := .seq cs.toArray }) rfl
    have fin := q _ (g.grow { cls := .type "tuple", data := .seq cs.toArray })
    match cs, z, hb with
    | [_, _], _, hb => exact (PySem.W.exm_tup2 (I.kIn.keeps more) (ty.keeps more) at_ hb).here fin
    | [_, _, _], _, hb => exact (PySem.W.exm_tup3 (I.kIn.keeps more) (ty.keeps more) at_ hb).here fin
    | [_, _, _, _], _, hb => exact (PySem.W.exm_tup4 (I.kIn.keeps more) (ty.keeps more) at_ hb).here fin
end
end ZT
namespace Z
open PySem PySem.Spec PyProof.Rows L2
end Z
namespace L2H
open PySem PySem.Spec PyProof.Rows L2 HotX
end L2H
namespace Z
open PySem PySem.Spec PyProof.Rows L2
end Z
namespace Z
open PySem PySem.Spec PyProof.Rows L2
/-- x(.., k = v ..): n places, the names ks; gK π puts them, and the defaults mz, in the parameters' order -/
structure DefN (P : Program) (w : World) (K : PySem.W.Frag) (mg : Str → Option Value) (base : Heap) (x : Str) (ps : List Str) (n : Nat) (ks : List Str) (π : List (Bool × Nat)) (mz : List V) (k : Nat) (sp : Sp) : Prop where
  ex : ∃ f fd g, FnOk P w K mg base (L2.CX P w) k f fd ps sp ∧ mg x = some (.ref f) ∧ PySem.W.keepIn K (.ref f) = true ∧ KBn K fd ps n ks g (fun vs zs => gK π vs mz zs)
end Z
namespace Z
open PySem PySem.Spec PyProof.Rows L2
section
variable {K : PySem.W.Frag} {μ : M} {Φ : D → M → Prop} {a : Addr} {cls : Value} {d : Option Addr}
theorem clsV_refs {H : Hp} : ∀ {Cs : List Addr} {vs : List V}, Rels K H vs (Cs.map Z.D.ref) → Paired ClsV vs (Cs.map Value.ref)
  | [], [], .nil => .nil
  | C :: Cs, v :: vs, .cons r rr => by
    cases r
    exact .cons (.own C) (clsV_refs rr)
end
end Z
namespace Z
open PySem
theorem kit_cls {K : PySem.W.Frag} {S C : Addr} {b : Bool} (h2 : PySem.W.isClsIn K C = true) (h3 : PySem.W.typeIn K (.ref C) = some (.type "type")) (h4 : PySem.W.subIn K (.ref S) (.ref C) = some b) : PySem.W.kitCls K (.ref S) (.ref C) = some b := by
  have e2 : ((PySem.W.clsIn K C).isSome && PySem.W.typeIn K (.ref C) == some (.type "type")) = true := by
    have h5 : (PySem.W.clsIn K C).isSome = true := h2
    rw [h5, h3] <;> rfl
  show (if ((PySem.W.clsIn K C).isSome && PySem.W.typeIn K (.ref C) == some (.type "type")) = true then PySem.W.subIn K (.ref S) (.ref C) else none) = some b
  rw [if_pos e2]
  exact h4
theorem kit_own {K : PySem.W.Frag} {S C : Addr} {b : Bool} (hs : PySem.W.subIn K (.ref S) (.ref S) = some true) (h2 : PySem.W.isClsIn K C = true) (h3 : PySem.W.typeIn K (.ref C) = some (.type "type")) (h4 : PySem.W.subIn K (.ref S) (.ref C) = some b) : PySem.W.kitOne K (.ref S) (.ref C) = some b := by
  unfold PySem.W.kitOne
  split
  · rename_i e
    have : S = C := Value.ref.inj (beq_iff_eq.mp e)
    subst this
    rw [hs] at h4
    exact h4
  · exact kit_cls h2 h3 h4
theorem kit_bt {K : PySem.W.Frag} {S : Addr} {n : String} {b : Bool} (hm : PySem.W.kitMeta n = true) (h4 : PySem.W.subIn K (.ref S) (.type n) = some b) : PySem.W.kitOne K (.ref S) (.type n) = some b := by
  unfold PySem.W.kitOne
  rw [if_neg (by simp)]
  show (if PySem.W.kitMeta n = true then PySem.W.subIn K (.ref S) (.type n) else none) = some b
  rw [if_pos hm]
  exact h4
end Z
namespace LK
open PySem PySem.Spec PyProof.Rows L2 LamX NdefX PySem.W
section
variable {prog : Program} {w : World} {A : Around} {E : Value → Shared → Prop} {s : Shared} {a kS : Addr} {b : Bool} {vs : List Value} {e1 : Nat} {P : PySem.Fin → Shared → Prop} {kz : List PyData} {f : Value}
/-- what is asked of the word: the calls keep it, the two lists of the sort may change under it -/
structure Wd (prog : Program) (w : World) (A : Around) (f : Value) (kS a : Addr) (vs : List Value) (kz : List PyData) (G : List Value → Shared → Prop) : Prop where
  turn : ∀ (us : List Value) (v : Value) (s' : Shared), vs[us.length]? = some v → G us s' → wpAny (model prog w) A (call f [v]) (fun u s2 => G (us ++ [u]) s2 ∧ ∀ c o, c = kS ∨ c = a → s'.heap.get? c = some o → s2.heap.get? c = some o) (fun _ _ => False) s'
  push : ∀ (us : List Value) (s' : Shared) (h' : Heap) (tk : Nat), G us s' → (∀ c o, c ≠ kS → s'.heap.get? c = some o → h'.get? c = some o) → (∃ o, h'.get? kS = some o) → G us { s' with heap := h', toks := tk }
  reads : ∀ (us : List Value) (s' : Shared), us.length = vs.length → G us s' → EachIs (fun v k => ∃ as, Reads s'.heap v k as) us kz
theorem rest_g {G : List Value → Shared → Prop} (X : Wd prog w A f kS a vs kz G) (g0 : G [] s) (nk : s.heap.get? kS = some (seqObj "list" #[] 0)) (na : s.heap.get? a = some (seqObj "list" #[] e1)) (hka : kS ≠ a)
    (hlen : kz.length = vs.length) (hZ : vs.length ≤ sizeLine) (hal : AllAlike kz) (hsk : Sortable kz) (hu : ∀ d, d ∈ kz → A.units + d.depth < cLine)
    (fin : ∀ (us : List Value) (s' : Shared) (h' : Heap) (tk : Nat) (out : List Value) (c : Nat), us.length = vs.length → G us s' → (∀ d o, d ≠ kS → d ≠ a → s'.heap.get? d = some o → h'.get? d = some o) →
      h'.get? a = some (seqObj "list" (List.toArray out) c) → KeyedOut b kz vs out → P (.done (.ret .none)) { s' with heap := h', toks := tk }) :
    wpAny (model prog w) A (ksk_rest a f b vs.toArray e1 (.ref kS)) P E s := by
  unfold ksk_rest
  refine wpAny_bind (wpAny_rule ?_)
  first | rw [List.forIn_toArray] | (rw [← Array.forIn_toList]; simp only [List.toList_toArray])
  refine wpAny_bind (ksk_fold (fun i s' => ∃ (us : List Value) (e : Nat), us.length = i ∧ G us s' ∧ s'.heap.get? kS = some (seqObj "list" us.toArray e) ∧ s'.heap.get? a = some (seqObj "list" #[] e1)) vs 0 s ⟨[], 0, rfl, g0, nk, na⟩ ?one ?all)
  case one =>
    rintro j x s1 hx ⟨us, e, hl, g, k1, k2⟩
    have hj : j < vs.length := (List.getElem?_eq_some_iff.mp hx).1
    refine wpAny_bind (wpAny_attempt (wpAny_mono (X.turn us x s1 (by rw [hl, Nat.zero_add]; exact hx) g) (fun v s2 hv => ?_) fun _ _ hF => hF.elim))
    obtain ⟨g2, kp⟩ := hv
    have m1 := kp kS _ (.inl rfl) k1
    have m2 := kp a _ (.inr rfl) k2
    try dsimp only
    have sb := Heap.SameBut.update s2.heap kS (Obj.mapSeq (·.push v))
    obtain ⟨c2, hc2⟩ : ∃ c2, (s2.heap.update kS (Obj.mapSeq (·.push v))).get? kS = some (seqObj "list" (us.toArray.push v) c2) := ⟨_, get?_update_seq m1 (·.push v)⟩
    have hz : us.toArray.size ≤ vs.length := by
      rw [List.size_toArray]
      omega
    refine wpAny_bind (listUpdate_at m1 rfl ?_ (Nat.le_trans hz hZ) (Nat.le_trans (Nat.le_of_eq (Array.size_push ..)) (Nat.succ_le_succ (Nat.le_trans hz hZ))))
    refine wpAny_pure ⟨rfl, us ++ [v], c2, by rw [List.length_append, hl]; rfl, ?_, ?_, (sb.2 a hka.symm).trans m2⟩
    · exact X.push (us ++ [v]) s2 _ _ g2 (fun c o hc q => (sb.2 c hc).trans q) ⟨_, hc2⟩
    · have e2 : (us ++ [v]).toArray = us.toArray.push v := by simp
      rw [e2]
      exact hc2
  case all =>
    rintro s1 ⟨us, e, hl, g, k1, k2⟩
    rw [Nat.zero_add] at hl
    have rd := X.reads us s1 hl g
    try dsimp only
    refine wpAny_bind (listItems_at k1 rfl ?_)
    have old : KeepsBut a (hidT s1.heap fun c => if c = kS then some (.lst []) else none) s1.heap := fun c o _ q => (of_hidT q).1
    have hid : (hidT s1.heap fun c => if c = kS then some (.lst []) else none).get? kS = none := by
      cases q : (hidT s1.heap fun c => if c = kS then some (.lst []) else none).get? kS with
      | none => rfl
      | some o =>
        have z := (of_hidT q).2
        simp at z
    have sz : us.toArray.size = vs.length := by rw [List.size_toArray]; exact hl
    have rd2 : EachIs (fun v k => ∃ as, Reads s1.heap v k as) us.toArray.toList kz := by simpa using rd
    refine keyH_end (κ := dataKind s1.heap kz) old hid k1 k2 hka (SortsAt.data (s := s1) rd2 hal hsk hu) sz hZ fun h3 tk3 c k3 n3 => ?_
    exact fin us s1 h3 tk3 _ c hl g (fun d o d1 d2 q => k3 d o d2 (hidT_get q (if_neg d1))) n3 ⟨s1.heap, us.toArray.toList, hal, rfl, rd2⟩
/-- the list's own sort -/
theorem tree_g {n : Nat} (ho : s.heap.get? a = some (seqObj "list" vs.toArray n)) (hlen : kz.length = vs.length) (hZ : vs.length ≤ sizeLine) (hal : AllAlike kz) (hsk : Sortable kz) (hu : ∀ d, d ∈ kz → A.units + d.depth < cLine)
    (step : ∀ (kS : Addr) (h1 : Heap), s.heap.objs.size ≤ kS → (∀ c o, c ≠ a → s.heap.get? c = some o → h1.get? c = some o) → h1.get? kS = some (seqObj "list" #[] 0) → (∃ o, h1.get? a = some o) → ∃ G : List Value → Shared → Prop, Wd prog w A f kS a vs kz G ∧ G [] { s with heap := h1 } ∧
      ∀ (us : List Value) (s' : Shared) (h' : Heap) (tk : Nat) (out : List Value) (c : Nat), us.length = vs.length → G us s' → (∀ d o, d ≠ kS → d ≠ a → s'.heap.get? d = some o → h'.get? d = some o) →
        h'.get? a = some (seqObj "list" (List.toArray out) c) → KeyedOut b kz vs out → P (.done (.ret .none)) { s' with heap := h', toks := tk }) :
    wpAny (model prog w) A (ksk_tree a f b) P E s := by
  have sb := Heap.SameBut.update s.heap a (Obj.mapSeq fun _ => (#[] : Array Value))
  have ho1 := get?_update_seq ho fun _ => (#[] : Array Value)
  have z1 : ((s.heap.update a (Obj.mapSeq fun _ => (#[] : Array Value))).push (seqObj "tuple" vs.toArray 0)).objs.size = s.heap.objs.size + 1 := by rw [size_push', Heap.size_update]
  have small : vs.toArray.size ≤ sizeLine := (List.size_toArray ..).symm ▸ hZ
  unfold ksk_tree
  refine wpAny_bind (listItems_at ho rfl (wpAny_bind (listUpdate_at ho rfl (wpAny_bind (seqEpoch_at ho1 rfl (wpAny_bind (wpAny_newTuple (wpAny_bind (wpAny_newList (wpAny_holding ?_) (Nat.zero_le _))) small)))) small (Nat.zero_le _))))
  obtain ⟨G, X, g0, fin⟩ := step ((s.heap.update a (Obj.mapSeq fun _ => (#[] : Array Value))).push (seqObj "tuple" vs.toArray 0)).objs.size _ (by rw [z1]; exact Nat.le_succ _)
    (fun c o hc q => Heap.get?_push_of_some _ (Heap.get?_push_of_some _ ((sb.2 c hc).trans q))) (Heap.get?_push_size _ rfl) ⟨_, Heap.get?_push_of_some _ (Heap.get?_push_of_some _ ho1)⟩
  exact rest_g X g0 (Heap.get?_push_size _ rfl) (Heap.get?_push_of_some _ (Heap.get?_push_of_some _ ho1)) (by rw [z1]; exact Nat.ne_of_gt (Nat.lt_succ_of_lt (Heap.lt_size ho))) hlen hZ hal hsk hu fin
end
end LK
namespace LK
open PySem PySem.Spec PyProof.Rows L2 LamX NdefX PySem.W
/-- the object of a lambda -/
def LmO (f : Addr) (q : Str) (params : Arguments) (body : Expr) (scope : Scope) (cl : List (Str × Addr)) (c' : Addr) : HO := .ext fun h => ∃ pm ctv : Value, h.get? f = some (kla_obj "<lambda>" q params body scope cl pm c' ctv)
/-- the table at P: what it tells bears the name q -/
def TabX (H : Hp) (P : Addr) (q : Str) : Prop := ∃ ps : Array Value, H P = some (.tbl ps) ∧ TriplesOk ps.toList ∧ ∀ (pos : Pos) (cv : Value), codeAmong pos ps.toList = some cv → ∃ c, cv = .ref c ∧ H c = some (CodeO c q)
/-- all but the table at P stays -/
def KeepX (P : Addr) (H H' : Hp) : Prop := ∀ b o, b ≠ P → H b = some o → H' b = some o
/-- the reading of a lambda's making -/
def tLam1 (P : Addr) (q : Str) (mk : Addr → Addr → HO) : TE := fun σ H Q => TabX H P q ∧ ∀ f c' H1, KeepX P H H1 → TabX H1 P q → H1 f = some (mk f c') → H1 c' = some (CodeO c' q) → Q (.ref f) H1
theorem codeO_tbl {c : Addr} {q : Str} {ps : Array Value} (h : CodeO c q = .tbl ps) : False := by
  unfold CodeO at h
  cases h
section
variable {X : Cx}
theorem lam_put {pins : List (Addr × Obj)} {σ : L2.St} {H : Hp} {s : Shared} {params : Arguments} {body : Expr} {scope : Scope} {cl : List (Str × Addr)} {q : Str} {pm ctv : Value} {c' : Addr} {t' : Nat} (I : Inv X pins σ H s) :
    Inv X pins σ (upd H s.heap.objs.size (LmO s.heap.objs.size q params body scope cl c')) { s with heap := s.heap.push (kla_obj "<lambda>" q params body scope cl pm c' ctv), toks := t' } := by
  refine I.laid (a := s.heap.objs.size) (fun b u e => Heap.get?_push_of_some _ e) (Nat.le_refl _) ?_
  have e := Heap.get?_push_size s.heap (o := kla_obj "<lambda>" q params body scope cl pm c' ctv) rfl
  exact ⟨⟨pm, ctv, e⟩, ⟨_, e⟩, fun h1 h2 ⟨a, b, z⟩ st => ⟨a, b, st _ z⟩⟩
theorem pe_lam {c P : Addr} {params : Arguments} {body : Expr} {scope : Scope} {pos : Pos} (TB : TabB X.base X.mg c P) (hcode : X.env.code = .ref c) (hdef : defaultsOf params X.env = ([], []))
    (hfree : ∀ y ∈ scope.names, y.2 = .free → X.env.scope.names.lookup y.1 = some .cell ∨ X.env.scope.names.lookup y.1 = some .free) :
    PE X (.Lambda params body scope pos) (tLam1 P (X.env.qual ++ "<lambda>") fun f c' => LmO f (X.env.qual ++ "<lambda>") params body scope (cloFrom X.env.cells scope.names []) c') := by
  refine ⟨fun pins s σ H Q I ⟨⟨ps, hP, ht, ha⟩, h⟩ => kla_eval hdef ?_⟩
  have bP : s.heap.BuiltinsAt X.mg P := TB.bm.keeps I.bk
  have oP : s.heap.get? P = some { cls := .none, data := .fields ps } := I.hok P _ hP
  have cl_ok : ∀ y ∈ scope.names, y.2 = .free → ∃ c, X.env.cells.lookup y.1 = some c := fun y hy e => (hfree y hy e).elim (fun z => I.ok.has _ (.inl z)) fun z => I.ok.has _ (.inr z)
  cases hc : codeAmong pos ps.toList with
  | some cv =>
    obtain ⟨c', e, hco⟩ := ha pos cv hc
    subst e
    refine kla_makeFunctionHit (mg := X.mg) (c := c) (P := P) (ps := ps) (closure_ok cl_ok) I.ok.glob (I.mod.glob.keeps I.bk) hcode (TB.code.keeps I.bk) oP ht hc bP fun ctv h1 tk hx _ => ?_
    have I1 : Inv X pins σ H { s with heap := h1, toks := tk } := I.kept hx
    have I2 := lam_put (q := X.env.qual ++ "<lambda>") (params := params) (body := body) (scope := scope) (cl := cloFrom X.env.cells scope.names []) (pm := (X.mg "__name__").getD .none) (ctv := ctv) (c' := c') (t' := tk) I1
    have nF : H h1.objs.size = none := I1.hok.fresh (Nat.le_refl _)
    refine ⟨.ref _, _, I2, rfl, h _ c' _ (fun b o _ e => (upd_ne (ne_of_none e nF)).trans e) ⟨ps, (upd_ne (ne_of_none hP nF)).trans hP, ht, fun p2 cv2 q2 => ?_⟩ upd_same ((upd_ne (ne_of_none hco nF)).trans hco)⟩
    obtain ⟨c0, e1, e2⟩ := ha p2 cv2 q2
    exact ⟨c0, e1, (upd_ne (ne_of_none e2 nF)).trans e2⟩
  | none =>
    refine kla_makeFunction (mg := X.mg) (c := c) (P := P) (ps := ps) (closure_ok cl_ok) I.ok.glob (I.mod.glob.keeps I.bk) hcode (TB.code.keeps I.bk) oP ht hc TB.gP bP fun c' ctv h1 tk hx hge hlt hrec htb => ?_
    obtain ⟨c2, oc, vs, t, e2, hoc, hd, hv⟩ := hrec
    cases e2
    have nC : H c' = none := I.hok.fresh hge
    have PnC : P ≠ c' := ne_of_none hP nC
    have I1 := inv_table (t' := tk) (more := #[rawInt pos.line, rawInt pos.col, .ref c']) (h' := h1) I hP (fun b o hb e => hx b o hb e) htb hge ⟨oc, vs, t, hoc, hd, hv⟩
    have I2 := lam_put (q := X.env.qual ++ "<lambda>") (params := params) (body := body) (scope := scope) (cl := cloFrom X.env.cells scope.names []) (pm := (X.mg "__name__").getD .none) (ctv := ctv) (c' := c') (t' := tk) I1
    have nF := I1.hok.fresh (Nat.le_refl _)
    have step : KeepX P H (upd (upd H P (.tbl (ps ++ #[rawInt pos.line, rawInt pos.col, .ref c']))) c' (CodeO c' (X.env.qual ++ "<lambda>"))) := fun b o hb e => by
      rw [upd_ne (ne_of_none e nC), upd_ne hb]
      exact e
    have atP : (upd (upd H P (.tbl (ps ++ #[rawInt pos.line, rawInt pos.col, .ref c']))) c' (CodeO c' (X.env.qual ++ "<lambda>"))) P = some (.tbl (ps ++ #[rawInt pos.line, rawInt pos.col, .ref c'])) := by rw [upd_ne PnC, upd_same]
    have el : (ps ++ #[rawInt pos.line, rawInt pos.col, .ref c']).toList = ps.toList ++ [rawInt pos.line, rawInt pos.col, .ref c'] := by simp
    refine ⟨.ref _, _, I2, rfl, h _ c' _ (fun b o hb e => (upd_ne (ne_of_none (step b o hb e) nF)).trans (step b o hb e)) ⟨_, (upd_ne (ne_of_none atP nF)).trans atP, by rw [el]; exact TriplesOk_snoc _ _ _ _ ht, fun p2 cv2 q2 => ?_⟩ upd_same ((upd_ne (ne_of_none upd_same nF)).trans upd_same)⟩
    rw [el] at q2
    rcases among_app2 _ ht q2 with z | ⟨z, _, _⟩
    · obtain ⟨c0, e1, e2⟩ := ha p2 cv2 z
      have nP0 : c0 ≠ P := fun y => by
        rw [y, hP] at e2
        exact codeO_tbl (Option.some.inj e2).symm
      exact ⟨c0, e1, (upd_ne (ne_of_none (step _ _ nP0 e2) nF)).trans (step _ _ nP0 e2)⟩
    · exact ⟨c', z, (upd_ne (ne_of_none upd_same nF)).trans upd_same⟩
end
section
variable {CX : CXT} {P : Program} {w : World} {K : PySem.W.Frag} {mg : Str → Option Value} {base : Heap} {N ps fr : List Str} {F : NF} {f : Addr} {k : Nat}
/-- a lambda called -/
theorem lam_run {body : Expr} {A : Around} {outer : List Env} {s : Shared} {H : Hp} {us : List Value} {vs : List V} {ws : List (Option V)} {Q : VK} {E : XK} {tb : TE} (S : NScope N ps fr F.scope)
    (hb : ∀ (pm ctv : Value) (us : List Value), us.length = ps.length → bindArgs (kla_fn "<lambda>" F.qual F.params body F.scope F.cl pm (.ref F.c) ctv) ⟨us, []⟩ = pure (ps.zip us))
    (hr : Room (k + 1) A) (e0 : Env0 P w K mg base A outer s H) (hf : H f = some (LmO f F.qual F.params body F.scope F.cl F.c)) (hc : H F.c = some (CodeO F.c F.qual)) (C : CellsAt F.cl fr ws s.heap H) (r : Vals vs us) (hl : vs.length = ps.length)
    (hbody : Room k (A.deeper (envF F f s.heap.objs.size)) → PE (ncx CX P w K mg base N F f A outer s H E) body tb) (hq : tb (startF N vs ws) H Q) :
    codeAny (model P w) A (.call (.ref f) ⟨us, []⟩) (CR CX outer P w H s Q E) s := by
  have lim : s.heap.NoLimit := e0.mod.nolimit.keeps fun b o e => (e0.bs b o e).1
  obtain ⟨⟨pm, ctv, ho⟩, _, _⟩ := e0.hok f _ hf
  refine kla_callFunE hr.depth ho rfl S.co S.gen rfl (codeO_at e0.hok hc) ?_
  rw [hb pm ctv us (by rw [← r.length]; exact hl)]
  refine wpAny_pure (wpAny_newFunctionEnv S.nocell (fun ⟨n, _⟩ hy => S.par n (List.of_mem_zip hy).1) (fun h₁ hns hsb => ⟨lim.fresh _ hsb, ?_⟩) S.kind)
  show codeAny _ _ (.expr body (envF F f s.heap.objs.size)) _ _
  have kp : ∀ b o, s.heap.get? b = some o → h₁.get? b = some o := fun b o e => hsb.extBut b o (Nat.ne_of_lt (Heap.lt_size e)) (Heap.get?_push_of_some _ e)
  have I : Inv (ncx CX P w K mg base N F f A outer s H E) [] (startF N vs ws) H { s with heap := h₁, toks := s.toks + (ps.zip us).length } := inv_startN S hr.hd e0 hl r C hns kp
  refine kla_codeExpr (wpAny_mono ((hbody (hr.deeper _)).run [] _ (startF N vs ws) H Q I hq) (fun v s' hv => ?_) fun e s' he => he)
  obtain ⟨w', H', J, rv, q⟩ := hv
  exact ⟨w', H', J.os, J.bare, J.base, J.hok, rv, q⟩
end
/-- J: what holds while the keys are made -/
def rSortL (K : PySem.W.Frag) (q : Str) (mk : Addr → Addr → HO) (N : List Str) (js : List Nat) (tb : TE) (σ : L2.St) : List V → List V → Hp → VK → Prop := fun xs zs H Q => ∃ (a f c' : Addr) (vs : List V) (J : List V → Hp → Prop) (kz : List PyData),
  xs = [.ref a] ∧ zs = [.ref f] ∧ SqL K H a vs ∧ H f = some (mk f c') ∧ H c' = some (CodeO c' q) ∧ kz.length = vs.length ∧ AllAlike kz ∧ Sortable kz ∧ (∀ k ∈ kz, k.depth ≤ 8) ∧ J [] H ∧
  (∀ ks H2, J ks H2 → H2 f = some (mk f c') ∧ H2 c' = some (CodeO c' q)) ∧ (∀ ks H2 v, vs[ks.length]? = some v → J ks H2 → tb (startF N [v] (js.map (slotAt σ))) H2 fun k H3 => J (ks ++ [k]) H3) ∧
  ∀ ks H2, ks.length = vs.length → J ks H2 → Paired (Dp K H2) ks kz ∧ ∀ p, H2 p = none → Q (.ref p) (upd H2 p (.lst (((vs.zip kz).mergeSort (dataLe false (·.2))).map (·.1))))
/-- the whole -/
def tSortL (K : PySem.W.Frag) (P : Addr) (q : Str) (mk : Addr → Addr → HO) (N : List Str) (js : List Nat) (tb : TE) (tl : TE) : TE := fun σ H Q => tCons tl tNil σ H fun xs H0 => tCons (tLam1 P q mk) tNil σ H0 fun zs H1 => rSortL K q mk N js tb σ xs zs H1 Q
theorem each_by {α β γ : Type} {R : α → β → Prop} (f : γ → α) : ∀ {bs : List γ} {us : List β}, Paired R (bs.map f) us → EachIs (fun u b => R (f b) u) us bs
  | [], [], .nil => .nil
  | _ :: _, _ :: _, .cons a b => .cons a (each_by f b)
theorem zip_fst : ∀ {vs : List V} {kz : List PyData}, kz.length = vs.length → (vs.zip kz).map (·.1) = vs ∧ (vs.zip kz).map (·.2) = kz
  | [], [], _ => ⟨rfl, rfl⟩
  | v :: vs, k :: kz, h => by
    obtain ⟨h1, h2⟩ := zip_fst (vs := vs) (kz := kz) (by simpa using h)
    exact ⟨by rw [List.zip_cons_cons, List.map_cons, h1], by rw [List.zip_cons_cons, List.map_cons, h2]⟩
  | [], _ :: _, h => by simp at h
  | _ :: _, [], h => by simp at h
theorem reads_of {X : Cx} {pins : List (Addr × Obj)} {σ : L2.St} {H : Hp} {s : Shared} (I : Inv X pins σ H s) : ∀ {ks : List V} {us : List Value} {kz : List PyData}, Paired (Dp X.K H) ks kz → Vals ks us → EachIs (fun v k => ∃ as, Reads s.heap v k as) us kz
  | [], [], [], .nil, .nil => .nil
  | _ :: _, _ :: _, _ :: _, .cons a b, .cons r rs => .cons (Dp.reads I _ _ _ a r) (reads_of I b rs)
section
variable {X : Cx}
/-- the frame's own objects lie below -/
theorem low {pins : List (Addr × Obj)} {σ : L2.St} {H : Hp} {s : Shared} (I : Inv X pins σ H s) {b : Addr} (h : s.heap.objs.size ≤ b) :
    (b ∈ X.ex ∨ X.s_0.heap.objs.size ≤ b) ∧ b ≠ X.env.locals ∧ (∀ x c, X.env.cells.lookup x = some c → c ≠ b) ∧ ∀ p ∈ X.pn ++ pins, p.1 ≠ b := by
  refine ⟨.inr (Nat.le_trans I.sz h), Nat.ne_of_gt (Nat.lt_of_lt_of_le I.lt h), fun x c e => ?_, fun p hp => ?_⟩
  · obtain ⟨v, o, ho, _⟩ := I.cell x c e
    exact Nat.ne_of_lt (Nat.lt_of_lt_of_le (Heap.lt_size ho) h)
  · exact Nat.ne_of_lt (Nat.lt_of_lt_of_le (Heap.lt_size (I.pin p hp).1) h)
theorem sort_call {pins : List (Addr × Obj)} {σ : L2.St} {H : Hp} {s : Shared} {us ws : List Value} {xs zs : List V} {Q : VK} {N ps fr : List Str} {js : List Nat} {params : Arguments} {body : Expr} {scope : Scope} {q : Str} {cl : List (Str × Addr)} {k : Nat} {tb : TE}
    (S : NScope N ps fr scope) (hp1 : ps.length = 1) (hb : ∀ (c' : Addr) (pm ctv : Value) (us : List Value), us.length = ps.length → bindArgs (kla_fn "<lambda>" q params body scope cl pm (.ref c') ctv) ⟨us, []⟩ = pure (ps.zip us)) (cp : X.Ok → Caps X cl fr js)
    (hr : Room (k + 3) X.A)
    (hbody : ∀ (f c' : Addr) (s : Shared) (H : Hp), Room k (X.A.in1.in1.deeper (envF ⟨"<lambda>", q, params, [], scope, cl, c'⟩ f s.heap.objs.size)) → PE (ncx CX0 X.prog X.w X.K X.mg X.base N ⟨"<lambda>", q, params, [], scope, cl, c'⟩ f X.A.in1.in1 X.stack s H fun _ _ _ => False) body tb)
    (I : Inv X pins σ H s) (r : Vals xs us) (rz : Vals zs ws) (h : rSortL X.K q (fun f c' => LmO f q params body scope cl c') N js tb σ xs zs H Q) :
    wpAny (model X.prog X.w) X.A (call (.builtin "sorted") us ((["key"] : List Str).zip ws)) (EP X pins σ Q) X.xe s := by
  obtain ⟨a, f, c', vs, J, kz, rfl, rfl, hs, hf, hc, hkl, hal, hsk, hde, j0, jk, jt, jd⟩ := h
  rw [Vals.ref1 r, Vals.ref1 rz]
  obtain ⟨its, rv, hl, hz⟩ := I.list hs
  obtain ⟨z1, z2⟩ := zip_fst hkl
  have lv := rv.length
  have un0 := hr.un
  refine sorted_of_sort (kw := [("key", .ref f)]) hl.isList (by rw [← lv]; exact hz) (ksk_s1 _ _) (fun x => ksk_l1 _ _) fun E' => ?_
  have eT : Builtin.«list.sort» ⟨[.ref (s.heap.objs.size + 1)], [("key", .ref f)]⟩ = ksk_tree (s.heap.objs.size + 1) (.ref f) false := ksk_t1 f _
  rw [eT]
  have fr0 : s.heap.objs.size ≤ s.heap.objs.size + 1 := Nat.le_succ _
  refine tree_g (kz := kz) (s := { s with heap := copyHeap s.heap its }) (copyHeap_at s.heap its) (by rw [hkl, lv]) (by rw [← lv]; exact hz) hal hsk (fun d hd => by have := hde d hd; show X.A.units + 1 + 1 + _ < _; omega) fun kS h1 k1 k2 k3 k4 => ?_
  have hsz : s.heap.objs.size + 1 < (copyHeap s.heap its).objs.size := Heap.lt_size (copyHeap_at s.heap its)
  have k1' : s.heap.objs.size + 1 < kS := Nat.lt_of_lt_of_le hsz k1
  have lowA := low I (b := s.heap.objs.size + 1) fr0
  have lowS := low I (b := kS) (by omega)
  refine ⟨fun us s' => ∃ ks H', Inv X pins σ H' s' ∧ Vals ks us ∧ J ks H' ∧ H' kS = none ∧ H' (s.heap.objs.size + 1) = none ∧ (∃ o, s'.heap.get? kS = some o) ∧ ∃ o, s'.heap.get? (s.heap.objs.size + 1) = some o, ⟨?turn, ?push, ?reads⟩, ?start, ?fin⟩
  case start =>
    have old : ∀ b o, s.heap.get? b = some o → h1.get? b = some o := fun b o e => k2 b o (Nat.ne_of_lt (Nat.lt_succ_of_lt (Heap.lt_size e))) (copyHeap_old e)
    exact ⟨[], H, I.kept (t' := s.toks) old, .nil, j0, I.hok.fresh (by omega), I.hok.fresh fr0, ⟨_, k3⟩, k4⟩
  case push =>
    rintro us s' h' tk ⟨ks, H', I', r', j', n1, n2, o1, ⟨o2, e2⟩⟩ keep hk
    exact ⟨ks, H', I'.turned keep n1 lowS.2.1 lowS.1 lowS.2.2.1 lowS.2.2.2, r', j', n1, n2, hk, o2, keep (s.heap.objs.size + 1) o2 (Nat.ne_of_lt k1') e2⟩
  case reads =>
    rintro us s' hul ⟨ks, H', I', r', j', _⟩
    exact reads_of I' (jd ks H' (by rw [r'.length, hul, lv]) j').1 r'
  case turn =>
    rintro us v s' hv ⟨ks, H', I', r', j', n1, n2, ⟨o1, e1⟩, ⟨o2, e2⟩⟩
    obtain ⟨f1, c1⟩ := jk ks H' j'
    obtain ⟨x, hx, rx⟩ : ∃ x, vs[us.length]? = some x ∧ RelV x v := by
      have hi : us.length < vs.length := by
        rw [lv]
        exact (List.getElem?_eq_some_iff.mp hv).1
      obtain ⟨u, e1, e2⟩ := rv.get (List.getElem?_eq_getElem hi)
      rw [e1] at hv
      cases hv
      exact ⟨_, List.getElem?_eq_getElem hi, e2⟩
    have j2 := jt ks H' x (by rw [r'.length]; exact hx) j'
    have C := cells_of I' (cp I'.ok)
    have rc := lam_run (F := ⟨"<lambda>", q, params, [], scope, cl, c'⟩) (CX := CX0) (E := fun _ _ _ => False) (k := k) S (hb c') hr.in1.in1 (I'.env0.in1).in1 f1 c1 C (.cons rx .nil : Vals [x] [v]) hp1.symm (fun hr2 => hbody f c' s' H' hr2) j2
    refine wpAny_call (codeAny_mono rc fun res s2 hq => ?_)
    cases res with
    | error e => exact (show False from hq).elim
    | ok fl =>
      cases fl with
      | next => exact False.elim hq
      | brk => exact False.elim hq
      | cont => exact False.elim hq
      | ret u =>
        obtain ⟨w1, H2, os, bare, un, hok, ru, jq⟩ := (show CE X.stack X.prog X.w H' s' _ u s2 from hq)
        have nfS : ∀ b, s.heap.objs.size ≤ b → b ∉ frs X.stack := fun b hb z => by
          rcases List.mem_cons.mp (I.stkSub _ z) with e | e
          · exact (low I hb).2.1 e
          · exact I.nofs hb e
        have keepN : ∀ c o, c = kS ∨ c = s.heap.objs.size + 1 → s'.heap.get? c = some o → s2.heap.get? c = some o ∧ H2 c = none := fun c o hc2 e => by
          have hb : s.heap.objs.size ≤ c := by rcases hc2 with z | z <;> (subst z; omega)
          have hn : H' c = none := by
            rcases hc2 with z | z
            · rw [z]; exact n1
            · rw [z]; exact n2
          exact ⟨un.keep c o e hn (nfS c hb) (by simp), un.free c o e hn (by simp)⟩
        exact ⟨⟨ks ++ [w1], H2, I'.call' os un hok bare (fun b z => absurd z (by simp)), r'.append (.cons ru .nil), jq, (keepN kS o1 (.inl rfl) e1).2, (keepN _ o2 (.inr rfl) e2).2, ⟨o1, (keepN kS o1 (.inl rfl) e1).1⟩, o2, (keepN _ o2 (.inr rfl) e2).1⟩, fun c o hc2 e => (keepN c o hc2 e).1⟩
  case fin =>
    rintro us s' h' tk out c hul ⟨ks, H', I', r', j', n1, n2, _⟩ keep na ko
    refine ⟨rfl, .ref (s.heap.objs.size + 1), upd H' (s.heap.objs.size + 1) (.lst (((vs.zip kz).mergeSort (dataLe false (·.2))).map (·.1))), ?_, rfl, (jd ks H' (by rw [r'.length, hul, lv]) j').2 _ n2⟩
    have rr : Vals (((vs.zip kz).mergeSort (dataLe false (·.2))).map (·.1)) out := by
      have ee : EachIs (fun u (b : V × PyData) => RelV b.1 u) its (vs.zip kz) := each_by (fun b : V × PyData => b.1) (by rw [z1]; exact rv)
      rw [← z2] at ko
      exact SD.vals_each (fun b : V × PyData => b.1) (keyedOut_each (fun b : V × PyData => b.2) ko ee)
    have big : (((vs.zip kz).mergeSort (dataLe false (·.2))).map (·.1)).length ≤ sizeLine := by
      rw [List.length_map, List.length_mergeSort, List.length_zip, hkl, Nat.min_self]
      exact hz
    have ne : ∀ b u, H' b = some u → b ≠ kS ∧ b ≠ s.heap.objs.size + 1 := fun b u e => ⟨fun z => (by rw [z, n1] at e; cases e), fun z => (by rw [z, n2] at e; cases e)⟩
    have off : ∀ b, b ∉ [kS, s.heap.objs.size + 1] → b ≠ kS ∧ b ≠ s.heap.objs.size + 1 := fun b hb => by
      simp only [List.mem_cons, List.not_mem_nil, or_false, not_or] at hb
      exact hb
    refine I'.step (g' := s'.gens) (d' := s'.drawn) (t' := tk) (ch := [kS, s.heap.objs.size + 1]) (fun b hb => ?_) (fun b o _ _ hc e _ => keep b o (off b hc).1 (off b hc).2 e) (fun b o _ _ hc e _ => ⟨o.slots, keep b o (off b hc).1 (off b hc).2 e⟩)
      (fun b o hc _ hn => by rw [upd_ne (off b hc).2]; exact hn) (fun b o hc e => ⟨o, keep b o (off b hc).1 (off b hc).2 e⟩) (fun b xs e => by rw [upd_ne (ne b _ e).2]; exact e) (fun b o u e => by rw [upd_ne (ne b _ e).2]; exact e)
      (fun b ps e => ⟨#[], by rw [upd_ne (ne b _ e).2, e]; simp⟩) (fun m hm => ?_) (fun b u e => ?_) I'.bare
    · simp only [List.mem_cons, List.not_mem_nil, or_false] at hb
      rcases hb with z | z
      · rw [z]; exact lowS
      · rw [z]; exact lowA
    · obtain ⟨o, es, ep, ho, z⟩ := hm
      exact ⟨o, es, ep, keep _ o (Ne.symm lowS.2.1) (Ne.symm lowA.2.1) ho, z⟩
    · by_cases hb2 : b = s.heap.objs.size + 1
      · subst hb2
        rw [upd_same] at e
        cases e
        exact ⟨big, out, c, rr, na⟩
      · rw [upd_ne hb2] at e
        refine (I'.hok b u e).stay (fun d v hd q2 => ?_) (fun d q2 => by rw [upd_ne (ne d _ q2).2]; exact q2) fun d xs q2 => by rw [upd_ne (ne d _ q2).2]; exact q2
        have dn : d ≠ kS ∧ d ≠ s.heap.objs.size + 1 := by
          rcases hd with z | z
          · rw [z]; exact ne b u e
          · exact ne d _ z
        exact keep d v dn.1 dn.2 q2
end
end LK
namespace LK
open PySem PySem.Spec PyProof.Rows L2 LamX NdefX PySem.W
theorem pe_sortL {X : Cx} {K : PySem.W.Frag} {N ps fr : List Str} {js : List Nat} {params : Arguments} {body : Expr} {scope : Scope} {c P : Addr} {k : Nat} {tb tl : TE} {e : Expr} {p pos lpos kpos : Pos} (h : X.K = K) (hg : Gl X "sorted") (hm : X.mg "sorted" = none) (TB : TabB X.base X.mg c P) (hcode : X.env.code = .ref c)
    (hr : Room (k + 3) X.A) (S : NScope N ps fr scope) (hp1 : ps.length = 1) (hfr : ndefB X.env.scope scope fr = true) (hjs : js.map (fun j => X.N[j]?) = fr.map some) (hdef : defaultsOf params X.env = ([], []))
    (hb : ∀ (q : Str) (cl : List (Str × Addr)) (c' : Addr) (pm ctv : Value) (us : List Value), us.length = ps.length → bindArgs (kla_fn "<lambda>" q params body scope cl pm (.ref c') ctv) ⟨us, []⟩ = pure (ps.zip us)) (ha : PE X e tl)
    (hbody : ∀ (f c' : Addr) (s : Shared) (H : Hp), Room k (X.A.in1.in1.deeper (envF ⟨"<lambda>", X.env.qual ++ "<lambda>", params, [], scope, cloFrom X.env.cells scope.names [], c'⟩ f s.heap.objs.size)) →
      PE (ncx CX0 X.prog X.w X.K X.mg X.base N ⟨"<lambda>", X.env.qual ++ "<lambda>", params, [], scope, cloFrom X.env.cells scope.names [], c'⟩ f X.A.in1.in1 X.stack s H fun _ _ _ => False) body tb)
    (he : backTo pos (starEach [e] X.env) = (false, eval e X.env) :: backTo pos (starEach [] X.env) := by rfl) (hs : starEach [e] X.env = (false, eval e X.env) :: starEach [] X.env := by rfl) (hpl : (backTo pos (starEach [e] X.env)).any (·.1) = false := by rfl) :
    PE X (.Call (.Name "sorted" p) [e] [⟨some "key", .Lambda params body scope lpos, kpos⟩] pos) (tSortL K P (X.env.qual ++ "<lambda>") (fun f c' => LmO f (X.env.qual ++ "<lambda>") params body scope (cloFrom X.env.cells scope.names []) c') N js tb tl) := by
  subst h
  have hfree := ndef_free hfr
  refine ⟨fun pins s σ H Q I h => ?_⟩
  refine wpAny_Call_Name_kw (ld_blt I hg hm (by rfl) ?_ (by decide) (by decide))
  have pa : PA X [e] (tCons tl tNil) := pa_cons ha pa_nil hs
  have pk : PK X [⟨some "key", .Lambda params body scope lpos, kpos⟩] (tCons (tLam1 P (X.env.qual ++ "<lambda>") fun f c' => LmO f (X.env.qual ++ "<lambda>") params body scope (cloFrom X.env.cells scope.names []) c') tNil) := pk_cons (pe_lam TB hcode hdef hfree) pk_nil
  refine PyProof.Rows.callWith_kw (thn (pa.run pos pins s σ H _ I h) fun us s1 ⟨xs, H1, I1, r1, q1⟩ => thn (pk.run pos pins s1 σ H1 _ I1 q1) fun ws s2 ⟨zs, H2, I2, r2, q2⟩ => ?_) he hpl (by rfl) (by rfl)
  exact sort_call S hp1 (hb _ _) (fun ok => Caps.made ok hfree (ndef_fr hfr) hjs) hr hbody I2 r1 r2 q2
structure FunT (K : PySem.W.Frag) (x qual : Str) (st : Stmt) (c f : Addr) (fd : FuncData) : Prop where
  ex : ∃ (oc : Value) (od : Option Addr) (kV doc pm : Value) (an : Option Addr) (ct : Value) (osl : Array (Option Value)),
    fd = PySem.W.fnOf x qual (defArgs st) (defBody st) (defScope st) .none kV doc pm an (.ref c) ct ∧ K.lookup f = some ⟨oc, od, .func fd, osl⟩ ∧ PySem.W.codeIn K (.ref c) qual = true
  kp : PySem.W.keepIn K (.ref f) = true
section
variable {P : Program} {w : World} {K : PySem.W.Frag} {mg : Str → Option Value} {base : Heap} {x qual : Str} {st : Stmt} {c f : Addr} {fd : FuncData}
theorem FunT.ok {CX : CXT} {N ps : List Str} {k : Nat} {sp : Sp} (F : FunT K x qual st c f fd) (S : FnScope N ps (defScope st)) (len : ∀ vs H Q E, sp vs H Q E → vs.length = ps.length)
    (hbody : ∀ (A : Around) (outer : List Env) (s : Shared) (H : Hp) (vs : List V) (Q : VK) (E : XK), Room k (A.deeper (envOfC qual (defScope st) s.heap.objs.size f (.ref c))) → sp vs H Q E →
      ∃ t, PSs (cxOf CX P w K mg base N qual (defScope st) f (.ref c) A outer s H E) (defBody st) t ∧ t { nx := fun _ H' => Q .non H', rt := Q } (start N vs) H) : FnOk P w K mg base CX (k + 1) f fd ps sp := by
  obtain ⟨oc, od, kV, doc, pm, an, ct, osl, rfl, lk, hcd⟩ := F.ex
  exact fn_of lk hcd S len hbody
theorem FunT.ok0 {N ps : List Str} {k : Nat} {sp : Sp} (F : FunT K x qual st c f fd) (S : FnScope N ps (defScope st)) (len : ∀ vs H Q E, sp vs H Q E → vs.length = ps.length)
    (hbody : ∀ (A : Around) (outer : List Env) (s : Shared) (H : Hp) (vs : List V) (Q : VK) (E : XK), Room k (A.deeper (envOfC qual (defScope st) s.heap.objs.size f (.ref c))) → sp vs H Q E →
      ∃ t, PSs (cxOf CX0 P w K mg base N qual (defScope st) f (.ref c) A outer s H E).nox (defBody st) t ∧ t { nx := fun _ H' => Q .non H', rt := Q } (start N vs) H) : FnOk P w K mg base CX0 (k + 1) f fd ps sp :=
  F.ok S len fun A outer s H vs Q E hr hsp => let ⟨t, h, q⟩ := hbody A outer s H vs Q E hr hsp; ⟨t, h.nox, q⟩
theorem FunT.fn (F : FunT K x qual st c f fd) : Fun K x qual st f fd := by
  obtain ⟨oc, od, kV, doc, pm, an, ct, osl, e, lk, hcd⟩ := F.ex
  exact ⟨⟨oc, od, kV, doc, pm, an, .ref c, ct, osl, e, lk, hcd⟩, F.kp⟩
end
end LK
namespace Z
open PySem L2 LK PySem.W
section
variable {K : PySem.W.Frag} {τ : T} {μ μ1 μ2 : M} {H H1 H2 : Hp} {σ : L2.St} {Φ : D → M → Prop} {tl tb : TE}
def slotD (τ : T) (j : Nat) : Option D := match τ[j]? with
  | some o => o
  | none => none
/-- sorted by a key -/
def srtBy (key : D → D) (ds : List D) : List D := ds.mergeSort (dataLe false fun d => D.py (key d))
theorem tab_of {P : Addr} {q : Str} (c : Con K H μ) (h : μ P = some (.tab q)) : TabX H P q := c P _ h
theorem keep_con {P : Addr} {q : Str} (c : Con K H μ) (h : μ P = some (.tab q)) (k : KeepX P H H1) (t : TabX H1 P q) : Con K H1 μ ∧ Fr μ μ H H1 := by
  have ne : ∀ {a : Addr} {o : HO}, μ a = none → H a = some o → a ≠ P := fun e _ z => by rw [z, h] at e; cases e
  have f : Fr μ μ H H1 := fun a o n e => ⟨k a o (ne n e) e, n⟩
  refine ⟨fun a m e => ?_, f⟩
  by_cases ha : a = P
  · rw [ha, h] at e
    cases e
    rw [ha]
    exact t
  · have r := c a m e
    have e2 : H1 a = H a := by
      cases m <;> (obtain ⟨vs, h1, _⟩ := r; rw [h1]; exact k a _ ha h1)
    exact r.mono (f.tx c) e2
theorem slots_lam {N : List Str} {js : List Nat} {x : D} {v : V} (s : Slots K H τ σ) (r : Rel K H v x) : Slots K H (some x :: (js.map (slotD τ) ++ List.replicate (N.length - 1 - js.length) none)) (NdefX.startF N [v] (js.map (NdefX.slotAt σ))) := by
  unfold NdefX.startF
  refine ⟨by simp, fun i d e => ?_⟩
  cases i with
  | zero =>
    simp only [List.getElem?_cons_zero, Option.some.injEq] at e
    subst e
    exact ⟨v, rfl, r⟩
  | succ i =>
    rw [List.getElem?_cons_succ] at e
    show ∃ v', ((js.map (NdefX.slotAt σ) ++ List.replicate (N.length - [v].length - (js.map (NdefX.slotAt σ)).length) none))[i]? = some (some v') ∧ _
    by_cases hi : i < js.length
    · rw [List.getElem?_append_left (by rw [List.length_map]; exact hi), List.getElem?_map, List.getElem?_eq_getElem hi] at e
      rw [List.getElem?_append_left (by rw [List.length_map]; exact hi), List.getElem?_map, List.getElem?_eq_getElem hi]
      have e2 : slotD τ js[i] = some d := by simpa using e
      have e3 : τ[js[i]]? = some (some d) := by
        unfold slotD at e2
        split at e2
        · rename_i o ho
          rw [ho, e2]
        · cases e2
      obtain ⟨v', h1, h2⟩ := s.2 _ d e3
      exact ⟨v', by show some (NdefX.slotAt σ js[i]) = _; rw [NdefX.slotAt_of h1], h2⟩
    · rw [List.getElem?_append_right (by rw [List.length_map]; omega), List.getElem?_replicate] at e
      split at e <;> cases e
theorem rels_dp (key : D → D) : ∀ {ks : List V} {ds : List D}, Rels K H ks (ds.map key) → (∀ x ∈ ds, OkN 8 (key x)) → Paired (Dp K H) ks (ds.map fun x => D.py (key x))
  | [], [], .nil, _ => .nil
  | _ :: _, d :: ds, .cons a b, h => .cons (Rel.dp _ _ a (h d List.mem_cons_self).p) (rels_dp key b fun x hx => h x (List.mem_cons_of_mem _ hx))
/-- values sorted by what the data beside them give -/
theorem rels_srtBy (key : D → D) {vs : List V} {ds : List D} (r : Rels K H vs ds) : Rels K H (((vs.zip (ds.map fun x => D.py (key x))).mergeSort (dataLe false (·.2))).map (·.1)) (srtBy key ds) := by
  obtain ⟨z1, z2, z3⟩ := zip_rels r
  have e1 : vs.zip (ds.map fun x => D.py (key x)) = (vs.zip ds).map fun p => (p.1, D.py (key p.2)) := by
    rw [List.zip_map_right]
    rfl
  have m1 : (((vs.zip ds).map fun p => (p.1, D.py (key p.2))).mergeSort (dataLe false (·.2))).map (·.1) = ((vs.zip ds).mergeSort (dataLe false fun p => D.py (key p.2))).map (·.1) := by
    rw [← List.map_mergeSort (r := dataLe false fun p : V × D => D.py (key p.2)) (s := dataLe false (·.2)) (f := fun p => (p.1, D.py (key p.2))) (fun _ _ _ _ => rfl), List.map_map]
    rfl
  have m2 : srtBy key ds = ((vs.zip ds).mergeSort (dataLe false fun p => D.py (key p.2))).map (·.2) := by
    unfold srtBy
    rw [List.map_mergeSort (r := dataLe false fun p : V × D => D.py (key p.2)) (s := dataLe false fun d => D.py (key d)) (f := fun p : V × D => p.2) (fun _ _ _ _ => rfl), z2]
  rw [e1, m1, m2]
  exact rels_of_pairs fun p hp => z3 p ((List.mergeSort_perm _ _).mem_iff.mp hp)
theorem a_sortL {P : Addr} {q : Str} {mk : Addr → Addr → HO} {N : List Str} {js : List Nat} (hmk : ∀ f c', ∃ φ, mk f c' = .ext φ)
    (h : AE K tl τ μ fun d μ1 => ∃ (a : Addr) (ds : List D) (key : D → D), d = .ref a ∧ μ1 a = some (.lst ds) ∧ μ1 P = some (.tab q) ∧ (∀ x ∈ ds, OkN 8 (key x)) ∧ AllAlike (ds.map fun x => D.py (key x)) ∧ Sortable (ds.map fun x => D.py (key x)) ∧
      (∀ x ∈ ds, AE K tb (some x :: (js.map (slotD τ) ++ List.replicate (N.length - 1 - js.length) none)) μ1 fun k μ2 => k = key x ∧ μ2 = μ1) ∧ ∀ p, μ1 p = none → Φ (.ref p) (μ1.set p (.lst (srtBy key ds)))) :
    AE K (tSortL K P q mk N js tb tl) τ μ Φ := fun σ H s c Q k => by
  refine h σ H s c _ fun d μ1 v H1 f1 c1 r1 ⟨a, ds, key, e, ha, hP, hok, hal, hsk, ht, hq⟩ => ?_
  subst e
  cases r1
  refine ⟨tab_of c1 hP, fun f c' H2 kp tx hf hc => ?_⟩
  obtain ⟨c2, f2⟩ := keep_con c1 hP kp tx
  obtain ⟨vs, hv, hr⟩ := c2 a _ ha
  have nf : μ1 f = none := by
    cases e : μ1 f with
    | none => rfl
    | some m =>
      have r := c2 f m e
      obtain ⟨φ, eφ⟩ := hmk f c'
      rw [eφ] at hf
      cases m <;> (obtain ⟨vs, h, _⟩ := r; rw [hf] at h; cases h)
  have nc : μ1 c' = none := c2.cn hc
  refine ⟨a, f, c', vs, fun ks H3 => Fr μ1 μ1 H2 H3 ∧ Con K H3 μ1 ∧ Rels K H3 ks ((ds.take ks.length).map key) ∧ ks.length ≤ ds.length, ds.map fun x => D.py (key x), rfl, rfl, SqL.of hv, hf, hc, by rw [List.length_map, hr.length], hal, hsk, fun x hx => ?_, ⟨Fr.refl, c2, .nil, Nat.zero_le _⟩, fun ks H3 ⟨g, _⟩ => ⟨(g f _ nf hf).1, (g c' _ nc hc).1⟩, fun ks H3 v hv2 ⟨g, c3, rk, hk⟩ => ?_, fun ks H3 hl ⟨g, c3, rk, _⟩ => ?_⟩
  · obtain ⟨y, hy, rfl⟩ := List.mem_map.mp hx
    exact (hok y hy).d
  · have hr3 := Rels.mono (g.tx c2) _ _ hr
    obtain ⟨x, hx, rx⟩ := hr3.getV hv2
    refine ht x (List.mem_of_getElem? hx) _ H3 (slots_lam ((s.mono (f1.tx c)).mono ((f2.trans g).tx c1)) rx) c3 _ fun k1 μ2 u H4 f4 c4 r4 ⟨ek, em⟩ => ?_
    subst ek em
    have hlt := (List.getElem?_eq_some_iff.mp hx).1
    refine ⟨g.trans f4, c4, ?_, by rw [List.length_append]; simp only [List.length_cons, List.length_nil]; omega⟩
    have e1 : List.map key (List.take (ks ++ [u]).length ds) = List.map key (List.take ks.length ds) ++ [key x] := by
      rw [List.length_append, List.length_cons, List.length_nil, List.take_add_one, hx, List.map_append]
      rfl
    rw [e1]
    exact (Rels.mono (f4.tx c3) _ _ rk).append (.cons r4 .nil)
  · have hl2 : ks.length = ds.length := by rw [hl, hr.length]
    rw [hl2, List.take_length] at rk
    have f3 : Fr μ μ1 H H3 := (f1.trans f2).trans g
    exact ⟨rels_dp key rk hok, fun p hp => k _ _ _ _ (f3.trans (fr_put hp)) (con_put (m := .lst (srtBy key ds)) hp c3 ⟨_, upd_same, Rels.mono (tx_new hp) _ _ (rels_srtBy key (Rels.mono (g.tx c2) _ _ hr))⟩) (.ref p) (hq p (c3.free hp))⟩
end
end Z
namespace EK
open PySem PySem.Spec PyProof.Rows L2
section
variable {M : Model} {A : Around} {E : Value → Shared → Prop} {s : Shared} {env : Env}
theorem with_type {pos : Pos} {T : String} {args : List (Bool × Sem Value)} {keywords : List (Option Str × Sem Value)} {Q : Value → Shared → Prop} (hplain : args.any (·.1) = false) (hkw : keywords.any (·.1.isNone) = false)
    (h : wpAny M A (evalArgs (.type T) true args keywords) (fun a s₁ => wpAny M A (call (.type T) a.pos a.kw) Q E s₁) E s) : wpAny M A (callWith pos (.type T) [] args keywords) Q E s := by
  unfold callWith
  refine wpAny_bind (wpAny_holding (wpAny_mono h (fun a s1 h1 => wpAny_bind (wpAny_standAt ?_)) fun _ _ x => x))
  simp only [hplain, hkw, Bool.or_false]
  refine wpAny_bind (wpAny_pure ?_)
  exact wpAny_bind (wpAny_mono h1 (fun r s2 hr => wpAny_bind (wpAny_holding (wpAny_point (wpAny_pure hr)))) fun _ _ x => x)
end
/-- the tuple at a, each item in a new pair, counted from k -/
def IteT (K : PySem.W.Frag) (a : Addr) (k : Int) : It :=
  ⟨fun i H => ∃ (xs : List V) (x : V), SqT K H a xs ∧ xs[i]? = some x, fun i H v H' => ∃ T x, v = .ref T ∧ H T = none ∧ H' = upd H T (.tup [.int (k + (i : Nat)), x]) ∧ ∀ xs, SqT K H a xs → xs[i]? = some x, fun i H => ∃ xs : List V, SqT K H a xs ∧ xs.length ≤ i⟩
/-- the tuple, the record and the iterator are three objects -/
theorem three {h : Heap} {a e it : Addr} {xs : Array Value} {k : Int} {old : Value} {i : Nat} (tup : h.IsTuple a xs) (rec : IsEnum h e it k old) (src : h.IsTupleIter it a i) : e ≠ a ∧ a ≠ it := by
  obtain ⟨o, at_, cls, _⟩ := tup
  refine ⟨?_, ?_⟩
  · rintro rfl
    obtain rfl := Option.some.inj (Eq.trans at_.symm rec)
    injection cls with c
    exact absurd c (by decide)
  · rintro rfl
    obtain ⟨o', at', cls', _⟩ := src
    obtain rfl := Option.some.inj (at_.symm.trans at')
    injection cls.symm.trans cls' with c
    exact absurd c (by decide)
theorem turn_enumT {P : Program} {w : World} {K : PySem.W.Frag} {elts : List Expr} {kk : Nat} {tpos : Pos} (a e it : Addr) (k : Int) :
    Turn P w K (.Tuple elts kk tpos) (IteT K a k) [e, it] e (fun i h => (∃ old, IsEnum h e it (k + (i : Nat)) old) ∧ h.IsTupleIter it a i ∧ e ≠ it) where
  mem := List.mem_cons_self
  obj := by
    rintro i h ⟨⟨old, rec⟩, ⟨o, at_, _, data⟩, _⟩ b hb
    rcases List.mem_cons.mp hb with rfl | hb
    · exact ⟨_, rec, nofun⟩
    · obtain rfl := List.mem_singleton.mp hb
      exact ⟨o, at_, fun v c => nomatch data.symm.trans c⟩
  keep := by
    rintro i h h' ⟨⟨old, rec⟩, src, ne⟩ kept
    exact ⟨⟨old, kept e List.mem_cons_self _ rec⟩, src.at fun o q => kept it (List.mem_cons_of_mem _ List.mem_cons_self) o q, ne⟩
  item := by
    rintro X rfl rfl rfl calm i pins s σ H E I hid ⟨⟨old, rec⟩, src, ne⟩ ⟨xs, x, isT, hx⟩
    obtain ⟨ys, rel, tup, _⟩ := I.tuple isT
    obtain ⟨u, hu, ru⟩ := rel.get hx
    obtain ⟨ea, ai⟩ := three tup rec src
    have few : i < ys.length := (List.getElem?_eq_some_iff.mp hu).1
    have D := Draws.tuple (prog := X.prog) (w := X.w) (A := X.A.in1) (I.ok.hd calm) it a ai ys.toArray
    apply wpAny_pyNext_enum_itemC D rec ⟨src, tup⟩ (by simpa using few) ne (by simp [ne, ea])
    intro y g tk drawn out onward two _ kept
    obtain rfl : y = u := Option.some.inj (Eq.trans (by simpa using Eq.symm drawn) hu)
    refine ⟨_, rfl, wpAny_letOwnedTupleGo_enum (s := { s with heap := g, toks := tk + 1 }) out fun g2 rec2 but => ?_⟩
    have there : ∀ b ∈ [e, it], b < s.heap.objs.size := by
      intro b hb
      rcases List.mem_cons.mp hb with rfl | hb
      · exact Heap.lt_size rec
      · obtain rfl := List.mem_singleton.mp hb
        obtain ⟨_, at_, _⟩ := src
        exact Heap.lt_size at_
    have J := I.turnedNew (ch := [e, it]) (h' := g2) (t' := tk + 1) (ob := .tup [.int (k + (i : Nat)), x])
      (fun b o out z => by
        have b1 : b ≠ e := fun y => out (y ▸ List.mem_cons_self)
        have b2 : b ≠ it := fun y => out (y ▸ List.mem_cons_of_mem _ List.mem_cons_self)
        exact (but.2 b b1).trans (kept b o b1 b2 z)) hid (Nat.le_refl s.heap.objs.size)
      ⟨(by decide : 2 ≤ sizeLine), [.int (k + (i : Nat)) tk, y], .cons ⟨tk, rfl⟩ (.cons ru .nil), _, (but.2 _ (Nat.ne_of_gt (there e List.mem_cons_self))).trans two, rfl, _, rfl⟩
    refine ⟨.ref s.heap.objs.size, _, J, rfl, ⟨_, x, rfl, I.hok.fresh (Nat.le_refl _), rfl, ?_⟩, ⟨⟨y, ?_⟩, onward.1.at fun o q => (but.2 it ne.symm).trans q, ne⟩, ?_⟩
    · intro zs isZ
      rw [I.tuple_inj isZ isT]
      exact hx
    · rw [show k + ((i + 1 : Nat) : Int) = k + (i : Int) + 1 by omega]
      exact rec2
    · intro b hb
      exact (upd_ne (Nat.ne_of_lt (there b hb))).trans (hid b hb).1
  done := by
    rintro X rfl rfl rfl calm i pins s σ H E I hid ⟨⟨old, rec⟩, src, ne⟩ ⟨xs, isT, over⟩
    obtain ⟨ys, rel, tup, _⟩ := I.tuple isT
    have same := rel.length
    obtain ⟨_, ai⟩ := three tup rec src
    obtain ⟨h0, h1, _, h3, h4, h5⟩ := hid it (List.mem_cons_of_mem _ List.mem_cons_self)
    have isE : s.TypeIs (.ref e) "enumerate" := ⟨_, rec, rfl⟩
    have slot := F.slot_enumerate_next
    unfold pyNext
    apply wpAny_bind
    apply wpAny_attempt
    apply wpAny_callSpecial?_slot (name := Str.ofString "__next__") isE slot
    refine wpAny_call_entry slot isE F.entry_enumerate_next ?_ (F.args_enumerate_next_1 _)
    show wpAny _ _ (field (.ref e) 2 >>= _) _ _ _
    refine wpAny_bind (wpAny_field rec rfl (x := .ref it) rfl (wpAny_bind ?_))
    apply RZ.nextOf_tuple_end (A := X.A.in1) (I.ok.hd calm) src tup (by rw [List.getElem?_toArray]; exact List.getElem?_eq_none (by omega))
    rintro g stop kept ⟨o, at_, cls⟩
    refine wpAny_bind (wpAny_isInstance (T := "StopIteration") (b := true) ⟨o, at_, cls⟩ isSubtype_stop ?_)
    exact wpAny_pure ⟨rfl, I.turned (t' := s.toks) (fun b u nb z => kept b u nb z) h0 h1 h3 h4 h5⟩
  self := fun A i s Q E st h => let ⟨⟨_, he⟩, _⟩ := st; wpAny_pyIter_enum he h
def iEnumT (K : PySem.W.Frag) (te tk : TE) : TI := fun σ H R => tCons te tNil σ H fun xs H1 => tCons tk tNil σ H1 fun ys H2 => ∃ a vs k, xs = [.ref a] ∧ ys = [.int k] ∧ -(2 ^ 63) ≤ k ∧ k < 2 ^ 63 ∧ SqT K H2 a vs ∧ R (IteT K a k) H2
theorem pi_enumT {X : Cx} {K : PySem.W.Frag} {e ek : Expr} {te tk : TE} {p pos tpos kpos : Pos} {elts : List Expr} {kk : Nat} (hK : X.K = K) (hg : Gl X "enumerate") (hm : X.mg "enumerate" = none) (ha : PE X e te) (hk : PE X ek tk)
    (hs : starEach [e] X.env = (false, eval e X.env) :: starEach [] X.env := by rfl) (he : backTo pos (starEach [e] X.env) = (false, eval e X.env) :: backTo pos (starEach [] X.env) := by rfl) (hpl : (backTo pos (starEach [e] X.env)).any (·.1) = false := by rfl) :
    PI X (.Tuple elts kk tpos) (.Call (.Name "enumerate" p) [e] [⟨some "start", ek, kpos⟩] pos) (iEnumT K te tk) := by
  subst hK
  refine ⟨fun pins s σ H R I h => ?_⟩
  have pa : PA X [e] (tCons te tNil) := pa_cons ha pa_nil hs
  have pk : PK X [⟨some "start", ek, kpos⟩] (tCons tk tNil) := pk_cons hk pk_nil
  have body : wpAny (model X.prog X.w) X.A (eval (.Call (.Name "enumerate" p) [e] [⟨some "start", ek, kpos⟩] pos) X.env) (fun v s' => wpAny (model X.prog X.w) X.A (pyIter v) (PIE X pins σ (.Tuple elts kk tpos) R) X.xe s') X.xe s := by
    refine wpAny_Call_Name_kw (ld_blt I hg hm boot_enumerate ?_ (by decide) (by decide))
    refine with_type hpl (by rfl) ?_
    rw [he]
    refine evalArgs_kwB (by rfl) ?_
    rw [← he]
    refine thn (pa.run pos pins s σ H _ I h) fun us s1 ⟨xs, H1, I1, r1, q1⟩ => thn (pk.run pos pins s1 σ H1 _ I1 q1) fun ws s2 ⟨zs, H2, I2, r2, a, vs, k, e1, e2, k0, k1, hq, q⟩ => ?_
    subst e1 e2
    obtain ⟨its, rv, p', hz⟩ := I2.tuple hq
    have tp : s2.heap.IsTuple a its.toArray := p'
    rw [Vals.ref1 r1]
    obtain ⟨t, ew⟩ : ∃ t, ws = [.int k t] := by
      cases r2 with
      | cons r rr =>
        cases rr
        obtain ⟨t, e⟩ := r
        exact ⟨t, by rw [e]⟩
    rw [ew]
    show wpAny _ _ (call (.type "enumerate") [.ref a] [(Str.ofString "start", .int k t)]) _ _ s2
    refine enum_begins_start (begins_tuple a its.toArray) tp k0 k1 fun h' he2 hit hsz hkp => wpAny_pyIter_enum he2 ?_
    have I3 : Inv X pins σ H2 { s2 with heap := h' } := I2.kept (t' := s2.toks) hkp
    refine ⟨s2.heap.objs.size + 1, [s2.heap.objs.size + 1, s2.heap.objs.size], _, _, H2, rfl, I3, turn_enumT a (s2.heap.objs.size + 1) s2.heap.objs.size k, ⟨⟨.none, by simpa using he2⟩, ⟨_, hit, rfl, rfl⟩, Nat.succ_ne_self _⟩, fun b hb => ?_, q⟩
    have hle : s2.heap.objs.size ≤ b := by
      rcases (show b = s2.heap.objs.size + 1 ∨ b = s2.heap.objs.size by simpa using hb) with z | z
      · rw [z]; exact Nat.le_add_right _ _
      · rw [z]; exact Nat.le_refl _
    exact I2.fpOk hle (I2.hok.fresh hle)
  exact body
end EK
namespace Z
open PySem L2 EK
/-- pairs counted from k -/
def enumD (k : Int) : List D → List D
  | [] => []
  | x :: xs => .tup [.int k, x] :: enumD (k + 1) xs
theorem enumD_len : ∀ (k : Int) (xs : List D), (enumD k xs).length = xs.length
  | _, [] => rfl
  | k, x :: xs => by rw [enumD, List.length_cons, List.length_cons, enumD_len]
theorem enumD_get : ∀ {k : Int} {xs : List D} {i : Nat} {x : D}, xs[i]? = some x → (enumD k xs)[i]? = some (.tup [.int (k + (i : Nat)), x])
  | _, [], _, _, h => by simp at h
  | k, y :: xs, 0, x, h => by
    simp at h
    subst h
    simp [enumD]
  | k, y :: xs, i + 1, x, h => by
    have h2 := enumD_get (k := k + 1) (xs := xs) (i := i) (x := x) (by simpa using h)
    rw [enumD, List.getElem?_cons_succ, h2]
    have e : k + 1 + (i : Int) = k + ((i + 1 : Nat) : Int) := by omega
    rw [e]
section
variable {K : PySem.W.Frag} {τ : T} {μ μ1 μ2 : M} {H H1 H2 H' : Hp} {te tk : TE} {Ψ : List D → M → (M → M) → Prop}
theorem walk_E {a : Addr} {k : Int} {vs : List V} {ds : List D} (hr : Rels K H1 vs ds) : WalkD K (IteT K a k) (enumD k ds) (fun _ => False) (fun H' => TupAt K H' a vs ∧ Rels K H' vs ds) where
  keep := fun H H' μ μ' c _ g f => ⟨g.1.mono (f.tx c), Rels.mono (f.tx c) _ _ g.2⟩
  oo := fun _ _ _ h => h.elim
  go := fun i H' hi g => by
    rw [enumD_len, ← hr.length] at hi
    exact ⟨vs, vs[i], g.1.sq, List.getElem?_eq_getElem hi⟩
  stop := fun i H' hi g => by
    rw [enumD_len, ← hr.length] at hi
    exact ⟨vs, g.1.sq, hi⟩
  yld := fun i H' v H2 hi g y => by
    obtain ⟨T0, x, e, hT, e2, q1⟩ := y
    obtain ⟨d1, k1, r1⟩ := g.2.getV (q1 vs g.1.sq)
    refine ⟨_, enumD_get k1, ?_, .inr ⟨T0, _, hT, e2⟩⟩
    subst e e2
    exact .tup (.inl upd_same) (.cons (.int _) (.cons (Rel.mono (tx_new hT) _ _ r1) .nil))
theorem ai_E (h : AE K te τ μ fun d μ1 => AE K tk τ μ1 fun e μ2 => ∃ xs k, d = .tup xs ∧ e = .int k ∧ (-(2 ^ 63) ≤ k ∧ k < 2 ^ 63) ∧ Ψ (enumD k xs) μ2 id) : AI K (iEnumT K te tk) τ μ Ψ := fun σ H s c R kk => by
  refine h σ H s c _ fun d μ1 v H1 f1 c1 r1 p1 => p1 σ H1 (s.mono (f1.tx c)) c1 _ fun e μ2 u H2 f2 c2 r2 ⟨xs, k, e1, e2, ⟨k0, k1⟩, q⟩ => ?_
  subst e1 e2
  have r3 := Rel.mono (f2.tx c1) _ _ r1
  cases r2
  cases r3 with
  | @tup a us _ ha hr => exact ⟨a, us, k, rfl, rfl, k0, k1, ha.sq, kk _ _ _ _ H2 μ2 id ((f1.trans f2).tx c) c2 (walk_E hr) ⟨ha, hr⟩ (fun _ z => z.elim) (back_id (f1.trans f2)) q⟩
end
end Z
namespace OD
open PySem PySem.Spec PyProof.Rows L2 PySem.W
end OD
namespace Z
open PySem L2 OD PySem.W
section
variable {K : PySem.W.Frag} {τ : T} {μ μ1 μ2 : M} {H H1 H2 H' : Hp} {te tk : TE} {Φ : D → M → Prop} {Ψ : List D → M → (M → M) → Prop} {d e : D}
/-- the ints a .. b - 1 -/
def rgD (a b : Int) : List D := (List.range (b - a).toNat).map fun (i : Nat) => D.int (a + i)
theorem rels_rg {a b : Int} : Rels K H (rgV a b) (rgD a b) := by
  unfold rgV rgD
  generalize (List.range (b - a).toNat) = l
  induction l with
  | nil => exact .nil
  | cons x l ih => exact .cons (.int _) ih
theorem a_listRg1 (h : AE K te τ μ fun d μ1 => ∃ n : Int, d = .int n ∧ 0 ≤ n ∧ n ≤ 16777216 ∧ ∀ p, μ1 p = none → Φ (.ref p) (μ1.set p (.lst (rgD 0 n)))) : AE K (tLstRg (tRg1 te)) τ μ Φ := fun σ H s c Q k =>
  h σ H s c _ fun d μ1 v H1 f1 c1 r1 ⟨n, e, n0, n1, q⟩ => by
    subst e
    cases r1
    exact ⟨n, rfl, RgOk.of_le (by decide) n1 (by decide) n0, fun p hp => k _ _ _ _ (f1.trans (fr_put hp)) (con_put (m := .lst (rgD 0 n)) hp c1 ⟨_, upd_same, rels_rg⟩) (.ref p) (q p (c1.free hp))⟩
end
abbrev t3 (a b c : Int) : D := .tup [.int a, .int b, .int c]
abbrev t12 (a b c : Int) : D := .tup [.int a, .tup [.int b, .int c]]
/-- p stands ahead of q -/
def lt3 (p q : Int × Int × Int) : Bool := decide (p.1 < q.1) || (decide (p.1 = q.1) && (decide (p.2.1 < q.2.1) || (decide (p.2.1 = q.2.1) && decide (p.2.2 < q.2.2))))
theorem dstep (x y : Int) (R : Bool) : (decide (x < y) || (!decide (y < x) && R)) = (decide (x < y) || (decide (x = y) && R)) := by
  rcases Int.lt_trichotomy x y with h | h | h
  · rw [decide_eq_true h]; rfl
  · subst h; simp
  · have h1 : ¬ x < y := by omega
    have h2 : ¬ x = y := by omega
    rw [decide_eq_true h, decide_eq_false h1, decide_eq_false h2]; rfl
theorem dsame (x : Int) (R : Bool) : (decide (x < x) || (!decide (x < x) && R)) = R := by simp
theorem lt_t12 (a b c a' b' c' : Int) : dataLt (D.py (t12 a b c)) (D.py (t12 a' b' c')) = lt3 (a, b, c) (a', b', c') := by
  unfold dataLt lt3
  simp only [D.py, D.pys, keyToks, keyToksAll, List.singleton_append, List.cons_append, List.nil_append]
  rw [PyProof.Rows.lex_cons, PyProof.Rows.lex_cons, PyProof.Rows.lex_cons, PyProof.Rows.lex_cons, PyProof.Rows.lex_cons, PyProof.Rows.lex_cons, PyProof.Rows.lex_cons, PyProof.Rows.lex_cons, PyProof.Rows.lex_cons]
  show (decide ((1 : Int) < 1) || (!decide ((1 : Int) < 1) && (decide (a < a') || (!decide (a' < a) && (decide ((1 : Int) < 1) || (!decide ((1 : Int) < 1) && (decide ((1 : Int) < 1) || (!decide ((1 : Int) < 1) && (decide (b < b') || (!decide (b' < b) && (decide ((1 : Int) < 1) || (!decide ((1 : Int) < 1) && (decide (c < c') || (!decide (c' < c) && (decide ((0 : Int) < 0) || (!decide ((0 : Int) < 0) && (decide ((0 : Int) < 0) || (!decide ((0 : Int) < 0) && false)))))))))))))))))) = _
  simp only [dsame]
  rw [dstep a, dstep b, dstep c]
  simp
end Z
namespace Z
open PySem PySem.Spec PyProof.Rows L2 LK LamX
/-- a table of code objects stands at T -/
def P_lawT (q : Str) (T : Addr) : PT3 := fun ds μ Φ => ∃ ns : List Int, ds = [.rol (ns.map D.int)] ∧ ns.length ≤ 63 ∧ μ T = some (.tab q) ∧ ∀ μ', Φ (.bl true) μ'
theorem len_lawT {q : Str} {T : Addr} (ds : List D) (μ : M) (Φ : D → M → Prop) (h : P_lawT q T ds μ Φ) : ds.length = 1 := by
  obtain ⟨ns, rfl, _⟩ := h
  rfl
theorem law_startT {K : PySem.W.Frag} {H : Hp} {a T : Addr} {ns : List Int} {q : Str} (hl : ns.length ≤ 63) (hT : H T = some (.tbl #[])) (hr : RolAt K H a (ns.map V.int)) : spI K (P_lawT q T) [.ref a] H (fun v _ => v = .bl true) fun _ _ _ => False := by
  refine ⟨[.rol (ns.map D.int)], fun b => if b = T then some (.tab q) else none, fun d _ => d = .bl true, .cons (.rol hr (rels_map ns)) .nil, fun b m e => ?_, ⟨ns, rfl, hl, if_pos rfl, fun _ => rfl⟩, fun d μ' v H' f c r e => ?_⟩
  · have e : (if b = T then some (MO.tab q) else none) = some m := e
    by_cases hb : b = T
    · rw [if_pos hb] at e
      cases e
      rw [hb]
      exact ⟨#[], hT, trivial, fun pos cv h => by simp [codeAmong] at h⟩
    · rw [if_neg hb] at e
      cases e
  · subst e
    cases r
    rfl
/-- .. where a list of the store may be held still -/
def spF (sp : Sp) : Sp := fun vs H Q E => sp vs H Q E ∨ ∃ a xs, H a = some (.lst xs) ∧ ∀ o, sp vs (upd H a (.frz o (.lst xs))) Q E
theorem fn_freeze {P : Program} {w : World} {K : PySem.W.Frag} {mg : Str → Option Value} {base : Heap} {k : Nat} {f : Addr} {fd : FuncData} {ps : List Str} {sp : Sp} (F : FnOk P w K mg base CX0 k f fd ps sp) : FnOk P w K mg base CX0 k f fd ps (spF sp) := by
  refine ⟨fun vs H Q E h => ?_, fun A outer s H args us vs Q E hr e0 hb r h => ?_⟩
  · rcases h with h | ⟨a, xs, _, h⟩
    · exact F.len _ _ _ _ h
    · exact F.len _ _ _ _ (h { cls := .none, data := .plain })
  · rcases h with h | ⟨a, xs, ha, h⟩
    · exact F.run A outer s H args us vs Q E hr e0 hb r h
    · obtain ⟨hz, its, n, rv, ho⟩ := e0.hok a _ ha
      generalize hob : ({ cls := .type "list", data := .seq its.toArray n } : Obj) = ob at ho
      have ne : ∀ {b : Addr}, H b = none → b ≠ a := fun e z => by rw [z, ha] at e; cases e
      have no : ∀ {b : Addr} {u : HO}, H b = some u → (∀ ys, u ≠ .lst ys) → b ≠ a := fun e d z => by
        rw [z, ha] at e
        exact d _ (Option.some.inj e).symm
      have hok2 : HOk P w (upd H a (.frz ob (.lst xs))) s.heap := fun b u e => by
        by_cases hb : b = a
        · subst hb
          rw [upd_same] at e
          cases e
          exact ⟨ho, hz, its, n, rv, by rw [ho, ← hob]⟩
        · rw [upd_ne hb] at e
          exact (e0.hok b u e).stay (fun c v _ q => q) (fun d q => by rw [upd_ne (no q (fun ys z => by cases z))]; exact q) fun d ys q => by rw [upd_ne (no q (fun ys z => by cases z))]; exact q
      have e2 : Env0 P w K mg base A outer s (upd H a (.frz ob (.lst xs))) := ⟨e0.frames, e0.mod, fun b o e => ⟨(e0.bs b o e).1, by rw [upd_ne (ne (e0.bs b o e).2)]; exact (e0.bs b o e).2⟩, e0.bsz, e0.funs, fun b hb => by rw [upd_ne (ne (e0.frf b hb))]; exact e0.frf b hb, hok2, e0.bare⟩
      refine codeAny_mono (F.run A outer s _ args us vs Q E hr e2 hb r (h ob)) fun res s' hq => ?_
      cases res with
      | error e => exact hq
      | ok fl =>
        cases fl with
        | next => exact hq
        | brk => exact hq
        | cont => exact hq
        | ret u =>
          obtain ⟨v, H', os, bare, un, hok, rv, q⟩ := (show CE outer P w _ s Q u s' from hq)
          refine ⟨v, H', os, bare, ⟨fun b o e n => un.keep b o e (by rw [upd_ne (ne n)]; exact n), fun b o e n => un.slot b o e (by rw [upd_ne (ne n)]; exact n), fun b o e n => un.free b o e (by rw [upd_ne (ne n)]; exact n), un.there,
            fun b ys e => un.tups b ys (by rw [upd_ne (no e (fun ys z => by cases z))]; exact e), fun b o u e => un.frzs b o u (by rw [upd_ne (no e (fun ys z => by cases z))]; exact e), fun b ps e => un.tbls b ps (by rw [upd_ne (no e (fun ys z => by cases z))]; exact e)⟩, hok, rv, q⟩
/-- what is to be shown at the head -/
def LawTab (l : PySem.W.OpenLaw) (w : World) (K : PySem.W.Frag) (k : Nat) (x q : Str) (mg : Str → Option Value) (fa : Addr) (h : Heap) : Prop :=
  ∃ (fd : FuncData) (c T : Addr), h.get? T = some { cls := .none, data := .fields #[] } ∧ K.lookup T = none ∧ PySem.W.CodeHd h c T ∧ (∀ (s : Shared) (u : Value), BindsTo s fd ⟨[u], []⟩ [(x, u)]) ∧
    ∀ base : Heap, K.In base → base.Ns mainGlobals mg → TabB base mg c T → FnOk l.prog w K mg base CX0 k fa fd [x] (spI K (P_lawT q T))
theorem walk_tab {l : PySem.W.OpenLaw} {k : Nat} {p : Program} {loose : List Str} {XP : (Str → Option Value) → Heap → Prop} {YP : World → Heap → Prop} {d : DefRec} {K : Params → PySem.W.Frag} {x q : Str}
    (hn : l.most = some 63) (hdf : d.params.defaults = []) (hr : Room k callerA) (hY : ∀ (w : World) (h : Heap), YP w h → (K w.params).In h)
    (F : ∀ (w : World) (mg : Str → Option Value) (fa : Addr) (h : Heap), YP w h → (K w.params).In h → h.Ns mainGlobals mg → mg d.name = some (.ref fa) → LawTab l w (K w.params) k x q mg fa h) :
    PySem.W.WalkO p loose XP YP l.row.toRowW d [] (fun f vs => PySem.call f vs) := by
  refine LamX.walk_ofTs (n := 63) (k := k) (x := x) (CX := fun _ => CX0) hn (by decide) hdf hr hY (fun w mg fa h Y KX G hmg => ?_) fun _ _ _ _ _ z => z
  obtain ⟨fd, c, T, hT, nT, C, hb, hF⟩ := F w mg fa h Y KX G hmg
  refine ⟨fd, [(c, T)], spF (spI (K w.params) (P_lawT q T)), fun p hp => ?_, fun p hp => ?_, fun p hp => ?_, hb, fun H a ns hl _ hH hS => ?_, fun base X G hB => fn_freeze (hF base X G (hB (c, T) List.mem_cons_self))⟩
  · rw [List.mem_singleton.mp hp]; exact hT
  · rw [List.mem_singleton.mp hp]; exact nT
  · rw [List.mem_singleton.mp hp]; exact C
  · have hT2 := hH (c, T) List.mem_cons_self
    have aT : ∀ xs : List V, H a = some (.lst xs) → T ≠ a := fun xs e z => by
      have hT3 : H T = some (.tbl #[]) := hT2
      rw [z, e] at hT3
      cases hT3
    rcases hS with (h1 | ⟨o, h1⟩) | h1
    · exact .inr ⟨a, _, h1, fun o => law_startT hl (by rw [upd_ne (aT _ h1)]; exact hT2) (.inl ⟨o, upd_same⟩)⟩
    · exact .inl (law_startT hl hT2 (.inl ⟨o, h1⟩))
    · exact .inl (law_startT hl hT2 (.inr h1))
/-- where a code object's table lies -/
def codeTab (K : PySem.W.Frag) (c : Addr) : Option Addr := match K.lookup c with
  | some ⟨_, _, .fields vs, _⟩ => (match (vs[11]? : Option Value) with
    | some (.ref P) => some P
    | _ => none)
  | _ => none
end Z
namespace Z
open PySem L2
section
variable {K : PySem.W.Frag} {τ : T} {μ μ1 μ2 : M} {Φ : D → M → Prop} {te : TE} {tt tt1 : TT} {wi wi1 : TI} {g g1 : TG}
theorem a_methI {P : PT3} {E : XK} {C : Addr} {m : Str} {ta : TA} (h : AE K te τ μ fun o μ1 => ∃ a dx fs, o = .ref a ∧ μ1 a = some (.ins C dx fs) ∧ fs.lookup m = none ∧ AA K ta τ μ1 fun ds μ2 => P (o :: ds) μ2 Φ) :
    AE K (tMeth C m (spI K P) [] E te ta) τ μ Φ := fun σ H s c Q k =>
  h σ H s c _ fun o μ1 v H1 f1 c1 r1 ⟨a, dx, fs, e, ha, hm, p1⟩ => by
    subst e
    cases r1
    obtain ⟨vs, hv, hr⟩ := c1 a _ ha
    refine ⟨a, dx, vs, rfl, hv, look_none hr hm, p1 σ H1 (s.mono (f1.tx c)) c1 _ fun ds μ2 us H2 f2 c2 r2 p => ?_⟩
    rw [List.append_nil]
    exact ⟨.ref a :: ds, μ2, Φ, .cons (.ref a) r2, c2, p, fun d μ' v H' f c' r q => k d μ' v H' ((f1.trans f2).trans f) c' r q⟩
theorem a_lcp {js : List Nat} {dec : D → List D → Prop} (hg : TgOk K g js dec) (f : D → D) (p : D → Bool)
    (h : AI K wi τ μ fun xs μw back => xs.length < sizeLine ∧ (∀ x ∈ xs, ∃ ds, dec x ds ∧ ds.length = js.length ∧ AT K tt (sets τ js ds) μw (fun b μ2 => b = p x ∧ μ2 = μw) ∧ (p x = true → AE K te (sets τ js ds) μw fun y μ2 => y = f x ∧ μ2 = μw)) ∧
      ∀ q, back μw q = none → Φ (.ref q) ((back μw).set q (.lst ((xs.filter p).map f)))) : AE K (tLc wi g tt te js) τ μ Φ :=
  a_lc hg (fun σ H s c R k => h σ H s c R fun J xs out G H1 μw back tx c1 W g1 o1 B ⟨hz, ht, he⟩ => k J xs out G H1 μw back tx c1 W g1 o1 B (by
    refine ⟨fun i acc μ' => μ' = μw ∧ acc = ((xs.take i).filter p).map f, ⟨rfl, rfl⟩, ?_, ?_⟩
    · rintro i x acc μ' hx ⟨rfl, rfl⟩
      obtain ⟨ds, hd, hl, h1, h2⟩ := ht x (List.mem_of_getElem? hx)
      refine ⟨ds, hd, hl, h1.imp fun b μ2 ⟨e1, e2⟩ => ?_⟩
      subst e2
      dsimp only
      rw [filt_step (f := f) hx]
      cases b with
      | true =>
        rw [if_pos rfl]
        refine (h2 e1.symm).imp fun y μ' ⟨e3, e4⟩ => ?_
        subst e4
        refine ⟨?_, rfl, ?_⟩
        · rw [List.length_map]
          have l1 := List.length_filter_le p (xs.take i)
          have l2 : (xs.take i).length ≤ xs.length := by rw [List.length_take]; omega
          omega
        · rw [if_pos e1.symm, List.map_append, e3]
          rfl
      | false =>
        rw [if_neg Bool.false_ne_true]
        refine ⟨rfl, ?_⟩
        rw [if_neg (by rw [← e1]; exact Bool.false_ne_true), List.append_nil]
    · rintro acc μ' ⟨rfl, rfl⟩ a ha
      rw [List.take_length]
      exact he a ha))
theorem flat_len {α β : Type} {F : α → List β} {xs : List α} {i : Nat} {x : α} (h : xs[i]? = some x) : ((xs.take i).flatMap F).length + (F x).length ≤ (xs.flatMap F).length := by
  have e : xs = xs.take i ++ x :: xs.drop (i + 1) := by
    obtain ⟨hl, e1⟩ := List.getElem?_eq_some_iff.mp h
    rw [← e1, List.getElem_cons_drop, List.take_append_drop]
  conv => rhs; rw [e]
  rw [List.flatMap_append, List.flatMap_cons, List.length_append, List.length_append]
  omega
theorem a_lc2p {js js1 vs : List Nat} {dec dec1 : D → List D → Prop} (hg : TgOk K g js dec) (hg1 : TgOk K g1 js1 dec1) (hv : ∀ j, j ∈ vs → ∀ d, τ[j]? ≠ some (some d)) (hjs : ∀ j ∈ js, j ∈ vs) (ysOf : D → List D) (f : D → D → D) (p : D → D → Bool)
    (h : AI K wi τ μ fun xs μw back => (xs.flatMap fun x => ((ysOf x).filter (p x)).map (f x)).length < sizeLine ∧
      (∀ x ∈ xs, ∃ xd, dec x xd ∧ xd.length = js.length ∧ AT K tt (sets τ js xd) μw (fun b μ2 => b = true ∧ μ2 = μw) ∧ (∀ Dl acc, μw Dl = none → AI K wi1 (sets τ js xd) (μw.set Dl (.lst acc)) fun ys μw1 back1 => ys = ysOf x ∧ μw1 = μw.set Dl (.lst acc) ∧ back1 = id) ∧
        ∀ y ∈ ysOf x, ∃ yd, dec1 y yd ∧ yd.length = js1.length ∧ AT K tt1 (sets (sets τ js xd) js1 yd) μw (fun b μ2 => b = p x y ∧ μ2 = μw) ∧ (p x y = true → AE K te (sets (sets τ js xd) js1 yd) μw fun v μ2 => v = f x y ∧ μ2 = μw)) ∧
      ∀ q, back μw q = none → Φ (.ref q) ((back μw).set q (.lst (xs.flatMap fun x => ((ysOf x).filter (p x)).map (f x))))) : AE K (tLc2 wi g tt wi1 g1 tt1 te vs js1) τ μ Φ :=
  a_lc2 hg hg1 hv hjs (fun σ H s c R k => h σ H s c R fun J xs out G H1 μw back tx c1 W g1 o1 B ⟨hz, ht, he⟩ => k J xs out G H1 μw back tx c1 W g1 o1 B (by
    refine ⟨fun i acc μ' => μ' = μw ∧ acc = (xs.take i).flatMap fun x => ((ysOf x).filter (p x)).map (f x), ⟨rfl, rfl⟩, ?_, ?_⟩
    · rintro i x acc μ' hx ⟨rfl, rfl⟩
      obtain ⟨xd, hd, hl, h1, hi, h2⟩ := ht x (List.mem_of_getElem? hx)
      refine ⟨xd, hd, hl, h1.imp fun b μ2 ⟨e1, e2⟩ => ?_⟩
      subst e1 e2
      rw [if_pos rfl]
      intro Dl hD
      have hz1 := flat_len (F := fun x => ((ysOf x).filter (p x)).map (f x)) hx
      refine (fun σ H s c R k => hi Dl _ hD σ H s c R fun J ys out G H1 μw back tx c1 W g1 o1 B ⟨e1, e2, e3⟩ => k J ys out G H1 μw back tx c1 W g1 o1 B ?_)
      subst e1 e2 e3
      refine ⟨μ2, fun j acc μ' => μ' = μ2 ∧ acc = ((xs.take i).flatMap fun x => ((ysOf x).filter (p x)).map (f x)) ++ (((ysOf x).take j).filter (p x)).map (f x), rfl, hD, ⟨rfl, by simp⟩, ?_, ?_⟩
      · rintro j y acc μ' hy ⟨rfl, rfl⟩
        obtain ⟨yd, kd, kl, k1, k2⟩ := h2 y (List.mem_of_getElem? hy)
        refine ⟨yd, kd, kl, k1.imp fun b μ3 ⟨e1, e2⟩ => ?_⟩
        subst e2
        dsimp only
        rw [filt_step (f := f x) hy]
        cases b with
        | true =>
          rw [if_pos rfl]
          refine (k2 e1.symm).imp fun v μ4 ⟨e3, e4⟩ => ?_
          subst e4
          refine ⟨?_, rfl, ?_⟩
          · have l1 : (((ysOf x).take j).filter (p x)).length ≤ ((ysOf x).filter (p x)).length := ((List.take_sublist j (ysOf x)).filter (p x)).length_le
            rw [List.length_append, List.length_map]
            rw [List.length_map] at hz1
            omega
          · rw [if_pos e1.symm, List.map_append, e3, List.append_assoc]
            rfl
        | false =>
          rw [if_neg Bool.false_ne_true]
          refine ⟨rfl, ?_⟩
          rw [if_neg (by rw [← e1]; exact Bool.false_ne_true), List.append_nil]
      · rintro acc' μ' ⟨rfl, rfl⟩ hD2
        refine ⟨μ', rfl, hD2, rfl, ?_⟩
        rw [List.take_length, List.take_add_one, hx, List.flatMap_append]
        simp
    · rintro acc μ' ⟨rfl, rfl⟩ a ha
      rw [List.take_length]
      exact he a ha))
theorem eqv_lists (ds es : List D) : PyData.eqv (.list (D.pys ds)) (.list (D.pys es)) = D.eqv (.tup ds) (.tup es) := by
  unfold D.eqv
  simp only [D.py, PyData.eqv]
theorem okn_list {n : Nat} {ds : List D} (ok : ∀ x ∈ ds, OkN n x) (hn : n < 64) : SeqAt.shaped (.list (D.pys ds)) = true := by
  obtain ⟨h1, h2, h3⟩ := okn_all ok
  unfold SeqAt.shaped
  simp only [PyData.canLay0, PyData.depth, h2, Bool.true_and]
  exact decide_eq_true (by omega)
theorem ro_eqL {a b : Addr} {n : Nat} {ds es : List D} (h1 : μ a = some (.lst ds)) (h2 : μ b = some (.lst es)) (ok1 : ∀ x ∈ ds, OkN n x) (ok2 : ∀ x ∈ es, OkN n x) (hn : n < 64) (q : Φ (.bl (D.eqv (.tup ds) (.tup es))) μ) : RO K (rEqD K) (.ref a) (.ref b) μ Φ := fun H x y c r1 r2 Q k => by
  cases r1; cases r2
  obtain ⟨vs, hv, hr⟩ := c _ _ h1
  obtain ⟨ws, hw, hs⟩ := c _ _ h2
  refine ⟨_, _, .lst (SqL.of hv) (Rels.dp _ _ hr (okn_all ok1).1), .lst (SqL.of hw) (Rels.dp _ _ hs (okn_all ok2).1), okn_list ok1 hn, okn_list ok2 hn, ?_⟩
  rw [eqv_lists]
  exact k _ μ _ H Fr.refl c (.bl _) q
theorem eqv_nil (ds : List D) : D.eqv (.tup ds) (.tup []) = ds.isEmpty := by
  unfold D.eqv
  simp only [D.py]
  cases ds with
  | nil => simp [D.pys, PyData.eqv, PyData.eqvAll]
  | cons x xs => simp [D.pys, PyData.eqv, PyData.eqvAll]
theorem s_forK {N : AEnds} {tl : TE} {tb : TS} (h : AE K tl τ μ fun d μ1 => ∃ (a : Addr) (ds : List D) (P : Nat → T → M → Prop), d = .ref a ∧ P 0 τ μ1 ∧ (∀ i τ' μ', P i τ' μ' → μ' a = some (.lst ds)) ∧
      (∀ (i : Nat) x τ' μ', ds[i]? = some x → P i τ' μ' → AG K g x τ' μ' fun τ2 μ2 => AS K tb τ2 μ2 (turnE N (P (i + 1)))) ∧ ∀ τ' μ', P ds.length τ' μ' → N.nx τ' μ') : AS K (tFor (iList K tl) g tb) τ μ N := fun σ H s c E k => by
  refine h σ H s c _ fun d μ1 v H1 f1 c1 r1 ⟨a, ds, P, e, p0, hk, hs, hd⟩ => ?_
  subst e
  cases r1
  have seq : ∀ {i : Nat} {τ' : T} {μ' : M} {H' : Hp}, Z.Con K H' μ' → P i τ' μ' → ∃ vs, H' a = some (.lst vs) ∧ Rels K H' vs ds := fun c' p => c' a _ (hk _ _ _ p)
  obtain ⟨vs0, hv0, _⟩ := seq c1 p0
  refine ⟨a, rfl, ⟨vs0, SqL.of hv0⟩, ?_⟩
  refine ⟨fun i m σ' H' => m = ds.length - i ∧ i ≤ ds.length ∧ ∃ τ' μ', Fr μ μ' H H' ∧ Z.Con K H' μ' ∧ Slots K H' τ' σ' ∧ P i τ' μ', ⟨ds.length, by omega, Nat.zero_le _, τ, μ1, f1, c1, s.mono (f1.tx c), p0⟩, ?_⟩
  rintro i m σ' H' ⟨rfl, hi, τ', μ', f, c', s', p⟩
  obtain ⟨vs, hv, hr⟩ := seq c' p
  by_cases hlt : i < ds.length
  · have hlv : i < vs.length := by rw [hr.length]; exact hlt
    refine .inr ⟨⟨vs, vs[i], SqL.of hv, List.getElem?_eq_getElem hlv⟩, fun σ2 H2 => ∃ τ2 μ2, Fr μ μ2 H H2 ∧ Z.Con K H2 μ2 ∧ Slots K H2 τ2 σ2 ∧ P (i + 1) τ2 μ2, fun σ2 H2 ⟨τ2, μ2, f2, c2, s2, p2⟩ => ⟨ds.length - (i + 1), by omega, rfl, hlt, τ2, μ2, f2, c2, s2, p2⟩, fun v H2 y => ?_⟩
    obtain ⟨e, q⟩ := y
    subst e
    obtain ⟨x, hx, rx⟩ := hr.getV (q vs (SqL.of hv))
    refine hs i x τ' μ' hx p σ' _ v s' c' rx _ fun τ3 μ3 σ3 H3 f3 c3 s3 q3 => ?_
    exact q3 σ3 H3 s3 c3 _ (turn_ok (k.step f) f3 fun τ4 μ4 σ4 H4 f4 c4 s4 p4 => ⟨τ4, μ4, f.trans f4, c4, s4, p4⟩)
  · have e : i = ds.length := by omega
    subst e
    exact .inl ⟨⟨vs, SqL.of hv, by rw [hr.length]; exact Nat.le_refl _⟩, k.nx τ' μ' σ' H' f c' s' (hd τ' μ' p)⟩
end
end Z
namespace L2
namespace DCT
open PySem PySem.Spec PyProof.Rows
/-- what holds of each block that a comprehension may open -/
abbrev EachBlk (X : Cx) (scope : Scope) (P : Cx → Prop) : Prop :=
  ∀ (z : Shared) (G : Hp) (C : Addr) (cl : List (Str × Addr)) (fp : List Addr), P (X.blk z G scope (compEnvC scope cl C X.env) fp)
/-- a store of a pair in a dict keyed by tuples, its key at b -/
theorem put_pair {X : Cx} {pins : List (Addr × Obj)} {σ : St} {G : Hp} {z : Shared} {E : Value → Shared → Prop} {D b : Addr} {ps : List (List Key × V)} {ks : List Key} {y : V} {u : Value} {Q : Unit → Shared → Prop} (room : X.A.units < cLine) (I : Inv X pins σ G z)
    (at_ : G D = some (.dT ps)) (key : G b = some (.tup (ks.map kV))) (few : ps.length < sizeLine) (ry : RelV y u) (q : ∀ z', Inv X pins σ (upd G D (.dT (putK ps ks y))) z' → Q () z') : wpAny (model X.prog X.w) X.A (dictSet D (.ref b) u) Q E z := by
  obtain ⟨_, noSys, as, kt, laid⟩ := dt_of I.hok at_
  apply wpAny_dictSet_heap room (key_of I.hok key) laid (hsz := by rw [← Paired.length kt]; exact Nat.le_of_lt few)
  intro g new but
  apply q
  have other : ∀ c ks', G c = some (.tup ks') → upd G D (.dT (putK ps ks y)) c = some (.tup ks') := fun c ks' e => by
    rw [upd_ne fun h => by rw [h, at_] at e; cases e]
    exact e
  obtain ⟨o, es, ep, ho, parts⟩ := new
  exact d_write I (at_ ▸ True.intro) but ⟨o, ho⟩ ⟨Nat.le_trans (length_putK ps ks y) few, noSys, _, (kt.put ks key ry).keeps fun c ks' e => other c ks' e, o, es, ep, ho, parts.1, parts.2.1, parts.2.2.1, parts.2.2.2.2⟩
section
variable {Y : Cx} {tg : Expr} {ifs : List Expr} {J : It} {fp : List Addr} {it : Addr} {tn : Nat → Heap → Prop} {τ : St} {i : Nat} {G : Hp} {z : Shared}
/-- a block between two turns: the source stands at place i, and none of its objects is tracked -/
structure Rest (Y : Cx) (fp : List Addr) (tn : Nat → Heap → Prop) (τ : St) (i : Nat) (G : Hp) (z : Shared) : Prop where
  inv : Inv Y [] τ G z
  src : tn i z.heap
  hid : ∀ b ∈ fp, G b = none
/-- a block of a source's own objects, nothing pinned in it, nothing let out -/
structure Plain (Y : Cx) (fp : List Addr) : Prop where
  ex : Y.ex = fp
  pn : Y.pn = []
  xe : Y.xe = fun _ _ => False
  calm : Y.calm = true
theorem hidden {σ : St} (y : Plain Y fp) (I : Inv Y [] σ G z) (h : ∀ b ∈ fp, G b = none) : ∀ b ∈ fp, FpOk Y [] G b := by
  intro b hb
  have mine : b ∈ Y.ex := y.ex.symm ▸ hb
  have apart := I.ok.exf b mine
  exact ⟨h b hb, apart.1, I.ok.exfs b mine, .inl mine, apart.2, by rw [y.pn]; exact fun _ no => nomatch no⟩
/-- what a turn leaves is at rest again, one place on -/
theorem again {σ : St} {vs : List Nat} {h0 : Heap} (T : Turn Y.prog Y.w Y.K tg J fp it tn) (t : tn i h0) (w : wipe σ vs = τ) (I : Inv Y ([] ++ pinsAt fp h0) σ G z) : Rest Y fp tn τ i G z := by
  have same : ∀ b ∈ fp, ∀ o, h0.get? b = some o → z.heap.get? b = some o ∧ G b = none := by
    intro b hb o e
    have pin := I.pin (b, o) (by simp [mem_pinsAt hb e])
    exact ⟨pin.1, pin.2.1⟩
  subst w
  refine ⟨Inv.weak (Inv.unpinned I) (wipe_length σ vs) fun j v e => (wipe_some e).1, T.keep i h0 z.heap t fun b hb o e => (same b hb o e).1, ?_⟩
  intro b hb
  obtain ⟨o, e, _⟩ := T.obj i h0 t b hb
  exact (same b hb o e).2
/-- one turn, up to what the tests say -/
theorem turn {g : TG} {tt : TT} {vs : List Nat} {Φ : Bool → St → Hp → Prop} {W : Bool → Shared → Prop} {N : Shared → Prop} {E : Value → Shared → Prop} (y : Plain Y fp) (T : Turn Y.prog Y.w Y.K tg J fp it tn) (pg : PG Y tg g) (pt : PTs Y ifs tt)
    (R : Rest Y fp tn τ i G z) (go : J.go i G) (step : ∀ x G', J.yld i G x G' → g x τ G' fun σ2 G2 => wipe σ2 vs = τ ∧ tt σ2 G2 fun b G3 => Φ b σ2 G3)
    (rest : ∀ b pl σ2 G3 z3, Inv Y pl σ2 G3 z3 → Φ b σ2 G3 → (∀ G4 z4, Inv Y pl σ2 G4 z4 → Rest Y fp tn τ (i + 1) G4 z4) → W b z3) :
    wpAny (model Y.prog Y.w) Y.A (pyNext (.ref it)) (fun r s1 => match r with
      | none => N s1
      | some v => wpAny (model Y.prog Y.w) Y.A (letOwnedTupleGo tg (.ref it) v) (fun _ s2 => wpAny (model Y.prog Y.w) Y.A (assign tg Y.env v) (fun _ s3 =>
          wpAny (model Y.prog Y.w) Y.A (forIn ifs true fun c r => if r = true then do let ok ← isTrue c Y.env (eval c Y.env); pure (ForInStep.yield ok) else pure (ForInStep.yield r)) W E s3) E s2) E s1) E z := by
  have none_out : ∀ {α : Type} {m : Sem α} {A B : α → Shared → Prop} {s}, wpAny (model Y.prog Y.w) Y.A m A Y.xe s → (∀ a s, A a s → B a s) → wpAny (model Y.prog Y.w) Y.A m B E s := by
    intro α m A B s h k
    rw [y.xe] at h
    exact thnF h k
  apply thnF (T.item Y rfl rfl rfl y.calm i [] z τ G (fun _ _ => False) R.inv (hidden y R.inv R.hid) R.src go)
  rintro _ s1 ⟨u, rfl, more⟩
  apply thnF more
  rintro _ s2 ⟨x, G2, I2, ru, yld, src, hid⟩
  have P2 := I2.pinned (hidden y I2 hid) fun b hb => T.obj (i + 1) s2.heap src b hb
  apply none_out (pg.run _ s2 τ G2 x u _ P2 ru (step x G2 yld))
  rintro _ s3 ⟨σ3, G3, I3, w3, h3⟩
  apply none_out (pt.run _ s3 σ3 G3 _ I3 h3)
  rintro b s4 ⟨G4, I4, h4⟩
  exact rest b _ σ3 G4 s4 I4 h4 fun G5 z5 I5 => again T src w3 I5
end
section
variable {X : Cx} {pins : List (Addr × Obj)} {σ : St} {H : Hp} {s : Shared} {kx vx tg iter : Expr} {ifs : List Expr} {scope : Scope} {own : List (Str × Nat)} {pos : Pos} {wi : TI} {g : TG} {tt : TT} {tk tv : TE}
/-- what such a comprehension asks: W holds ahead of each of n turns, the dict at D -/
def tDcT (wi : TI) (g : TG) (tt : TT) (tk tv : TE) (vs : List Nat) : TE := fun σ H Q => wi σ H fun J H1 => ∀ D, H1 D = none → ∃ (n : Nat) (W : Nat → Hp → Prop), W 0 (upd H1 D (.dT [])) ∧ ∀ i G, i ≤ n → W i G →
  (i = n → J.stop i G ∧ Q (.ref D) G) ∧
  (i < n → J.go i G ∧ ∀ x G1, J.yld i G x G1 → g x (wipe σ vs) G1 fun σ2 G2 => wipe σ2 vs = wipe σ vs ∧ tt σ2 G2 fun b G3 =>
    if b = true then tk σ2 G3 fun y G4 => tv σ2 G4 fun z G5 => ∃ ps ks c, y = .ref c ∧ G5 c = some (.tup (ks.map kV)) ∧ G5 D = some (.dT ps) ∧ ps.length < sizeLine ∧ W (i + 1) (upd G5 D (.dT (putK ps ks z)))
    else W (i + 1) G3)
/-- the loop of the block gives the dict out -/
theorem turns {Y : Cx} {fp : List Addr} {it D : Addr} {tn : Nat → Heap → Prop} {τ : St} {J : It} {vs : List Nat} {n : Nat} {W : Nat → Hp → Prop} {R : Result → Shared → Prop} {Qd : Hp → Prop} (room : Y.A.units < cLine) (y : Plain Y fp) (T : Turn Y.prog Y.w Y.K tg J fp it tn)
    (pg : PG Y tg g) (pt : PTs Y ifs tt) (pk : PE Y kx tk) (pv : PE Y vx tv)
    (each : ∀ i G, i ≤ n → W i G → (i = n → J.stop i G ∧ Qd G) ∧ (i < n → J.go i G ∧ ∀ x G1, J.yld i G x G1 → g x τ G1 fun σ2 G2 => wipe σ2 vs = τ ∧ tt σ2 G2 fun b G3 =>
      if b = true then tk σ2 G3 fun y G4 => tv σ2 G4 fun z G5 => ∃ ps ks c, y = .ref c ∧ G5 c = some (.tup (ks.map kV)) ∧ G5 D = some (.dT ps) ∧ ps.length < sizeLine ∧ W (i + 1) (upd G5 D (.dT (putK ps ks z)))
      else W (i + 1) G3))
    (out : ∀ G z, Inv Y [] τ G z → Qd G → R (.ok .next) z) {G : Hp} {z : Shared} (w0 : W 0 G) (r0 : Rest Y fp tn τ 0 G z) :
    codeAny (model Y.prog Y.w) Y.A (.compLoop (.DictComp kx vx [⟨tg, iter, ifs, 0⟩] scope pos) 0 (.ref it) (.ref D) Y.env) R z := by
  have none_out : ∀ {α : Type} {m : Sem α} {A B : α → Shared → Prop} {E : Value → Shared → Prop} {s}, wpAny (model Y.prog Y.w) Y.A m A Y.xe s → (∀ a s, A a s → B a s) → wpAny (model Y.prog Y.w) Y.A m B E s := by
    intro α m A B E s h k
    rw [y.xe] at h
    exact thnF h k
  apply compLoop_anyD (I := fun m z => ∃ i G, m + i = n ∧ W i G ∧ Rest Y fp tn τ i G z) (n := n) (h := ⟨0, G, rfl, w0, r0⟩)
  rintro m z ⟨i, G, sum, w, rest⟩
  obtain ⟨stop, go⟩ := each i G (by omega) w
  rcases Nat.lt_or_ge i n with lt | ge
  · obtain ⟨go, step⟩ := go lt
    apply turn (N := fun s1 => R (.ok .next) s1) y T pg pt rest go step
    intro b pl σ2 G3 z3 I3 q back
    have next : ∀ G4 z4, Inv Y pl σ2 G4 z4 → W (i + 1) G4 → ∃ m', m' < m ∧ ∃ i G, m' + i = n ∧ W i G ∧ Rest Y fp tn τ i G z4 := fun G4 z4 I4 w4 => ⟨m - 1, by omega, i + 1, G4, by omega, w4, back G4 z4 I4⟩
    cases b
    · exact next G3 z3 I3 q
    · apply none_out (pk.run pl z3 σ2 G3 _ I3 q)
      rintro k4 z4 ⟨_, G4, I4, rk, q4⟩
      apply none_out (pv.run pl z4 σ2 G4 _ I4 q4)
      rintro v5 z5 ⟨yv, G5, I5, rv, ps, ks, c, rfl, key, at_, few, w5⟩
      obtain rfl : k4 = .ref c := rk
      exact put_pair room I5 at_ key few rv fun z6 I6 => next _ z6 I6 w5
  · obtain ⟨halt, q⟩ := stop (by omega)
    apply thnF (T.done Y rfl rfl rfl y.calm i [] z τ G (fun _ _ => False) rest.inv (hidden y rest.inv rest.hid) rest.src halt)
    rintro _ s1 ⟨rfl, I1⟩
    exact out G s1 I1 q
theorem pe_dcT (hu : X.A.units + 1 < cLine) (hc : X.calm = true) (hN : X.N.Nodup) (hi : PI X tg iter wi) (ok : BlkOk X.N X.env.scope scope own)
    (hg : EachBlk X scope fun Y => PG Y tg g) (ht : EachBlk X scope fun Y => PTs Y ifs tt) (hk : EachBlk X scope fun Y => PE Y kx tk) (he : EachBlk X scope fun Y => PE Y vx tv) (hs : ∀ x, foldedSetIterable iter X.env x = pure x := by intro _; rfl) :
    PE X (.DictComp kx vx [⟨tg, iter, ifs, 0⟩] scope pos) (tDcT wi g tt tk tv (own.map (·.2))) := by
  constructor
  intro pins s σ H Q I h
  rw [arm_eval_DictComp]
  have caught : ∀ x ∈ scope.names, x.2 = .free → ∃ c, X.env.cells.lookup x.1 = some c := fun x hx e => I.ok.has x.1 (Or.symm (Or.symm (ok.free x hx e)))
  apply wpAny_comprehension_free (g := ⟨tg, iter, ifs, 0⟩) (gs := []) rfl hs (closure_ok caught) ok.kind
  · intro x hx e
    rw [ok.uniq x hx, e]
  apply thn (hi.run pins s σ H _ I h)
  intro v s1 came
  apply thn came
  rintro _ s2 ⟨it, fp, tn, J, H2, rfl, I2, T, src, apart, q⟩
  refine wpAny_newObj_type (newEnv_comp ?_)
  -- the dict laid, then the block's frame
  obtain ⟨n, W, w0, each⟩ := q s2.heap.objs.size (I2.hok.fresh (Nat.le_refl _))
  have ID := I2.laid (t' := s2.toks) (fun b o e => Heap.get?_push_of_some { cls := .type "dict", data := .dict #[] } e) (Nat.le_refl s2.heap.objs.size) (dt_empty s2.heap I2.big)
  have old : ∀ b ∈ fp, b < s2.heap.objs.size := fun b hb => by
    obtain ⟨o, e, _⟩ := T.obj 0 s2.heap src b hb
    exact Heap.lt_size e
  have apartD : ∀ b ∈ fp, FpOk X pins (upd H2 s2.heap.objs.size (.dT [])) b := fun b hb => by
    obtain ⟨no, others⟩ := apart b hb
    exact ⟨(upd_ne (Nat.ne_of_lt (old b hb))).trans no, others⟩
  have IB := block_start ID ok hN fun b hb => ⟨apartD b hb, Nat.lt_of_lt_of_le (old b hb) (by rw [Heap.size_push]; exact Nat.le_succ _)⟩
  have srcB := T.keep 0 _ _ src fun b hb o e => pushCells_keeps scope.names _ b o (Heap.get?_push_of_some { cls := .type "dict", data := .dict #[] } (Heap.get?_push_of_some { cls := .type "dict", data := .dict #[] } e))
  have start : Rest _ fp tn _ 0 _ _ := ⟨IB, srcB, fun b hb => (apartD b hb).1⟩
  have loop := turns (Y := X.blk _ _ scope (compEnvC scope _ _ X.env) fp) (R := compPost (model X.prog X.w) X.A X.xe none (EP X pins σ Q) (.ref s2.heap.objs.size) (s2.heap.push { cls := .type "dict", data := .dict #[] }).objs.size) (by show X.A.units < cLine; omega) ⟨rfl, rfl, rfl, hc⟩ T
    (hg _ _ _ _ fp) (ht _ _ _ _ fp) (hk _ _ _ _ fp) (he _ _ _ _ fp) each (fun G z IZ q => ?_) w0 start (iter := iter) (scope := scope) (pos := pos)
  · exact codeAny_compStart_dict loop (T.self X.A 0 _ _ _ srcB loop)
  · have hidC := IZ.free
    obtain ⟨m, ns, _⟩ := IZ.loc
    have IX : Inv X pins σ G z := ID.call' (ch := fp) IZ.os IZ.base IZ.hok IZ.bare fun b hb => by
      obtain ⟨_, p1, _, p3, p4, p5⟩ := apartD b hb
      exact ⟨p3, p1, p4, p5⟩
    obtain ⟨c0, c1, _, c3, c4, c5⟩ := ID.fpOk (Nat.le_refl _) hidC
    refine ⟨m, ns, fun h' but => ⟨.ref s2.heap.objs.size, G, ?_, rfl, q⟩⟩
    exact IX.turned (t' := z.toks) (fun b o ne e => by rw [← e]; exact but.2 b ne) c0 c1 c3 c4 c5
end
end DCT
end L2
namespace Z
open PySem L2 PySem.W L2.DCT
section
variable {K : PySem.W.Frag} {τ : T} {μ μ1 μ2 μ0 μ' : M} {H H0 H1 H2 H' : Hp} {σ : L2.St} {Φ : D → M → Prop} {tk tv : TE} {tt : TT} {wi : TI} {j : Nat}
/-- the dict that is made is at Dl, outside of the store -/
structure DcAt (K : PySem.W.Frag) (Dl : Addr) (μ0 : M) (H0 : Hp) (acc : List (List Key × D)) (μ' : M) (H' : Hp) : Prop where
  fr : Fr μ0 μ' H0 H'
  con : Z.Con K H' μ'
  no : μ' Dl = none
  at_ : ∃ vs, H' Dl = some (.dT vs) ∧ RelKV K H' vs acc
theorem upd_outT {Dl : Addr} {vs : List (List Key × V)} {o : HO} (c : Z.Con K H μ) (no : μ Dl = none) (h : H Dl = some (.dT vs)) : Tx H (upd H Dl o) ∧ Z.Con K (upd H Dl o) μ := by
  have t : Tx H (upd H Dl o) := ⟨fun a xs e => by rw [upd_ne (fun z => by subst z; rw [h] at e; cases e)]; exact e, fun a ob xs e => by rw [upd_ne (fun z => by subst z; rw [h] at e; cases e)]; exact e,
    fun a q e => by rw [upd_ne (fun z => by subst z; rw [h] at e; unfold LamX.CodeO at e; cases e)]; exact e⟩
  exact ⟨t, fun a m e => (c a m e).mono t (upd_ne (fun z => by subst z; rw [no] at e; cases e))⟩
theorem kv_length {κ : Type} : ∀ {vs : List (κ × V)} {kvs : List (κ × D)}, RelKV K H vs kvs → vs.length = kvs.length
  | _, _, .nil => rfl
  | _, _, .cons _ b => by rw [List.length_cons, List.length_cons, kv_length b]
theorem dc_step {Dl : Addr} {acc : List (List Key × D)} {P : List (List Key × D) → M → Prop} {Nx : Hp → Prop} {v : V} {x : D} (hD : H0 Dl = none) (s : Slots K H0 τ σ) (c0 : Z.Con K H0 μ0) (L : DcAt K Dl μ0 H0 acc μ' H') (rx : Rel K H' v x)
    (ht : AT K tt (τ.set j (some x)) μ' fun b μ1 => if b = true then AE K tk (τ.set j (some x)) μ1 fun y μ2 => AE K tv (τ.set j (some x)) μ2 fun z μ3 => ∃ k, y = kT k ∧ acc.length < sizeLine ∧ P (putKD acc k z) μ3 else P acc μ1)
    (hn : ∀ acc2 μ2 H2, DcAt K Dl μ0 H0 acc2 μ2 H2 → P acc2 μ2 → Nx H2) :
    gName j v (wipe σ [j]) H' fun σ2 H2 => wipe σ2 [j] = wipe σ [j] ∧ tt σ2 H2 fun b H3 => if b = true then tk σ2 H3 fun y H4 => tv σ2 H4 fun z H5 => ∃ kvs k c, y = .ref c ∧ H5 c = some (.tup (k.map kV)) ∧ H5 Dl = some (.dT kvs) ∧ kvs.length < sizeLine ∧ Nx (upd H5 Dl (.dT (putK kvs k z))) else Nx H3 := by
  obtain ⟨vs0, hv0, hr0⟩ := L.at_
  refine tg_name (K := K) x [x] v _ H' rfl rx _ fun vs hvs => ⟨by rw [wipe_sets (fun _ h => h), wipe_wipe], ?_⟩
  have s' : Slots K H' (sets τ [j] [x]) (sets (wipe σ [j]) [j] vs) := slots_block (s.mono (L.fr.tx c0)) hvs rfl
  refine ht _ H' s' L.con _ fun b μ1 H1 f1 c1 p => ?_
  have n1 : μ1 Dl = none := (f1 Dl _ L.no hv0).2
  have h1 : H1 Dl = some (.dT vs0) := (f1 Dl _ L.no hv0).1
  cases b with
  | false => exact hn acc μ1 H1 ⟨L.fr.trans f1, c1, n1, vs0, h1, RelKV.mono (f1.tx L.con) hr0⟩ p
  | true =>
    refine (show AE K tk _ μ1 _ from p) _ H1 (s'.mono (f1.tx L.con)) c1 _ fun y μ2 w H2 f2 c2 r2 p2 => ?_
    refine p2 _ H2 (s'.mono ((f1.trans f2).tx L.con)) c2 _ fun z μ3 u H3 f3 c3 r3 ⟨k, ey, hz, p3⟩ => ?_
    subst ey
    have n2 : μ3 Dl = none := ((f2.trans f3) Dl _ n1 h1).2
    have h2 : H3 Dl = some (.dT vs0) := ((f2.trans f3) Dl _ n1 h1).1
    have hr2 : RelKV K H3 vs0 acc := RelKV.mono (((f1.trans f2).trans f3).tx L.con) hr0
    obtain ⟨c, ec, hc⟩ := rel_kT (Rel.mono (f3.tx c2) _ _ r2)
    subst ec
    obtain ⟨t3, c4⟩ := upd_outT (o := .dT (putK vs0 k u)) c3 n2 h2
    refine ⟨vs0, k, c, rfl, hc, h2, by rw [kv_length hr0]; exact hz, hn _ μ3 _ ⟨fun a o n e => ?_, c4, n2, _, upd_same, RelKV.mono t3 (kv_put hr2 k r3)⟩ p3⟩
    obtain ⟨e2, m2⟩ := ((L.fr.trans f1).trans (f2.trans f3)) a o n e
    exact ⟨by rw [upd_ne (ne_of_none e hD)]; exact e2, m2⟩
theorem a_dcT (h : AI K wi τ μ fun xs μw back => ∃ P : Nat → List (List Key × D) → M → Prop, P 0 [] μw ∧
      (∀ (i : Nat) x acc μ', xs[i]? = some x → P i acc μ' → AT K tt (τ.set j (some x)) μ' fun b μ1 => if b = true then AE K tk (τ.set j (some x)) μ1 fun y μ2 => AE K tv (τ.set j (some x)) μ2 fun z μ3 => ∃ k, y = kT k ∧ acc.length < sizeLine ∧ P (i + 1) (putKD acc k z) μ3 else P (i + 1) acc μ1) ∧
      ∀ acc μ', P xs.length acc μ' → ∀ p, back μ' p = none → Φ (.ref p) ((back μ').set p (.dT acc))) :
    AE K (tDcT wi (gName j) tt tk tv [j]) τ μ Φ := fun σ H s c Q k => by
  refine h σ H s c _ fun J xs out G H1 μw back tx c1 W g1 o1 B ⟨P, p0, hs, hd⟩ Dl hD => ?_
  have s1 := s.mono tx
  refine ⟨xs.length, fun i H' => ∃ acc μ', DcAt K Dl μw H1 acc μ' H' ∧ P i acc μ', ⟨[], μw, ⟨fr_new hD, con_new hD c1, c1.free hD, [], upd_same, .nil⟩, p0⟩, ?_⟩
  rintro i H' le ⟨acc, μ', L, p⟩
  have gH : G H' := W.keep _ _ _ _ c1 o1 g1 L.fr
  refine ⟨fun e => ?_, fun hlt => ⟨W.go i H' hlt gH, fun v H2 y => ?_⟩⟩
  · subst e
    obtain ⟨vs, hv, hr⟩ := L.at_
    refine ⟨W.stop _ H' (Nat.le_refl _) gH, ?_⟩
    have hbn : back μ' Dl = none := B.nw _ _ hD L.no
    have fb := B.fr _ _ L.fr
    have cb := B.con _ _ L.fr L.con
    refine k _ _ _ H' (fun b o n e => ?_) (con_back (m := .dT acc) cb ⟨vs, hv, hr⟩) (.ref Dl) (hd acc μ' p Dl hbn)
    obtain ⟨e2, n2⟩ := fb b o n e
    have hb : b ≠ Dl := fun z => by
      have e3 := B.old b o n e
      rw [z, hD] at e3; cases e3
    exact ⟨e2, by rw [set_ne hb]; exact n2⟩
  · obtain ⟨x, hx, rx, hH⟩ := W.yld i H' v H2 hlt gH y
    have L2 : DcAt K Dl μw H1 acc μ' H2 := by
      rcases hH with e | ⟨T0, vs, hT, e⟩
      · rw [e]; exact L
      · obtain ⟨f2, c2⟩ := yld_ok (vs := vs) L.con hT
        obtain ⟨ws, hw, hr⟩ := L.at_
        rw [e]
        exact ⟨L.fr.trans f2, c2, L.no, ws, by rw [upd_ne (fun z => by rw [z, hT] at hw; cases hw)]; exact hw, RelKV.mono (tx_new hT) hr⟩
    exact dc_step hD s1 c1 L2 rx (hs i x acc μ' hx p) fun acc2 μ2 H3 L3 p3 => ⟨acc2, μ2, L3, p3⟩
end
end Z
namespace Z
open PySem L2 PySem.W
section
variable {κ : Type} [DecidableEq κ]
theorem val_any (r : List (κ × D)) (j : κ) : (valD r j).isSome = r.any fun kv => decide (kv.1 = j) := by
  induction r with
  | nil => rfl
  | cons p r ih =>
    rw [valD_cons, List.any_cons, ← ih]
    by_cases h : p.1 = j
    · rw [if_pos h, decide_eq_true h]; rfl
    · rw [if_neg h, decide_eq_false h, Bool.false_or]
theorem put_has (r : List (κ × D)) (k j : κ) (v : D) : (valD (putKD r k v) j).isSome = ((valD r j).isSome || decide (j = k)) := by
  cases e : (valD r k).isSome with
  | false =>
    have e2 : valD r k = none := by
      cases h : valD r k with
      | none => rfl
      | some d => rw [h] at e; cases e
    rw [putKD_new e2, val_any, val_any, List.any_append, List.any_cons, List.any_nil, Bool.or_false]
    congr 1
    exact decide_eq_decide.mpr ⟨Eq.symm, Eq.symm⟩
  | true =>
    unfold putKD
    rw [if_pos e, val_any, val_any, List.any_map]
    have e3 : (r.any ((fun kv : κ × D => decide (kv.1 = j)) ∘ fun kv => if kv.1 = k then (kv.1, v) else kv)) = r.any fun kv => decide (kv.1 = j) := by
      congr 1
      funext kv
      simp only [Function.comp_apply]
      split <;> rfl
    rw [e3]
    by_cases h : j = k
    · subst h
      rw [val_any] at e
      rw [e]
      rfl
    · rw [decide_eq_false h, Bool.or_false]
theorem put_len (r : List (κ × D)) (k : κ) (v : D) : (putKD r k v).length ≤ r.length + 1 := by
  unfold putKD
  split
  · rw [List.length_map]; omega
  · rw [List.length_append]; exact Nat.le_refl _
theorem flat_le {α β : Type} {F : α → List β} {n : Nat} (h : ∀ x, (F x).length ≤ n) : ∀ (l : List α), (l.flatMap F).length ≤ n * l.length
  | [] => Nat.zero_le _
  | x :: l => by
    have := flat_le h l
    have := h x
    rw [List.flatMap_cons, List.length_append, List.length_cons, Nat.mul_succ]
    omega
end
end Z
namespace Z
open PySem PySem.Spec PyProof.Rows L2
/-- o.m(.., k = v, ..): n places behind self -/
def tMethN (C : Addr) (m : Str) (n j : Nat) (sp : Sp) (g : List V → List V → List V) (E : L2.St → XK) (ta : TE) (t tk : TA) : TE := fun σ H Q => ta σ H fun x H1 => ∃ a dx fs, x = .ref a ∧ H1 a = some (.ins C dx fs) ∧ fs.lookup m = none ∧
  t σ H1 fun vs H2 => tk σ H2 fun zs H3 => vs.length = n ∧ zs.length = j ∧ sp (g (x :: vs) zs) H3 Q (E σ)
structure MthN (P : Program) (w : World) (K : PySem.W.Frag) (mg : Str → Option Value) (base : Heap) (C : Addr) (m : Str) (ps : List Str) (n : Nat) (ks : List Str) (π : List (Bool × Nat)) (mz : List V) (k : Nat) (sp : Sp) : Prop where
  ex : ∃ f fd g, FnOk P w K mg base (L2.CX P w) k f fd ps sp ∧ Cls K C ∧ Meth K C m f ∧ KBn K fd ps (n + 1) ks g (fun vs zs => gK π vs mz zs)
section
variable {X : Cx} {CX : CXT} {k n : Nat} {f C : Addr} {fd : FuncData} {ps ks : List Str} {sp : Sp} {E : XK} {x m : Str} {p pos apos : Pos} {e o : Expr} {es : List Expr} {kws : List Keyword} {t tk : TA} {to : TE} {g : List Value → List Value → List Value} {gV : List V → List V → List V} {W : WX} {π : List (Bool × Nat)} {mz : List V}
/-- what a call by a kept promise leaves: its answer, or what is raised -/
theorem come_back {pins : List (Addr × Obj)} {σ : L2.St} {H : Hp} {s : Shared} {R : VK} (out : PassesAt CX X σ E) (I : L2.Inv X pins σ H s) : ∀ {r : Result} {z : Shared}, CR CX X.stack X.prog X.w H s R E r z →
    match r with
    | .ok (.ret u) => ∃ v H', L2.Inv X pins σ H' z ∧ L2.RelV v u ∧ R v H'
    | .ok _ => False
    | .error e => X.xe e z
  | .ok (.ret _), _, q => I.after q
  | .ok .next, _, q | .ok .brk, _, q | .ok .cont, _, q => q
  | .error e, z, q => out pins H s e z I q
theorem run_fnNS {pins : List (Addr × Obj)} {σ : L2.St} {H : Hp} {s : Shared} {Q : VK} {us ws : List Value} {vs zs : List V} (F : FnOk X.prog X.w X.K X.mg X.base CX k f fd ps sp) (hr : Room k X.A) (hb : KBn X.K fd ps n ks g gV) (out : PassesAt CX X σ E)
    (I : L2.Inv X pins σ H s) (r : Vals vs us) (rz : Vals zs ws) (l1 : vs.length = n) (l2 : zs.length = ks.length) (h : sp (gV vs zs) H Q E) : wpAny (model X.prog X.w) X.A (call (.ref f) us (ks.zip ws)) (EP X pins σ Q) X.xe s := by
  have bound := hb.to s us ws I.kIn (by rw [← r.length, l1]) (by rw [← rz.length, l2])
  have ran := F.run X.A X.stack s H ⟨us, ks.zip ws⟩ (g us ws) (gV vs zs) Q E hr I.env0 bound (hb.rel r rz) h
  apply wpAny_call
  apply codeAny_mono ran
  intro res z q
  have back := come_back out I q
  rcases res with e | (u | _ | _ | _) <;> exact back
/-- the places, then the names, then the call itself: f is kept by the table -/
theorem kw_call {fA : Addr} {own : List Value} {s : Shared} {σ : L2.St} {H : Hp} {pins : List (Addr × Obj)} {Q : VK} {e : Expr} {es : List Expr} {kws : List Keyword} {t tk : TA} {pos : Pos} {G : List V → List V → Hp → Prop} (I : L2.Inv X pins σ H s) (kp : PySem.W.keepIn X.K (.ref fA) = true) (ha : PA X (e :: es) t) (hkw : PK X kws tk)
    (hall : (backToKw pos (keywordEach kws X.env)).all (·.1.isSome) = true) (hks : (backToKw pos (keywordEach kws X.env)).filterMap (·.1) = ks) (he : starEach (e :: es) X.env = (false, eval e X.env) :: starEach es X.env) (hpl : ((backTo pos (starEach (e :: es) X.env)).any (·.1) || (backToKw pos (keywordEach kws X.env)).any (·.1.isNone)) = false)
    (h : t σ H fun vs H1 => tk σ H1 fun zs H2 => G vs zs H2) (go : ∀ us ws vs zs H2 s2, L2.Inv X pins σ H2 s2 → Vals vs us → Vals zs ws → G vs zs H2 → wpAny (model X.prog X.w) X.A (call (.ref fA) (own ++ us) (ks.zip ws)) (EP X pins σ Q) X.xe s2) :
    wpAny (model X.prog X.w) X.A (callWith pos (.ref fA) own (backTo pos (starEach (e :: es) X.env)) (backToKw pos (keywordEach kws X.env))) (EP X pins σ Q) X.xe s :=
  PySem.W.callWith_KW (h₀ := X.base) I.ok.mod.kin kp hall (thn (ha.run pos pins s σ H _ I h) fun us s1 ⟨vs, H1, I1, r, q⟩ => thn (hkw.run pos pins s1 σ H1 _ I1 q) fun ws s2 ⟨zs, H2, I2, rz, q2⟩ => ⟨I2.kIn, hks ▸ go us ws vs zs H2 s2 I2 r rz q2⟩) hpl he
/-- a method by names -/
theorem pe_mthK_ {E' : L2.St → XK} (hE : ∀ σ, PassesAt (L2.CX X.prog X.w) X σ (E' σ)) {pl : Sem Bool} (G : MthN X.prog X.w X.K X.mg X.base C m ps n ks π mz k sp) (hr : Room k X.A) (ho : PE X o to) (ha : PA X (e :: es) t) (hkw : PK X kws tk)
    (hall : (backToKw pos (keywordEach kws X.env)).all (·.1.isSome) = true) (hks : (backToKw pos (keywordEach kws X.env)).filterMap (·.1) = ks)
    (he : starEach (e :: es) X.env = (false, eval e X.env) :: starEach es X.env) (hpl : ((backTo pos (starEach (e :: es) X.env)).any (·.1) || (backToKw pos (keywordEach kws X.env)).any (·.1.isNone)) = false)
    (ht : MCall X o m (e :: es) kws pos apos pl) :
    PE X (.Call (.Attribute o m apos) (e :: es) kws pos) (tMethN C m n ks.length sp (fun vs zs => gK π vs mz zs) E' to t tk) := by
  obtain ⟨f, fd, g, F, c, hm, hb⟩ := G.ex
  exact ⟨fun pins s σ H Q I h => PySem.W.methodCall_KW (pl := pl) (thn (ho.run pins s σ H _ I h) fun u s1 ⟨x, H1, I1, ru, a, _, _, ex, ea, l, q⟩ => by
    subst ex
    cases ru
    exact getmeth_ok I1 ea c hm l (kw_call (own := [.ref a]) I1 hm.kp ha hkw hall hks he hpl q fun us ws vs zs H3 s3 J r rz ⟨l1, l2, q3⟩ =>
      run_fnNS (us := .ref a :: us) (vs := .ref a :: vs) (E := E' σ) F hr hb (hE σ) J (.cons rfl r) rz (congrArg (· + 1) l1) l2 q3)) ht⟩
theorem pe_mthKX {pl : Sem Bool} (tkk : Takes X W) (G : MthN X.prog X.w X.K X.mg X.base C m ps n ks π mz k sp) (hr : Room k X.A) (ho : PE X o to) (ha : PA X (e :: es) t) (hkw : PK X kws tk)
    (hall : (backToKw pos (keywordEach kws X.env)).all (·.1.isSome) = true := by rfl) (hks : (backToKw pos (keywordEach kws X.env)).filterMap (·.1) = ks := by rfl)
    (he : starEach (e :: es) X.env = (false, eval e X.env) :: starEach es X.env := by rfl) (hpl : ((backTo pos (starEach (e :: es) X.env)).any (·.1) || (backToKw pos (keywordEach kws X.env)).any (·.1.isNone)) = false := by rfl)
    (ht : MCall X o m (e :: es) kws pos apos pl := by rfl) :
    PE X (.Call (.Attribute o m apos) (e :: es) kws pos) (tMethN C m n ks.length sp (fun vs zs => gK π vs mz zs) (WE W) to t tk) := pe_mthK_ (fun σ => passAt tkk σ) G hr ho ha hkw hall hks he hpl ht
end
section
variable {K : PySem.W.Frag} {τ : T} {μ μ1 μ2 : M} {Φ : D → M → Prop} {te : TE} {N : AEnds} {P : PT4} {n m : Nat} {π : List (Bool × Nat)} {mz : List V} {t tk : TA} {cn : Str → Option Value}
theorem x_mthK {C : Addr} {f : Str} (mD : List D) (hmz : ∀ H, Rels K H mz mD)
    (h : AE K te τ μ fun o μ0 => ∃ a dx fs, o = .ref a ∧ μ0 a = some (.ins C dx fs) ∧ fs.lookup f = none ∧ AA K t τ μ0 fun ds μ1 => AA K tk τ μ1 fun es μ2 => ds.length = n ∧ es.length = m ∧ P (gK π (o :: ds) mD es) μ2 Φ fun x dx μ' => N.xs x dx τ μ') :
    AEX K (tMethN C f n m (spX K N.cn P) (fun vs zs => gK π vs mz zs) (WE N.W) te t tk) τ μ N Φ := fun σ H s c Q k kx =>
  h σ H s c _ fun o μ1 v H1 f1 c1 r1 ⟨a, dx, fs, e, ha, hm, p1⟩ => by
    subst e
    cases r1
    obtain ⟨vs, hv, hr⟩ := c1 a _ ha
    refine ⟨a, dx, vs, rfl, hv, look_none hr hm, p1 σ H1 (s.mono (f1.tx c)) c1 _ fun ds μ2 us H2 f2 c2 r2 p2 => p2 σ H2 (s.mono ((f1.trans f2).tx c)) c2 _ fun es μ3 zs H3 f3 c3 r3 ⟨l1, l2, p3⟩ => ?_⟩
    exact ⟨by rw [r2.length]; exact l1, by rw [r3.length]; exact l2, _, μ3, Φ, _, rels_gK π (.cons (.ref a) (r2.mono (f3.tx c2))) (hmz H3) r3, c3, p3, fun d μ' v H' f c' r q => k d μ' v H' (((f1.trans f2).trans f3).trans f) c' r q, fun x dx μ' cls H' e f c' q => kx x dx μ' cls H' e (((f1.trans f2).trans f3).trans f) c' q⟩
end
end Z
namespace L2M
open PySem PySem.Spec PyProof.Rows L2
end L2M
namespace Z
open PySem L2 L2M
structure HZ where
  c : Value
  oi : Option Nat
  tu : Addr → Value → Option Addr → TS
  hit : Str → Bool
def HZ.t (h : HZ) : Value × Option Nat × (Addr → Value → Option Addr → TS) := (h.c, h.oi, h.tu)
end Z
namespace PySem.W
open PySem PySem.Spec PySem.Calls PyProof.Rows
section
variable {prog : Program} {w : World} {A : Around} {E : Value → Shared → Prop} {s : Shared} {K : Frag} {x D : Addr} {ox : Obj} {od : Option Obj}
/-- __class__ is found at object's descriptor, whatever fields x has of its own -/
theorem class_at (dict_ : hasDictIn K D = true) (ha : findIn K (.ref D) "__class__" = some (some (.builtin "object.__class__"))) (hn : specialIn K (.builtin "object.__class__") "__get__" = some (some (.builtin "getset_descriptor.__get__"))) (htk : takesIn K (.builtin "object.__class__") = some true) :
    findObj K D od "__class__" = some (.bind (.builtin "getset_descriptor.__get__") (.builtin "object.__class__")) := by
  obtain ⟨cd, known, _⟩ := any_some dict_
  unfold findObj
  simp [known, ha, hn, htk]
/-- object.__getattribute__(x, "__class__") -/
theorem slot_class {tk : Tok} {Q : Fin → Shared → Prop} (hm : mroIn K D (.type "object") = some true) (hf : findObj K D od "__class__" = some (.bind (.builtin "getset_descriptor.__get__") (.builtin "object.__class__"))) (X : K.In s.heap) (I : InstAt s.heap x ox D od) (q : Q (.done (.ret (.ref D))) s) :
    wpAny (model prog w) A (Builtin.«object.__getattribute__» ⟨[.ref x, .str "__class__" tk], []⟩) Q E s := by
  have cls := I.type (M := model prog w)
  have found := looks_find (M := model prog w) X I hf
  unfold Builtin.«object.__getattribute__»
  apply wpAny_bind
  apply wpAny_of_eq (a := ((Value.ref x : Value), [Value.str "__class__" tk])) (by first | rfl | (simp only [slotArgs]; rfl))
  apply wpAny_bind
  apply wpAny_pure
  apply wpAny_bind
  apply cls.at
  apply wpAny_bind
  apply found.at
  show wpAny _ _ (holding [Value.builtin "object.__class__"] (call (.builtin "getset_descriptor.__get__") [.builtin "object.__class__", .ref x, .ref D]) >>= ret) _ _ _
  apply wpAny_bind
  apply wpAny_holding
  apply wpAny_call
  apply class_get (ox := ox) (od := od) X I hm
  exact wpAny_pure q
theorem kin_classO {Q : Option Value → Shared → Prop} (hga : findIn K (.ref D) "__getattribute__" = some (some (.builtin "BaseException.__getattribute__"))) (hgt : findIn K (.ref D) "__getattr__" = some none) (hsub : subIn K (.ref D) (.type "BaseException") = some true)
    (hdct : hasDictIn K D = true) (ha : findIn K (.ref D) "__class__" = some (some (.builtin "object.__class__")))
    (hn : specialIn K (.builtin "object.__class__") "__get__" = some (some (.builtin "getset_descriptor.__get__"))) (htk : takesIn K (.builtin "object.__class__") = some true) (hm : mroIn K D (.type "object") = some true)
    (X : K.In s.heap) (I : InstAt s.heap x ox D od) (h : Q (some (.ref D)) { s with toks := s.toks + 1 }) : wpAny (model prog w) A (getAttr? (.ref x) "__class__") Q E s := by
  rcases s with ⟨hp, g, d, t, os⟩
  have cls := I.type (M := model prog w)
  have ga := PySem.F.excAttr_ValueError.ga
  have isExc : Looks (model prog w) hp (isInstance (.ref x) (.type "BaseException")) true := cls.andThen (looks_subIn X hsub)
  have others : (Value.builtin "BaseException.__getattribute__" == Value.builtin "object.__getattribute__") = false := by decide +kernel
  have onHeap : onTheHeap (Value.ref D) = true := rfl
  unfold getAttr? getAttrBy? getAttrBy
  apply wpAny_bind
  apply wpAny_mkText
  apply wpAny_bind
  apply wpAny_attempt
  apply wpAny_holding
  apply wpAny_bind
  apply cls.at
  apply wpAny_bind
  apply (looks_findIn X hga).at
  dsimp only
  rw [others, Bool.and_false, if_neg Bool.false_ne_true]
  unfold getAttrByItsOwn hookBefore
  apply wpAny_bind
  rw [if_pos onHeap]
  apply (looks_findIn X hgt).at
  apply wpAny_bind
  apply wpAny_attempt
  apply wpAny_holding
  unfold callGetattribute
  rw [show (false && onTheHeap (Value.builtin "BaseException.__getattribute__")) = false from rfl, if_neg Bool.false_ne_true]
  unfold boundAndCalled
  rw [ga.bind (.ref x)]
  apply wpAny_bind
  apply wpAny_pure
  show wpAny _ _ (call (.builtin "BaseException.__getattribute__") [.ref x, .str "__class__" t]) _ _ _
  apply wpAny_call
  apply codeAny_call_builtin ga.plain PySem.F.entry_bexc_ga
  apply @check_slot (model prog w) _ _ ⟨hp, g, d, t + 1, os⟩ "BaseException.__getattribute__" "BaseException" "__getattribute__" (.ref x) [.str "__class__" t] [] _ (by decide +kernel) (by decide +kernel) isExc (PySem.F.args_bexc_ga (.ref x) (.str "__class__" t))
  apply slot_class hm (class_at hdct ha hn htk) (s := ⟨hp, g, d, t + 1, os⟩) X I
  show wpAny _ _ (handedOut (.ref D)) _ _ _
  rw [handedOut_of (v := .ref D) rfl]
  first
    | exact wpAny_pure (wpAny_pure h)
    | exact wpAny_pure h
/-- the class of the text at D stands in each heap of the kit -/
theorem class_there {h : Heap} (dict_ : hasDictIn K D = true) (X : K.In h) : ∃ c d cd sl, h.get? D = some ⟨c, d, .cls cd, sl⟩ := by
  obtain ⟨_, known, _⟩ := any_some dict_
  unfold clsIn at known
  split at known
  · exact ⟨_, _, _, _, X _ _ ‹_›⟩
  · cases known
theorem kitx_excO (hga : findIn K (.ref D) "__getattribute__" = some (some (.builtin "BaseException.__getattribute__"))) (hgt : findIn K (.ref D) "__getattr__" = some none) (hsub : subIn K (.ref D) (.type "BaseException") = some true) (hdct : hasDictIn K D = true) (ha : findIn K (.ref D) "__class__" = some (some (.builtin "object.__class__")))
    (hn : specialIn K (.builtin "object.__class__") "__get__" = some (some (.builtin "getset_descriptor.__get__"))) (htk : takesIn K (.builtin "object.__class__") = some true) (hm : mroIn K D (.type "object") = some true) :
    KitX K (.ref x) (.ref D) (fun h => InstAt h x ox D od) where
  ty := fun _ _ _ I => I.type
  it := by
    intro M h X _ A' Q' E' z kept q
    obtain ⟨_, _, _, _, at_⟩ := class_there hdct X
    unfold isType loadHead
    apply wpAny_bind
    apply wpAny_loadPart (kept _ _ at_)
    exact wpAny_pure q
  ne := by
    intro h tp dd its n sl X tuple
    obtain ⟨_, _, _, _, at_⟩ := class_there hdct X
    rw [beq_eq_false_iff_ne]
    intro same
    obtain rfl := Value.ref.inj same
    cases at_.symm.trans tuple
  ca := fun X I q => kin_classO hga hgt hsub hdct ha hn htk hm X I q
end
end PySem.W
namespace Z
open PySem PySem.Spec PyProof.Rows L2
/-- .. with or without fields -/
def rIsY (K : PySem.W.Frag) (cls : Value) (d : Option Addr) (a : Addr) : List V → Hp → VK → Prop := fun xs H Q => ∃ (c : V) (D : Addr) (b : Bool), xs = [.ref a, c] ∧ cls = .ref D ∧ (d = none ∨ ∃ dd fs, d = some dd ∧ H dd = some (.xd fs)) ∧ ExcC K D ∧
  ((∃ u, ClsV c u ∧ PySem.W.kitOne K (.ref D) u = some b) ∨ (∃ (tp : Addr) (cs : List V) (us : List Value), c = .ref tp ∧ H tp = some (.tup cs) ∧ Paired ClsV cs us ∧ PySem.W.kitAny K (.ref D) us = some b)) ∧ Q (.bl b) H
/-- its record and its field's home, as an instance -/
theorem inst_ofY {P : Program} {w : World} {H : Hp} {h : Heap} {a D : Addr} {d : Option Addr} {oe : Obj} (g : h.get? a = some oe) (hz : Zc (.ref D) d oe) (hf : ∃ vs, oe.data = .fields vs) (k : HOk P w H h) (hd : d = none ∨ ∃ dd fs, d = some dd ∧ H dd = some (.xd fs)) : ∃ od, PySem.W.InstAt h a oe D od :=
by
  rcases oe with ⟨_, _, _, _⟩
  rcases hz with ⟨rfl, rfl⟩
  rcases hf with ⟨_, rfl⟩
  rcases hd with no | ⟨dd, fs, at_, ed⟩
  · exact ⟨none, g, rfl, rfl, by rw [no]; trivial⟩
  · obtain ⟨_, ⟨o, _, _, e, -⟩, -⟩ := (show ObjOk P w H h dd (.xd fs) from k dd _ ed)
    exact ⟨some o, g, rfl, rfl, by rw [at_]; exact e⟩
/-- isinstance of an error that is pinned -/
theorem call_isP {X : Cx} {K : PySem.W.Frag} {a : Addr} {cls : Value} {d : Option Addr} {oe : Obj} (hK : X.K = K) (hp : (a, oe) ∈ X.pn) (hz : Zc cls d oe) (hf : ∃ vs, oe.data = .fields vs) : CallR X (.builtin "isinstance") (rIsY K cls d a) := by
  subst hK
  intro pins s σ H xs us Q I r ⟨c, D, b, told, ec, hd, C, hc, q⟩
  subst told ec
  have done : ∀ tk, EP X pins σ Q (.bool b) { s with toks := tk } := fun tk => ⟨.bl b, H, I.kept (t' := tk) fun _ _ z => z, rfl, q⟩
  have kinds := fun od => PySem.W.kitx_excO (K := X.K) (x := a) (ox := oe) (od := od) C.hg C.hk C.hs C.hd C.ha C.hn C.ht C.hm
  obtain ⟨od, J⟩ := inst_ofY (I.pin (a, oe) (List.mem_append_left _ hp)).1 hz hf I.hok hd
  match us, r with
  | [_, u2], .cons rfl (.cons r2 .nil) =>
    match c, hc, r2 with
    | c, .inl ⟨u, cv, e⟩, r2 => exact cv.eq r2 ▸ PySem.W.kia_one (kinds od) I.kIn J e (fun z => nomatch z) done
    | _, .inr ⟨tp, cs, ws, rfl, ht, cv, e⟩, rfl =>
      obtain ⟨_, its, rv, ⟨oc, od', dt, sl⟩, h1, h2, n, h3⟩ := (show ObjOk X.prog X.w H s.heap tp (.tup cs) from I.hok tp _ ht)
      obtain rfl := ClsV.all cv rv
      cases h2
      cases h3
      exact PySem.W.kia_tup (kinds od) I.kIn J h1 e (fun z => nomatch z) done
theorem call_isY {X : Cx} {K : PySem.W.Frag} {a : Addr} {cls : Value} {d : Option Addr} {oe : Obj} {pn : List (Addr × Obj)} (hK : X.K = K) (hz : Zc cls d oe) (hf : ∃ vs, oe.data = .fields vs) : CallR (X.suite a ((a, oe) :: pn)) (.builtin "isinstance") (rIsY K cls d a) :=
  call_isP (X := X.suite a ((a, oe) :: pn)) hK List.mem_cons_self hz hf
section
variable {K : PySem.W.Frag} {μ : M} {Φ : D → M → Prop} {a : Addr} {cls : Value} {d : Option Addr}
def Xdk (μ : M) (d : Option Addr) : Prop := d = none ∨ ∃ dd fs, d = some dd ∧ μ dd = some (.xd fs)
theorem xdk_h {H : Hp} (c : Z.Con K H μ) (h : Xdk μ d) : d = none ∨ ∃ dd fs, d = some dd ∧ H dd = some (.xd fs) := by
  rcases h with h | ⟨dd, fs, h, e⟩
  · exact .inl h
  · obtain ⟨vs, hv, _⟩ := c _ _ e
    exact .inr ⟨dd, vs, h, hv⟩
theorem rc_isYb {D : Addr} {n : String} {b : Bool} (ec : cls = .ref D) (ed : Xdk μ d) (E : ExcC K D) (h : PySem.W.kitOne K (.ref D) (.type n) = some b) (q : Φ (.bl b) μ) : RC K (rIsY K cls d a) [.ref a, .ty n] μ Φ := fun H xs c r Q k => by
  cases r with
  | cons r1 rr =>
    cases rr with
    | cons r2 rr =>
      cases rr
      cases r1
      cases r2
      exact ⟨_, D, b, rfl, ec, xdk_h c ed, E, .inl ⟨_, .ty n, h⟩, k (.bl b) μ _ H Fr.refl c (.bl b) q⟩
theorem rc_isYt {D : Addr} (Cs : List Addr) {b : Bool} (ec : cls = .ref D) (ed : Xdk μ d) (E : ExcC K D) (h : PySem.W.kitAny K (.ref D) (Cs.map .ref) = some b) (q : Φ (.bl b) μ) : RC K (rIsY K cls d a) [.ref a, .tup (Cs.map Z.D.ref)] μ Φ := fun H xs c r Q k => by
  cases r with
  | cons r1 rr =>
    cases rr with
    | cons r2 rr =>
      cases rr
      cases r1
      cases r2 with
      | tup ht rs =>
        obtain ⟨ht⟩ := ht
        exact ⟨_, D, b, rfl, ec, xdk_h c ed, E, .inr ⟨_, _, _, rfl, ht, clsV_refs rs, h⟩, k (.bl b) μ _ H Fr.refl c (.bl b) q⟩
end
end Z
namespace Z
open PySem PySem.Spec PyProof.Rows L2
section
variable {K : PySem.W.Frag} {τ : T} {μ μ1 μ2 : M} {Φ : D → M → Prop} {te : TE}
theorem rc_strI {i : Int} (hi : i.natAbs.log2 < 1920) (q : Φ (.str (Str.ofString (toString i))) μ) : RC K (fun xs H Q => ∃ i : Int, xs = [V.int i] ∧ i.natAbs.log2 < 1920 ∧ Q (.str (Str.ofString (toString i))) H) [.int i] μ Φ := fun H xs c r Q k => by
  cases r with
  | cons a b => cases a; cases b; exact ⟨i, rfl, hi, k _ μ _ H Fr.refl c (.str _) q⟩
end
end Z
namespace Z
open PySem L2 L2M
end Z
namespace Z
open PySem L2
theorem a_cref {K : PySem.W.Frag} {τ : T} {μ : M} {Φ : D → M → Prop} {a : Addr} (h : Φ (.ref a) μ) : AE K (tC (.ref a)) τ μ Φ := fun σ H s c Q k => k (.ref a) μ _ H Fr.refl c (.ref a) h
theorem ro_neS {K : PySem.W.Frag} {μ : M} {Φ : D → M → Prop} {i j : Str} (q : Φ (.bl (!decide (i = j))) μ) : RO K rNe (.str i) (.str j) μ Φ := fun H x y c r1 r2 Q k => by
  cases r1; cases r2
  refine ⟨rfl, ?_⟩
  have e : decide (V.str i = V.str j) = decide (i = j) := by simp
  rw [e]
  exact k _ μ _ H Fr.refl c (.bl _) q
theorem xdk_some {μ : M} {dx : Addr} {fs : List (Str × D)} (h : μ dx = some (.xd fs)) : Xdk μ (some dx) := .inr ⟨dx, fs, rfl, h⟩
end Z
namespace RVT
open PySem PySem.Spec PyProof.Rows L2 HT
def tRevT (K : PySem.W.Frag) (te : TE) : TE := fun σ H Q => te σ H fun x H1 => ∃ a xs, x = .ref a ∧ SqT K H1 a xs ∧ ∀ p, H1 p = none → Q (.ref p) (upd H1 p (.tup xs.reverse))
end RVT
namespace Z
open PySem L2
theorem a_revT {K : PySem.W.Frag} {τ : T} {μ : M} {te : TE} {Φ : D → M → Prop} (h : AE K te τ μ fun d μ1 => ∃ ds, d = .tup ds ∧ Φ (.tup ds.reverse) μ1) : AE K (RVT.tRevT K te) τ μ Φ := fun σ H s c Q k =>
  h σ H s c _ fun d μ1 v H1 f1 c1 r1 ⟨ds, e, q⟩ => by
    subst e
    cases r1 with
    | @tup a xs _ ht hr => exact ⟨a, xs, rfl, ht.sq, fun p hp => k _ _ _ _ (f1.trans (fr_new hp)) (con_new hp c1) (.tup (.inl upd_same) (Rels.mono (tx_new hp) _ _ hr.reverse)) q⟩
end Z
namespace SDT
open PySem PySem.Spec PyProof.Rows L2 PySem.W
end SDT
namespace Z
open PySem L2 SDT PySem.W
end Z
namespace STI
open PySem PySem.Spec PyProof.Rows L2 PySem.W SDT
end STI
namespace Z
open PySem L2 STI PySem.W
end Z
namespace Z
open PySem L2 PySem.W
end Z
namespace Z
open PySem L2 SD PySem.W
end Z
namespace Z
open PySem L2 PySem.W
end Z
namespace RZ3
open PySem PySem.Spec PyProof.Rows L2 RZ
end RZ3
namespace Z
open PySem L2 PySem.W RZ3
end Z
namespace Z
open PySem L2 PySem.W
def isN : D → Bool
  | .non => true
  | _ => false
theorem isN_rel {K : PySem.W.Frag} {H : Hp} {x : V} {d : D} (r : Rel K H x d) : decide (x = V.non) = isN d := by
  cases r <;> simp [isN]
theorem ro_isN {K : PySem.W.Frag} {μ : M} {Φ : D → M → Prop} {d : D} (q : Φ (.bl (isN d)) μ) : RO K (fun x y H Q => y = V.non ∧ Q (V.bl (decide (x = V.non))) H) d .non μ Φ := fun H x y c r1 r2 Q k => by
  cases r2
  rw [isN_rel r1]
  exact ⟨rfl, k _ μ _ H Fr.refl c (.bl _) q⟩
theorem ro_notN {K : PySem.W.Frag} {μ : M} {Φ : D → M → Prop} {d : D} (q : Φ (.bl (!isN d)) μ) : RO K (fun x y H Q => y = V.non ∧ Q (V.bl (!decide (x = V.non))) H) d .non μ Φ := fun H x y c r1 r2 Q k => by
  cases r2
  rw [isN_rel r1]
  exact ⟨rfl, k _ μ _ H Fr.refl c (.bl _) q⟩
end Z
namespace EN
open PySem PySem.Spec PyProof.Rows L2
end EN
namespace Z
open PySem L2 EK EN
end Z
namespace Z
open PySem L2 OD PySem.W
end Z
namespace Z
open PySem L2 PySem.W
end Z
namespace ITT
open PySem PySem.Spec PyProof.Rows L2 PySem.W
end ITT
namespace Z
open PySem L2 ITT PySem.W
end Z
namespace OD2
open PySem PySem.Spec PyProof.Rows L2 PySem.W
end OD2
namespace Z
open PySem L2 OD2 PySem.W
end Z
namespace L2T
open PySem PySem.Spec PyProof.Rows L2 L2M
end L2T
namespace Z
open PySem L2 L2M L2T
structure HT where
  cs : List Value
  oi : Option Nat
  tu : Addr → Value → Option Addr → TS
  hit : Str → Bool
def HT.t (h : HT) : List Value × Option Nat × (Addr → Value → Option Addr → TS) := (h.cs, h.oi, h.tu)
end Z
namespace XO
open PySem PySem.Spec PySem.W PySem.Calls PyProof.Rows PySem.HandSPX L2
end XO
namespace Z
open PySem L2 PyProof.Rows
end Z
namespace SIT
open PySem PySem.Spec PyProof.Rows L2 PySem.W SD SDT
/-- values as they were collected, and the data that they tell -/
structure Row (X : Cx) (H : Hp) (us : List Value) (bs : List (V × PyData)) : Prop where
  vals : Vals (bs.map (·.1)) us
  tell : ∀ b ∈ bs, Dp X.K H b.1 b.2 ∧ b.2.depth ≤ 8
  alike : AllAlike (bs.map (·.2))
  can : Sortable (bs.map (·.2))
  few : bs.length ≤ sizeLine
end SIT
namespace Z
open PySem L2 SIT PySem.W
end Z
namespace CNT
open PySem PySem.Spec PyProof.Rows L2 PySem.W PySem.SeqAt
end CNT
namespace Z
open PySem L2 CNT PySem.W
end Z
namespace Z
open PySem L2 CNT SIT PySem.W PySem.Spec PyProof.Rows
section
variable {X : Cx} {K : PySem.W.Frag} {e o a : Expr} {te to ta : TE} {p p2 q apos cpos pos : Pos}
theorem pe_joinK {apos pos : Pos} (h : X.K = K) (ho : PE X o to) (he : PE X e te) (hs : starEach [e] X.env = [(false, eval e X.env)] := by rfl) (hbase : attributeBase o "join" X.env (eval o X.env) = eval o X.env := by rfl) (hline : (apos.endLine == pos.line) = true := by rfl) :
    PE X (.Call (.Attribute o "join" apos) [e] [] pos) (tM1 (fun x xs H Q => ∃ a p, ∃ ys : List Str, x = .str a ∧ xs = [.ref p] ∧ (SqL K H p (ys.map V.str) ∨ SqT K H p (ys.map V.str)) ∧
      (ys.map (·.length)).sum + ys.length * a.length ≤ 16777216 ∧ Q (.str (Txt.join a ys)) H) to te) := by subst h; exact pe_join ho he hs hbase hline
end
end Z
namespace Z
open PySem L2 PySem.W
section
variable {K : PySem.W.Frag} {τ : T} {μ : M} {Φ : D → M → Prop} {te to : TE} {H1 : Hp}
/-- a text of one sign -/
abbrev sg (c : Nat) : D := .str ⟨#[c]⟩
/-- texts, as values and as data -/
theorem rels_strs {H : Hp} : ∀ {ns : List Str} {vs : List V}, Rels K H vs (ns.map D.str) → vs = ns.map V.str
  | [], _, .nil => rfl
  | _ :: _, _, .cons (.str _) r => congrArg _ (rels_strs r)
theorem rs_str {a : Str} {lo hi : Option Int} (hz : a.length ≤ sizeLine) (q : Φ (.str (cutS a lo hi)) μ) : RS K rSlS (.str a) lo hi μ Φ := fun H x c r Q k => by
  cases r
  exact ⟨a, rfl, hz, k _ μ _ H Fr.refl c (.str _) q⟩
theorem ro_addS {a b : Str} (hz : a.length + b.length ≤ sizeLine) (q : Φ (.str (a ++ b)) μ) : RO K (fun x y H Q => ∃ i j, x = .str i ∧ y = .str j ∧ i.length + j.length ≤ sizeLine ∧ Q (.str (i ++ j)) H) (.str a) (.str b) μ Φ := fun H x y c r1 r2 Q k => by
  cases r1; cases r2
  exact ⟨a, b, rfl, rfl, hz, k _ μ _ H Fr.refl c (.str _) q⟩
/-- one sign in a text -/
theorem ro_inSg {n : Nat} {b : Str} (q : Φ (.bl (decide (n ∈ b.cps.toList))) μ) : RO K (fun x y H Q => ∃ (c : Nat) (z : Str), x = .str ⟨#[c]⟩ ∧ y = .str z ∧ Q (.bl (decide (c ∈ z.cps.toList))) H) (sg n) (.str b) μ Φ := fun H x y c r1 r2 Q k => by
  cases r1; cases r2
  exact ⟨n, b, rfl, rfl, k _ μ _ H Fr.refl c (.bl _) q⟩
theorem a_fmtI {i : Int} (hz : i.natAbs.log2 < 1920) (h : AE K te τ μ fun o μ1 => o = .int i ∧ Φ (.str (Str.ofString (toString i))) μ1) : AE K (tFmt te) τ μ Φ := fun σ H s c Q k =>
  h σ H s c _ fun o μ1 v H1 f1 c1 r1 ⟨e, q⟩ => by
    subst e
    cases r1
    exact .inr ⟨i, rfl, hz, k _ _ _ _ f1 c1 (.str _) q⟩
/-- the parts, one behind the other -/
def AJ (K : PySem.W.Frag) (ts : List TE) (acc : Str) (τ : T) (μ : M) (Ψ : Str → M → Prop) : Prop :=
  ∀ σ H, Slots K H τ σ → Z.Con K H μ → ∀ Q : Str → Hp → Prop, (∀ out μ1 H1, Fr μ μ1 H H1 → Z.Con K H1 μ1 → Ψ out μ1 → Q out H1) → tJs ts acc σ H Q
theorem aj_nil {acc : Str} {Ψ : Str → M → Prop} (q : Ψ acc μ) : AJ K [] acc τ μ Ψ := fun _ H _ c Q k => k acc μ H Fr.refl c q
theorem aj_cons {t : TE} {ts : List TE} {acc : Str} {Ψ : Str → M → Prop} (h : AE K t τ μ fun o μ1 => ∃ y : Str, o = .str y ∧ (acc ++ y).length ≤ sizeLine ∧ AJ K ts (acc ++ y) τ μ1 Ψ) : AJ K (t :: ts) acc τ μ Ψ := fun σ H s c Q k =>
  h σ H s c _ fun o μ1 v H1 f1 c1 r1 ⟨y, e, hz, q⟩ => by
    subst e
    cases r1
    exact ⟨y, rfl, hz, q σ H1 (s.mono (f1.tx c)) c1 _ fun out μ2 H2 f2 c2 q2 => k out μ2 H2 (f1.trans f2) c2 q2⟩
theorem a_js {ts : List TE} (h : AJ K ts Str.empty τ μ fun out μ1 => Φ (.str out) μ1) : AE K (fun σ H Q => tJs ts Str.empty σ H fun out H1 => Q (.str out) H1) τ μ Φ := fun σ H s c Q k =>
  h σ H s c _ fun out μ1 H1 f1 c1 q => k _ _ _ _ f1 c1 (.str out) q
end
end Z
namespace Z
open PySem PySem.Spec PyProof.Rows L2
end Z
namespace Z
open PySem PySem.Spec PySem.Calls PyProof.Rows L2
/-- a text turned -/
def revS (x : Str) : Str := ⟨x.cps.toList.reverse.toArray⟩
def tRevS (te : TE) : TE := fun σ H Q => te σ H fun v H1 => ∃ x, v = .str x ∧ x.length ≤ sizeLine ∧ Q (.str (revS x)) H1
section
variable {K : PySem.W.Frag} {τ : T} {μ : M} {Φ : D → M → Prop} {te : TE}
theorem a_revS {x : Str} (hz : x.length ≤ sizeLine) (h : AE K te τ μ fun d μ1 => d = .str x ∧ Φ (.str (revS x)) μ1) : AE K (tRevS te) τ μ Φ := fun σ H s c Q k =>
  h σ H s c _ fun d μ1 v H1 f1 c1 r1 ⟨e, q⟩ => by
    subst e
    cases r1
    exact ⟨x, rfl, hz, k _ _ _ _ f1 c1 (.str _) q⟩
end
end Z
namespace Z
open PySem PySem.Spec PySem.Calls PyProof.Rows L2
end Z
namespace Z
open PySem PySem.Spec PyProof.Rows L2
section
variable {K : PySem.W.Frag} {τ : T} {μ : M} {Φ : D → M → Prop} {te to : TE}
/-- sep.join(xs), xs a list or a tuple of texts, whatever it turns out to be -/
theorem m_joinV {a : Str} (h : AE K to τ μ fun o μ1 => o = .str a ∧ AE K te τ μ1 fun y μ2 => ∃ ys : List Str, seqD μ2 y = some (ys.map D.str) ∧ (ys.map (·.length)).sum + ys.length * a.length ≤ 16777216 ∧ Φ (.str (Txt.join a ys)) μ2) :
    AE K (tM1 (fun x xs H Q => ∃ a p, ∃ ys : List Str, x = .str a ∧ xs = [.ref p] ∧ (SqL K H p (ys.map V.str) ∨ SqT K H p (ys.map V.str)) ∧ (ys.map (·.length)).sum + ys.length * a.length ≤ 16777216 ∧ Q (.str (Txt.join a ys)) H) to te) τ μ Φ := fun σ H s c Q k =>
  h σ H s c _ fun o μ1 v H1 f1 c1 r1 ⟨e, p1⟩ => by
    subst e
    cases r1
    refine ⟨⟨_, rfl⟩, p1 σ H1 (s.mono (f1.tx c)) c1 _ fun y μ2 u H2 f2 c2 r2 ⟨ys, at_, hz, q⟩ => ?_⟩
    obtain ⟨p, xs, rfl, hq, hr⟩ := seq_of c2 r2 at_
    exact ⟨a, p, ys, rfl, rfl, rels_strs hr ▸ hq, hz, k _ _ _ _ (f1.trans f2) c2 (.str _) q⟩
/-- how long the texts of these laws grow -/
abbrev lng : Nat := 10000
theorem lng_line {n : Nat} (h : n ≤ lng) : n ≤ sizeLine := Nat.le_trans h (by decide)
end
end Z
namespace Z
open PySem PySem.Spec PyProof.Rows L2
end Z
namespace OWN
open PySem PySem.Spec PyProof.Rows L2
section
variable {X : Cx} {A : Around} {C f : Addr} {fd : FuncData} {ps : List Str} {k : Nat} {sp : Sp} {pins : List (Addr × Obj)} {σ : L2.St} {H : Hp} {s : Shared} {Q : VK}
/-- a def of the text that a builtin calls, somewhere below the running body: it lets nothing out -/
theorem below {us : List Value} {vs : List V} (F : FnOk X.prog X.w X.K X.mg X.base (L2.CX X.prog X.w) k f fd ps sp) (hb : Binds X.K fd ps []) (room : Room k A) (e0 : Env0 X.prog X.w X.K X.mg X.base A X.stack s H)
    (I : Inv X pins σ H s) (r : Vals vs us) (want : sp vs H Q E0) : wpAny (model X.prog X.w) A (call (.ref f) us) (EP X pins σ Q) X.xe s := by
  have many : (us ++ []).length = ps.length := by rw [List.append_nil, ← r.length]; exact F.len _ _ _ _ want
  have bound := hb s us I.kIn many
  rw [List.append_nil] at bound
  refine wpAny_call (codeAny_mono (F.run A X.stack s H ⟨us, []⟩ us vs Q E0 room e0 bound r want) fun out s' back => ?_)
  match out, back with
  | .ok (.ret _), back => exact I.after back
  | .error e, back => exact passL pins σ H s e s' I back
/-- an instance of the class at C -/
theorem inst_at {a dx : Addr} {fs : List (Str × V)} (I : Inv X pins σ H s) (h : H a = some (.ins C dx fs)) : ∃ od, PySem.W.InstAt s.heap a (PySem.W.instObj C dx) C (some od) :=
  let ⟨_, m, _⟩ := ins_get I.hok h
  let ⟨od, at_, _⟩ := m.look
  ⟨od, at_⟩
/-- both sides are instances of C -/
def Two (C : Addr) (H : Hp) (x y : V) : Prop := ∃ (a b dx dy : Addr) (fs gs : List (Str × V)), x = .ref a ∧ y = .ref b ∧ H a = some (.ins C dx fs) ∧ H b = some (.ins C dy gs)
def rEqO (C : Addr) (sp : Sp) : R2 := fun x y H Q => Two C H x y ∧ sp [x, y] H Q E0
def rNeO (C : Addr) (sp : Sp) : R2 := fun x y H Q => Two C H x y ∧ sp [x, y] H (fun v H' => ∃ b, v = .bl b ∧ Q (.bl (!b)) H') E0
theorem op_eqO (G : Z.Mth X.prog X.w X.K X.mg X.base C "__eq__" ps k sp) (room : Room k X.A) : OpR X (compareOp .Eq) (rEqO C sp) := by
  intro pins s σ H x y u v Q I rx ry ⟨⟨a, b, dx, dy, fs, gs, ex, ey, ha, hb⟩, want⟩
  subst ex ey
  cases (show u = Value.ref a from rx)
  cases (show v = Value.ref b from ry)
  obtain ⟨f, fd, F, _, m, bd⟩ := G.ex
  obtain ⟨_, J⟩ := inst_at I ha
  obtain ⟨_, J'⟩ := inst_at I hb
  obtain ⟨ns, fr⟩ := I.fr
  show wpAny _ X.A (richCompare .Eq _ _) _ _ s
  refine PySem.W.cmp_K (op := .Eq) (tb := .ref C) room.units0 fr I.ok.mod.kin J J'.type (by simp [PySem.W.notFirst]) m.at_ m.fn ?_
  refine wpAny_mono (below (us := [.ref a, .ref b]) (vs := [.ref a, .ref b]) F bd room I.env0 I (.cons rfl (.cons rfl .nil)) want) (fun w s' got => ?_) fun _ _ e => e
  obtain ⟨z, H', I', rz, q⟩ := got
  exact SlX.cmpback rz ⟨z, H', I', rz, q⟩
/-- the slot of object behind !=: the own == and the other truth -/
theorem ne_code {a b : Addr} {ox : Obj} {od : Option Obj} {E : Value → Shared → Prop} {R : Fin → Shared → Prop} {K : PySem.W.Frag} {prog : Program} {w : World} (few : A.units < cLine) (kin : K.In s.heap) (J : PySem.W.InstAt s.heap a ox C od)
    (at_ : PySem.W.findIn K (.ref C) "__eq__" = some (some (.ref f))) (fn : PySem.W.isFn K (.ref f) = true)
    (asks : wpAny (model prog w) A (call (.ref f) [.ref a, .ref b]) (fun v s' => ∃ t, v = .bool t ∧ R (.done (.ret (.bool (!t)))) s') E s) : wpAny (model prog w) A (Builtin.«object.__ne__» ⟨[.ref a, .ref b], []⟩) R E s := by
  have told : wpAny (model prog w) A (callSpecialIfBound? (.ref a) (Str.ofString "__eq__") [.ref b]) (fun r s' => ∃ t, r = some (.bool t) ∧ R (.done (.ret (.bool (!t)))) s') E s :=
    PySem.W.ifBound_K kin J at_ fn (wpAny_mono asks (fun v s' ⟨t, e, q⟩ => ⟨t, congrArg some e, q⟩) fun _ _ e => e)
  unfold Builtin.«object.__ne__»
  repeat (first
    | with_reducible refine wpAny_cRoomFor few ?_
    | (refine wpAny_bind (m := callSpecialIfBound? (.ref a) (Str.ofString "__eq__") [.ref b]) (wpAny_mono told (fun r s' got => ?_) fun _ _ e => e))
    | wp_step)
  obtain ⟨t, rfl, q⟩ := got
  repeat (first | exact q | exact wpAny_pure q | exact wpAny_truthy_bool q | (refine wpAny_bind (m := truthy (.bool _)) (wpAny_truthy_bool ?_)) | wp_step)
/-- o != p: object's own slot answers -/
theorem ne_asked {a b : Addr} {ox : Obj} {od : Option Obj} {E : Value → Shared → Prop} {R : Value → Shared → Prop} {K : PySem.W.Frag} {prog : Program} {w : World} (few : A.units + 1 < cLine) (kin : K.In s.heap) (J : PySem.W.InstAt s.heap a ox C od)
    (ne : PySem.W.findIn K (.ref C) "__ne__" = some (some (.builtin "object.__ne__"))) (ob : PySem.W.mroIn K C (.type "object") = some true) (at_ : PySem.W.findIn K (.ref C) "__eq__" = some (some (.ref f))) (fn : PySem.W.isFn K (.ref f) = true)
    (asks : wpAny (model prog w) A.in1 (call (.ref f) [.ref a, .ref b]) (fun v s' => ∃ t, v = .bool t ∧ R (.bool (!t)) s') E s) :
    wpAny (model prog w) A (callSpecialIfBound? (.ref a) (Str.ofString "__ne__") [.ref b]) (fun r s' => ∃ v, r = some v ∧ R v s') E s := by
  have code : wpAny (model prog w) A (call (.builtin "object.__ne__") ([.ref a] ++ [.ref b])) R E s := by
    refine wpAny_call (codeAny_call_builtin PySem.F.slot_object_ne.plain PySem.F.entry_object_ne (PySem.W.check_slot (i := "object.__ne__") (owner := "object") (n := "__ne__") (by decide +kernel) (by decide +kernel)
      (J.type.andThen (PySem.W.looks_mroIn kin ob)) (PySem.F.args_object_ne_2 _ _) (ne_code (A := A.in1) few kin J at_ fn (wpAny_mono asks (fun v s' got => ?_) fun _ _ e => e))))
    obtain ⟨t, e, q⟩ := got
    exact ⟨t, e, q⟩
  have last : wpAny (model prog w) A (call (.builtin "object.__ne__") ([.ref a] ++ [.ref b]) >>= fun v => pure (some v)) (fun r s' => ∃ v, r = some v ∧ R v s') E s :=
    wpAny_bind (wpAny_mono code (fun v s' q => wpAny_pure ⟨v, rfl, q⟩) fun _ _ e => e)
  simp only [callSpecialIfBound?, bindSpecialIfBound?]
  refine wpAny_holding (wpAny_bind (wpAny_bind (wpAny_bind (J.type.here ((PySem.W.looks_findIn kin ne).here ?_)))))
  simp only [PySem.F.slot_object_ne.bind]
  refine wpAny_bind (wpAny_askSetting (wpAny_ite ?_))
  split
  · exact wpAny_bind (wpAny_pure (wpAny_pure last))
  · exact wpAny_tryCatch (wpAny_bind (wpAny_pure (wpAny_pure last)))
theorem op_neO (G : Z.Mth X.prog X.w X.K X.mg X.base C "__eq__" ps k sp) (ne : PySem.W.findIn X.K (.ref C) "__ne__" = some (some (.builtin "object.__ne__"))) (ob : PySem.W.mroIn X.K C (.type "object") = some true) (room : Room (k + 1) X.A) :
    OpR X (compareOp .NotEq) (rNeO C sp) := by
  intro pins s σ H x y u v Q I rx ry ⟨⟨a, b, dx, dy, fs, gs, ex, ey, ha, hb⟩, want⟩
  subst ex ey
  cases (show u = Value.ref a from rx)
  cases (show v = Value.ref b from ry)
  obtain ⟨f, fd, F, _, m, bd⟩ := G.ex
  obtain ⟨_, J⟩ := inst_at I ha
  obtain ⟨_, J'⟩ := inst_at I hb
  have few := room.un
  have got := ne_asked (R := EP X pins σ Q) (E := X.xe) (by omega) I.kIn J ne ob m.at_ m.fn (b := b) (wpAny_mono (below (us := [.ref a, .ref b]) (vs := [.ref a, .ref b]) F bd room.in1 I.env0.in1 I (.cons rfl (.cons rfl .nil)) want) (fun w s' got => by
    obtain ⟨z, H', I', rz, t, ez, q⟩ := got
    subst ez
    cases rz
    exact ⟨t, rfl, .bl (!t), H', I', rfl, q⟩) fun _ _ e => e)
  show wpAny _ X.A (richCompare .NotEq _ _) _ _ s
  unfold richCompare
  simp only [oneThing_ref]
  refine wpAny_holding (wpAny_bind (wpAny_cRoomFor room.units0 (wpAny_bind (J.type.here (wpAny_bind (J'.type.here ?_))))))
  rw [show (Value.ref C != Value.ref C) = false from by simp]
  simp only [Bool.false_eq_true, if_false]
  refine wpAny_bind (wpAny_pure ?_)
  simp only [Bool.false_eq_true, if_false]
  unfold tryCompare
  refine wpAny_bind (wpAny_bind (wpAny_mono got (fun r s' ⟨v, e, q⟩ => ?_) fun _ _ e => e))
  subst e
  obtain ⟨z, H', I', rz, q'⟩ := q
  cases v <;> first
    | exact wpAny_pure (wpAny_pure ⟨z, H', I', rz, q'⟩)
    | (exfalso; cases z <;> first | exact nomatch rz | (obtain ⟨_, e⟩ := rz; exact nomatch e))
/-- str(o) by the class's own __str__ -/
def rStrO (C : Addr) (sp : Sp) : List V → Hp → VK → Prop := fun xs H Q => ∃ (a dx : Addr) (fs : List (Str × V)), xs = [.ref a] ∧ H a = some (.ins C dx fs) ∧ sp [.ref a] H (fun v H2 => ∃ t, v = .str t ∧ Q (.str t) H2) E0
theorem cr_strO (G : Z.Mth X.prog X.w X.K X.mg X.base C "__str__" ps k sp) (room : Room (k + 2) X.A) : CallR X (.type "str") (rStrO C sp) := by
  intro pins s σ H xs us Q I r ⟨a, dx, fs, e, ha, want⟩
  subst e
  obtain ⟨u, rfl, ru⟩ := vals1 r
  obtain rfl : u = Value.ref a := ru
  obtain ⟨f, fd, F, _, m, bd⟩ := G.ex
  obtain ⟨_, J⟩ := inst_at I ha
  have room1 : Room (k + 1) X.A.in1 := room.in1
  refine PySem.W.kso_call room1.in1.units0 I.kIn J m.at_ m.fn (wpAny_mono (below (us := [.ref a]) (vs := [.ref a]) F bd room1.in1 I.env0.in1.in1 I (.cons rfl .nil) want) (fun w s' got => ?_) fun _ _ e => e)
  obtain ⟨z, H', I', rz, t, ez, q⟩ := got
  subst ez
  obtain ⟨tk, rfl⟩ := (show ∃ tk, w = Value.str t tk from rz)
  exact ⟨.str t, H', I', ⟨_, rfl⟩, q⟩
/-- a special method that the instance's class has by a def: the def is called -/
theorem special_told {a : Addr} {ox : Obj} {od : Option Obj} {n : Str} {M : Model} {E : Value → Shared → Prop} {R : Option Value → Shared → Prop} {K : PySem.W.Frag} (kin : K.In s.heap) (J : PySem.W.InstAt s.heap a ox C od)
    (at_ : PySem.W.findIn K (.ref C) n = some (some (.ref f))) (fn : PySem.W.isFn K (.ref f) = true) (asks : wpAny M A (call (.ref f) [.ref a]) (fun v => R (some v)) E s) : wpAny M A (callSpecial? (.ref a) n) R E s := by
  have seen : PySem.W.Looks M s.heap (specialOf (.ref a) n) (some (.ref f)) := J.type.andThen (PySem.W.looks_findIn kin at_)
  have bound : PySem.W.Looks M s.heap (bindSpecial (.ref f) (.ref a)) (Value.ref f, [Value.ref a]) := (PySem.W.looks_typeIn kin (beq_iff_eq.mp fn)).andThen (PySem.W.Looks.of_pure rfl)
  have last : wpAny M A (call (.ref f) [.ref a] >>= fun v => pure (some v)) R E s := wpAny_bind (wpAny_mono asks (fun _ _ q => wpAny_pure q) fun _ _ e => e)
  unfold callSpecial?
  exact wpAny_bind (seen.here (wpAny_holding (wpAny_bind (bound.here last))))
/-- len(o) by the class's own __len__ -/
def rLenO (C : Addr) (sp : Sp) : List V → Hp → VK → Prop := fun xs H Q => ∃ (a dx : Addr) (fs : List (Str × V)), xs = [.ref a] ∧ H a = some (.ins C dx fs) ∧ sp [.ref a] H (fun v H2 => ∃ n : Int, v = .int n ∧ 0 ≤ n ∧ n < 2 ^ 63 ∧ Q (.int n) H2) E0
theorem cr_lenO (G : Z.Mth X.prog X.w X.K X.mg X.base C "__len__" ps k sp) (room : Room (k + 1) X.A) : CallR X (.builtin "len") (rLenO C sp) := by
  rintro pins s σ H _ us Q I r ⟨a, dx, fs, rfl, ha, want⟩
  obtain ⟨u, rfl, ru⟩ := vals1 r
  obtain rfl : u = Value.ref a := ru
  obtain ⟨f, fd, F, _, m, bd⟩ := G.ex
  obtain ⟨_, J⟩ := inst_at I ha
  have room1 : Room k X.A.in1 := room.in1
  have body : wpAny (model X.prog X.w) X.A.in1 (Builtin.«len» ⟨[.ref a], []⟩) (fun fin s' => ∃ v, fin = .done (.ret v) ∧ EP X pins σ Q v s') X.xe s := by
    unfold Builtin.«len»
    refine wpAny_bind (m := oneArg _ _) (wpAny_pure (wpAny_bind (special_told I.kIn J m.at_ m.fn (wpAny_mono (below (us := [.ref a]) (vs := [.ref a]) F bd room1 I.env0.in1 I (.cons rfl .nil) want) (fun v s' got => ?_) fun _ _ e => e))))
    obtain ⟨_, H', I', rz, n, rfl, n0, n1, q⟩ := got
    obtain ⟨t, rfl⟩ := (show ∃ t, v = Value.int n t from rz)
    repeat (first
      | (rw [if_neg (show ¬n < 0 by omega)])
      | (rw [if_neg (show ¬n ≥ 2 ^ 63 by omega)])
      | exact wpAny_mkInt (wpAny_pure ⟨_, rfl, .int n, H', I'.tok _, ⟨_, rfl⟩, q⟩)
      | refine wpAny_bind (wpAny_holding (wpAny_pure ?_))
      | refine wpAny_bind (wpAny_letGo ?_)
      | wp_step)
  exact Calls.call_function_entry kind_len plain_len entry_len (args_len1 _) body
end
end OWN
namespace Z
open PySem L2 OWN
section
variable {K : PySem.W.Frag} {τ : T} {μ : M} {Φ : D → M → Prop} {P : PT3} {C a b dx dy : Addr} {fs gs : List (Str × D)}
theorem ro_eqO (ha : μ a = some (.ins C dx fs)) (hb : μ b = some (.ins C dy gs)) (p : P [.ref a, .ref b] μ Φ) : RO K (rEqO C (spI K P)) (.ref a) (.ref b) μ Φ := fun H x y c rx ry Q k => by
  cases rx; cases ry
  obtain ⟨_, ea, _⟩ := c a _ ha
  obtain ⟨_, eb, _⟩ := c b _ hb
  exact ⟨⟨a, b, dx, dy, _, _, rfl, rfl, ea, eb⟩, _, μ, Φ, .cons (.ref a) (.cons (.ref b) .nil), c, p, fun d μ' v H' f c' r q => k d μ' v H' f c' r q⟩
theorem ro_neO (ha : μ a = some (.ins C dx fs)) (hb : μ b = some (.ins C dy gs)) (p : P [.ref a, .ref b] μ fun d μ' => ∃ t, d = .bl t ∧ Φ (.bl (!t)) μ') : RO K (rNeO C (spI K P)) (.ref a) (.ref b) μ Φ := fun H x y c rx ry Q k => by
  cases rx; cases ry
  obtain ⟨_, ea, _⟩ := c a _ ha
  obtain ⟨_, eb, _⟩ := c b _ hb
  refine ⟨⟨a, b, dx, dy, _, _, rfl, rfl, ea, eb⟩, _, μ, _, .cons (.ref a) (.cons (.ref b) .nil), c, p, fun d μ' v H' f c' r ⟨t, e, q⟩ => ?_⟩
  subst e
  cases r
  exact ⟨t, rfl, k _ μ' _ H' f c' (.bl _) q⟩
/-- len(o) by the class's own __len__ -/
theorem rc_lenO {PX : PT3} (ha : μ a = some (.ins C dx fs)) (h : PX [.ref a] μ fun d μ' => ∃ n : Int, d = .int n ∧ 0 ≤ n ∧ n < 2 ^ 63 ∧ Φ (.int n) μ') : RC K (rLenO C (spI K PX)) [.ref a] μ Φ := fun H xs c r Q k => by
  cases r with
  | cons r rn =>
  cases r; cases rn
  obtain ⟨vs, hv, hr⟩ := c a _ ha
  refine ⟨a, dx, vs, rfl, hv, [.ref a], μ, _, .cons (.ref a) .nil, c, h, fun d μ' v H' f c' r' q => ?_⟩
  obtain ⟨n, e, n0, n1, q⟩ := q
  subst e
  cases r'
  exact ⟨n, rfl, n0, n1, k _ _ _ _ f c' (.int n) q⟩
theorem rc_strO (ha : μ a = some (.ins C dx fs)) (p : P [.ref a] μ fun d μ' => ∃ t, d = .str t ∧ Φ (.str t) μ') : RC K (rStrO C (spI K P)) [.ref a] μ Φ := fun H xs c r Q k => by
  cases r with
  | cons ra rn =>
    cases ra; cases rn
    obtain ⟨_, ea, _⟩ := c a _ ha
    refine ⟨a, dx, _, rfl, ea, _, μ, _, .cons (.ref a) .nil, c, p, fun d μ' v H' f c' r ⟨t, e, q⟩ => ?_⟩
    subst e
    cases r
    exact ⟨t, rfl, k _ μ' _ H' f c' (.str _) q⟩
structure IsiC (K : PySem.W.Frag) (C : Addr) : Prop where
  ca : PySem.W.findIn K (.ref C) "__class__" = some (some (.builtin "object.__class__"))
  cn : PySem.W.specialIn K (.builtin "object.__class__") "__get__" = some (some (.builtin "getset_descriptor.__get__"))
  ct : PySem.W.takesIn K (.builtin "object.__class__") = some true
  cm : PySem.W.mroIn K C (.type "object") = some true
theorem rc_isiO {c : D} {u : Value} {t : Bool} (ha : μ a = some (.ins C dx fs)) (cl : Cls K C) (ic : IsiC K C) (hc : (∃ n, c = .ty n ∧ u = .type n) ∨ ∃ B, c = .ref B ∧ u = .ref B) (ki : PySem.W.kitOne K (.ref C) u = some t) (q : Φ (.bl t) μ) : RC K (rIsi K) [.ref a, c] μ Φ := fun H xs cc r Q k => by
  cases r with
  | cons ra r2 =>
    cases r2 with
    | cons rb rn =>
      cases ra; cases rn
      obtain ⟨_, ea, _⟩ := cc a _ ha
      rcases hc with ⟨n, e1, e2⟩ | ⟨B, e1, e2⟩
      · subst e1 e2; cases rb
        exact ⟨_, _, .ref C, _, t, rfl, .ty n, .base (.ins ea cl ic.ca ic.cn ic.ct ic.cm), ki, k _ μ _ H Fr.refl cc (.bl _) q⟩
      · subst e1 e2; cases rb
        exact ⟨_, _, .ref C, _, t, rfl, .own B, .base (.ins ea cl ic.ca ic.cn ic.ct ic.cm), ki, k _ μ _ H Fr.refl cc (.bl _) q⟩
theorem rc_isiD {d : D} {n : String} {t : Bool} (h : tyn μ d = some n) (ki : PySem.W.kitOne K (.type n) (.ref C) = some t) (q : Φ (.bl t) μ) : RC K (rIsi K) [d, .ref C] μ Φ := fun H xs cc r Q k => by
  cases r with
  | cons ra r2 =>
    cases r2 with
    | cons rb rn =>
      cases rb; cases rn
      exact ⟨_, _, .type n, _, t, rfl, .own C, tyx_of cc ra h, ki, k _ μ _ H Fr.refl cc (.bl _) q⟩
end
end Z
namespace OWN
open PySem PySem.Spec PyProof.Rows L2
section
variable {X : Cx} {A : Around} {C f a dx : Addr} {fd : FuncData} {ps : List Str} {k : Nat} {sp : Sp} {pins : List (Addr × Obj)} {σ : L2.St} {H : Hp} {s : Shared} {Q : VK} {od : Option Obj}
/-- o == y, y of a type that is no class below o's -/
def rEqX (K : PySem.W.Frag) (C : Addr) (sp : Sp) : R2 := fun x y H Q => ∃ (a dx : Addr) (fs : List (Str × V)) (t : Value), x = .ref a ∧ H a = some (.ins C dx fs) ∧ TyX K H y t ∧ PySem.W.notFirst K C t = true ∧ sp [x, y] H Q E0
theorem op_eqX (G : Z.Mth X.prog X.w X.K X.mg X.base C "__eq__" ps k sp) (room : Room k X.A) : OpR X (compareOp .Eq) (rEqX X.K C sp) := by
  intro pins s σ H x y u v Q I rx ry ⟨a, dx, fs, t, ex, ha, ty, nf, want⟩
  subst ex
  cases (show u = Value.ref a from rx)
  obtain ⟨f, fd, F, _, m, bd⟩ := G.ex
  obtain ⟨_, J⟩ := inst_at I ha
  obtain ⟨Z, kx, here, -⟩ := kit_of I ry ty
  obtain ⟨ns, fr⟩ := I.fr
  show wpAny _ X.A (richCompare .Eq _ _) _ _ s
  refine PySem.W.cmp_K (op := .Eq) (tb := t) room.units0 fr I.ok.mod.kin J (kx.ty _ _ I.kIn here) nf m.at_ m.fn ?_
  refine wpAny_mono (below (us := [.ref a, v]) (vs := [.ref a, y]) F bd room I.env0 I (.cons rfl (.cons ry .nil)) want) (fun w s' got => ?_) fun _ _ e => e
  obtain ⟨z, H', I', rz, q⟩ := got
  exact SlX.cmpback rz ⟨z, H', I', rz, q⟩
/-- data that leaves the answer to the other side -/
inductive Meek (K : PySem.W.Frag) (C : Addr) (H : Hp) : V → Prop
  | non (e : PySem.W.subIn K (.ref C) (.type "NoneType") = some false) : Meek K C H .non
  | int (i : Int) (e : PySem.W.subIn K (.ref C) (.type "int") = some false) : Meek K C H (.int i)
  | tup (b : Addr) (xs : List V) (h : SqT K H b xs) (e : PySem.W.subIn K (.ref C) (.type "tuple") = some false) : Meek K C H (.ref b)
/-- y == o where y's own type declines -/
theorem turned_eq {K : PySem.W.Frag} {prog : Program} {w : World} {E : Value → Shared → Prop} {R : Value → Shared → Prop} {v : Value} {T id : String} {ox : Obj} (few : A.units < cLine) (kin : K.In s.heap) (J : PySem.W.InstAt s.heap a ox C od) (self : s.TypeIs v T)
    (no : PySem.W.subIn K (.ref C) (.type T) = some false) (slot : Slot T (cmpInfo .Eq).2.1 id) (decl : ∀ Q' : Value → Shared → Prop, Q' .notImplemented s → wpAny (model prog w) A (call (.builtin id) [v, .ref a]) Q' E s)
    (at_ : PySem.W.findIn K (.ref C) "__eq__" = some (some (.ref f))) (fn : PySem.W.isFn K (.ref f) = true)
    (asks : wpAny (model prog w) A (call (.ref f) [.ref a, v]) (PySem.W.CmpBack R) E s) : wpAny (model prog w) A (richCompare .Eq v (.ref a)) R E s := by
  have own : wpAny (model prog w) A (tryCompare (.ref a) (cmpInfo .Eq).2.1 v) (fun r s' => ∃ z, r = some z ∧ R z s') E s := by
    unfold tryCompare
    refine wpAny_bind (PySem.W.ifBound_K kin J at_ fn (wpAny_mono asks (fun z s' q => ?_) fun _ _ e => e))
    cases z <;> first | exact q.elim | exact wpAny_pure ⟨_, rfl, q⟩
  unfold richCompare
  simp only [self.oneThing_none]
  refine wpAny_holding (wpAny_bind (wpAny_cRoomFor few (wpAny_bind (wpAny_typeOf self (wpAny_bind (J.type.here ?_))))))
  rw [if_pos (by simp)]
  refine wpAny_bind ((PySem.W.looks_subIn kin no).here ?_)
  simp only [Bool.false_eq_true, if_false, Bool.not_false, if_true]
  refine wpAny_bind (wpAny_tryCompare_declines self slot (decl _ ⟨rfl, wpAny_bind (wpAny_mono own (fun r s' ⟨z, e, q⟩ => ?_) fun _ _ e => e)⟩))
  subst e
  exact wpAny_pure q
theorem decl_none {K : PySem.W.Frag} {prog : Program} {w : World} {E : Value → Shared → Prop} {Q' : Value → Shared → Prop} (q : Q' .notImplemented s) : wpAny (model prog w) A (call (.builtin "NoneType.__eq__") [.none, .ref a]) Q' E s := by
  refine GQ.call_here PySem.F.slot_NoneType_eq (typeIs_none _) PySem.F.entry_NoneType_eq (PySem.F.args_NoneType_eq_2 _ _) ?_
  obtain ⟨hp, g, d, tk, os⟩ := s
  wp_walk
  exact q
theorem decl_int {K : PySem.W.Frag} {prog : Program} {w : World} {E : Value → Shared → Prop} {Q' : Value → Shared → Prop} {i : Int} {t : Tok} (J : PySem.W.InstAt s.heap a (PySem.W.instObj C dx) C od) (q : Q' .notImplemented s) :
    wpAny (model prog w) A (call (.builtin "int.__eq__") [.int i t, .ref a]) Q' E s := by
  have at_ := J.at_
  refine GQ.call_here PySem.F.slot_int_eq (typeIs_int _ _ _) PySem.F.entry_int_eq (PySem.F.args_int_eq_2 _ _) ?_
  obtain ⟨hp, g, d, tk, os⟩ := s
  wp_walk using AutoSeq1.wpAny_loadPart' at_, wpAny_load at_
  exact q
theorem decl_tup {K : PySem.W.Frag} {prog : Program} {w : World} {E : Value → Shared → Prop} {Q' : Value → Shared → Prop} {b : Addr} {its : Array Value} (kin : K.In s.heap) (J : PySem.W.InstAt s.heap a (PySem.W.instObj C dx) C od) (no : PySem.W.subIn K (.ref C) (.type "tuple") = some false) (hb : s.heap.IsTuple b its) (q : Q' .notImplemented s) :
    wpAny (model prog w) A (call (.builtin "tuple.__eq__") [.ref b, .ref a]) Q' E s := by
  have notup : PySem.W.Looks (model prog w) s.heap (isInstance (.ref a) (.type "tuple")) false := J.type.andThen (PySem.W.looks_subIn kin no)
  refine GQ.call_here PySem.F.slot_tuple_eq (let ⟨o, h1, h2, _⟩ := hb; ⟨o, h1, h2⟩) PySem.F.entry_tuple_eq (PySem.F.args_tuple_eq_2 _ _) ?_
  wp_walk using notup.here
  exact q
end
end OWN
namespace OWN
open PySem PySem.Spec PyProof.Rows L2
/-- the loop of a list's membership, the state moving from turn to turn -/
theorem contains_turns {prog : Program} {w : World} {A : Around} {l : Addr} {N : Nat} {x : Value} {I : Nat → Shared → Prop} {R : Result → Shared → Prop}
    (turn : ∀ i s, I i s → ∃ (items : Array Value) (n : Nat), s.heap.get? l = some { cls := .type "list", data := .seq items n } ∧ items.size = N ∧
      ∀ h : i < items.size, wpAny (model prog w) A.in1 (eqBool items[i] x) (fun r s' => if r = true then R (.ok (.ret (.bool true))) s' else I (i + 1) s') (fun e s' => R (.error e) s') s)
    (fin : ∀ s, I N s → R (.ok (.ret (.bool false))) s) :
    ∀ m i, N - i = m → i ≤ N → ∀ s, I i s → wpAny (model prog w) A.in1 (Builtin.«list.__contains__.loop» ⟨[.ref l, x, rawInt i], []⟩) (GQ.FinOf prog w A R) (fun e s' => R (.error e) s') s := by
  intro m
  induction m with
  | zero =>
    intro i hm hi s h
    obtain ⟨items, n, at_, size, -⟩ := turn i s h
    have q := fin s ((show i = N by omega) ▸ h)
    have past : items[((i : Nat) : Int).toNat]? = none := by simp; omega
    obtain ⟨hp, g, d, tk, os⟩ := s
    wp_walk using AutoSeq1.wpAny_loadPart' at_
    rw [past]
    wp_walk
    exact q
  | succ m ih =>
    intro i hm hi s h
    obtain ⟨items, n, at_, size, ask⟩ := turn i s h
    have lt : i < items.size := by omega
    have asked := ask lt
    have here : items[((i : Nat) : Int).toNat]? = some items[i] := by simp [lt]
    obtain ⟨hp, g, d, tk, os⟩ := s
    wp_walk using AutoSeq1.wpAny_loadPart' at_
    rw [here]
    refine wpAny_bind (wpAny_mono asked (fun r s2 q => ?_) fun _ _ e => e)
    cases r with
    | true =>
      rw [if_pos rfl] at q
      obtain ⟨hp2, g2, d2, tk2, os2⟩ := s2
      wp_walk
      exact q
    | false =>
      rw [if_neg (by simp)] at q
      have on := ih (i + 1) (by omega) (by omega) s2 q
      have up : ((i : Int) + 1) = ((i + 1 : Nat) : Int) := by omega
      obtain ⟨hp2, g2, d2, tk2, os2⟩ := s2
      wp_walk
      rw [up]
      exact ⟨plainId_quiet MeetsSeq.plain_contains_loop _, codeAny_builtin MeetsSeq.entry_contains_loop (by
        rw [Around.under_plainId MeetsSeq.plain_contains_loop _]
        exact on)⟩
theorem in_turns {prog : Program} {w : World} {A : Around} {l : Addr} {N : Nat} {x : Value} {I : Nat → Shared → Prop} {E Q : Value → Shared → Prop} {s : Shared}
    (turn : ∀ i s, I i s → ∃ (items : Array Value) (n : Nat), s.heap.get? l = some { cls := .type "list", data := .seq items n } ∧ items.size = N ∧
      ∀ h : i < items.size, wpAny (model prog w) A.in1 (eqBool items[i] x) (fun r s' => if r = true then Q (.bool true) s' else I (i + 1) s') E s)
    (fin : ∀ s, I N s → Q (.bool false) s) (h : I 0 s) : wpAny (model prog w) A (compareOp .In x (.ref l)) Q E s := by
  obtain ⟨items, n, at_, -, -⟩ := turn 0 s h
  have loop := contains_turns (prog := prog) (w := w) (A := A) (l := l) (N := N) (x := x) (I := I) (R := wants (fun v s' => ∃ b, v = .bool b ∧ Q (.bool b) s') E)
    (fun i s hi => by
      obtain ⟨items, n, at_, size, ask⟩ := turn i s hi
      refine ⟨items, n, at_, size, fun lt => wpAny_mono (ask lt) (fun r s' q => ?_) fun _ _ e => e⟩
      cases r with
      | true => exact ⟨true, rfl, q⟩
      | false => exact q) (fun s hi => ⟨false, rfl, fin s hi⟩) N 0 (by omega) (Nat.zero_le _) s h
  have called : wpAny (model prog w) A (call (.builtin "list.__contains__") [.ref l, x]) (fun v s' => ∃ b, v = .bool b ∧ Q (.bool b) s') E s := by
    refine GQ.call_here PySem.F.slot_list_contains ⟨_, at_, rfl⟩ PySem.F.entry_list_contains (PySem.F.args_list_contains_2 _ _) ?_
    obtain ⟨hp, g, d, tk, os⟩ := s
    wp_walk
    exact ⟨plainId_quiet MeetsSeq.plain_contains_loop _, codeAny_builtin MeetsSeq.entry_contains_loop (by
      rw [Around.under_plainId MeetsSeq.plain_contains_loop _]
      exact loop)⟩
  show wpAny _ A (do return .bool (← contains (.ref l) x)) Q E s
  refine wpAny_bind (wpAny_contains_slot ⟨_, at_, rfl⟩ PySem.F.slot_list_contains (wpAny_mono called (fun v s' hv => ?_) fun _ _ e => e))
  obtain ⟨b, rfl, q⟩ := hv
  exact wpAny_truthy_bool (wpAny_pure q)
section
variable {X : Cx} {A : Around} {C f a dx : Addr} {fd : FuncData} {ps : List Str} {k : Nat} {sp : Sp} {pins : List (Addr × Obj)} {σ : L2.St} {H : Hp} {s : Shared} {Q : VK} {od : Option Obj}
/-- what a member y of a list answers to y == o, o an instance of C at a -/
def Tells (K : PySem.W.Frag) (C : Addr) (sp : Sp) (y : V) (a : Addr) (H : Hp) (Q : Bool → Hp → Prop) : Prop :=
  (∃ dx fs, H a = some (.ins C dx fs)) ∧ ((y = .ref a ∧ Q true H) ∨ (y ≠ .ref a ∧ (∃ b dy gs, y = .ref b ∧ H b = some (.ins C dy gs)) ∧ sp [y, .ref a] H (fun v H' => ∃ t, v = .bl t ∧ Q t H') E0) ∨
    (Meek K C H y ∧ sp [.ref a, y] H (fun v H' => ∃ t, v = .bl t ∧ Q t H') E0))
/-- o in the list at l, of N members, from place i on, m of them to go -/
def InTurns (K : PySem.W.Frag) (C : Addr) (sp : Sp) (l : Addr) (N : Nat) (a : Addr) (Q : VK) : Nat → Nat → Hp → Prop
  | 0, _, H => (∃ xs, H l = some (.lst xs) ∧ xs.length = N) ∧ Q (.bl false) H
  | m + 1, i, H => ∃ xs y, H l = some (.lst xs) ∧ xs.length = N ∧ xs[i]? = some y ∧ Tells K C sp y a H fun t H' => if t = true then Q (.bl true) H' else InTurns K C sp l N a Q m (i + 1) H'
def rInO (K : PySem.W.Frag) (C : Addr) (sp : Sp) : R2 := fun x y H Q => ∃ (a l : Addr) (N : Nat), x = .ref a ∧ y = .ref l ∧ InTurns K C sp l N a Q N 0 H
theorem eqB_of {prog : Program} {w : World} {E : Value → Shared → Prop} {R : Bool → Shared → Prop} {v : Value} (ne : (v == .ref a) = false) (h : wpAny (model prog w) A (richCompare .Eq v (.ref a)) (fun z s' => ∃ r, z = .bool r ∧ R r s') E s) :
    wpAny (model prog w) A (eqBool v (.ref a)) R E s := by
  unfold eqBool
  refine wpAny_holding ?_
  rw [ne]
  refine wpAny_ite_split (fun z => by cases z) fun _ => ?_
  have last : wpAny (model prog w) A (do truthOfDropped (← richCompare .Eq v (.ref a))) R E s := by
    refine wpAny_bind (wpAny_mono h (fun z s' got => ?_) fun _ _ e => e)
    obtain ⟨r, rfl, q⟩ := got
    exact wpAny_truthy_bool q
  cases v <;> exact last
theorem tells {y : V} {v : Value} {R : Bool → Hp → Prop} (G : Z.Mth X.prog X.w X.K X.mg X.base C "__eq__" ps k sp) (room : Room k A) (e0 : Env0 X.prog X.w X.K X.mg X.base A X.stack s H) (I : Inv X pins σ H s) (ry : RelV y v) (want : Tells X.K C sp y a H R) :
    wpAny (model X.prog X.w) A (eqBool v (.ref a)) (fun r s' => ∃ H', Inv X pins σ H' s' ∧ R r H') X.xe s := by
  obtain ⟨⟨dx, fs, ha⟩, want⟩ := want
  obtain ⟨f, fd, F, _, m, bd⟩ := G.ex
  obtain ⟨_, J⟩ := inst_at I ha
  have back : ∀ {z : Value} {s' : Shared}, EP X pins σ (fun v H' => ∃ t, v = .bl t ∧ R t H') z s' → PySem.W.CmpBack (fun z s' => ∃ r, z = .bool r ∧ ∃ H', Inv X pins σ H' s' ∧ R r H') z s' := by
    rintro z s' ⟨_, H', I', rz, t, e, q⟩
    subst e
    cases rz
    exact ⟨t, rfl, H', I', q⟩
  rcases want with ⟨ey, q⟩ | ⟨ne, ⟨b, dy, gs, ey, hb⟩, want⟩ | ⟨meek, want⟩
  · subst ey
    cases ry
    exact SeqAt.EqAt.same (A := A) (s := s) (.ref a) X.prog X.w X.xe _ ⟨H, I, q⟩
  · subst ey
    cases (show v = Value.ref b from ry)
    obtain ⟨_, J'⟩ := inst_at I hb
    obtain ⟨ns, fr⟩ := I.fr
    refine eqB_of (by rw [beq_eq_false_iff_ne]; exact fun z => ne (by cases z; rfl)) ?_
    exact PySem.W.cmp_K (op := .Eq) (tb := .ref C) room.units0 fr I.ok.mod.kin J' J.type (by simp [PySem.W.notFirst]) m.at_ m.fn
      (wpAny_mono (below (us := [.ref b, .ref a]) (vs := [.ref b, .ref a]) F bd room e0 I (.cons rfl (.cons rfl .nil)) want) (fun _ _ got => back got) fun _ _ e => e)
  · have run := wpAny_mono (below (us := [.ref a, v]) (vs := [.ref a, y]) F bd room e0 I (.cons rfl (.cons ry .nil)) want) (fun _ _ got => back got) fun _ _ e => e
    cases meek with
    | non no =>
      cases (show v = Value.none from ry)
      exact eqB_of rfl (turned_eq room.units0 I.kIn J (typeIs_none _) no PySem.F.slot_NoneType_eq (fun Q' q => decl_none (K := X.K) q) m.at_ m.fn run)
    | int i no =>
      obtain ⟨t, rfl⟩ := (show ∃ t, v = Value.int i t from ry)
      exact eqB_of rfl (turned_eq room.units0 I.kIn J (typeIs_int _ _ _) no PySem.F.slot_int_eq (fun Q' q => decl_int (K := X.K) J q) m.at_ m.fn run)
    | tup b xs ht no =>
      cases (show v = Value.ref b from ry)
      obtain ⟨its, -, tu, -⟩ := I.tuple ht
      have nb : b ≠ a := by
        rintro rfl
        obtain ⟨o, h1, h2, -⟩ := tu
        rw [J.at_] at h1
        cases h1
        cases h2
      exact eqB_of (by rw [beq_eq_false_iff_ne]; exact fun z => nb (by cases z; rfl)) (turned_eq room.units0 I.kIn J (let ⟨o, h1, h2, _⟩ := tu; ⟨o, h1, h2⟩) no PySem.F.slot_tuple_eq (fun Q' q => decl_tup (K := X.K) I.kIn J no tu q) m.at_ m.fn run)
theorem turns_list {K : PySem.W.Frag} {l : Addr} {N : Nat} : ∀ {m i : Nat} {H : Hp}, InTurns K C sp l N a Q m i H → ∃ xs, H l = some (.lst xs) ∧ xs.length = N
  | 0, _, _, h => h.1
  | _ + 1, _, _, ⟨xs, _, h1, h2, _⟩ => ⟨xs, h1, h2⟩
theorem op_inO (G : Z.Mth X.prog X.w X.K X.mg X.base C "__eq__" ps k sp) (room : Room (k + 1) X.A) : OpR X (compareOp .In) (rInO X.K C sp) := by
  intro pins s σ H x y u v Q I rx ry ⟨a, l, N, ex, ey, want⟩
  subst ex ey
  cases (show u = Value.ref a from rx)
  cases (show v = Value.ref l from ry)
  refine in_turns (N := N) (I := fun i s' => ∃ m H', m + i = N ∧ Inv X pins σ H' s' ∧ InTurns X.K C sp l N a Q m i H') (fun i s' ⟨m, H', sum, I', w⟩ => ?_) (fun s' ⟨m, H', sum, I', w⟩ => ?_) ⟨N, H, rfl, I, want⟩
  · obtain ⟨xs, hx, len⟩ := turns_list w
    obtain ⟨-, its, n, rv, at_⟩ := I'.hok l _ hx
    refine ⟨its.toArray, n, at_, by rw [List.size_toArray, ← rv.length, len], fun lt => ?_⟩
    have lx : i < xs.length := by rw [rv.length]; simpa using lt
    obtain ⟨m, rfl⟩ : ∃ m', m = m' + 1 := ⟨m - 1, by omega⟩
    obtain ⟨xs', y, hx', -, hy, w⟩ := w
    rw [hx] at hx'
    cases hx'
    obtain ⟨u1, hu, ru⟩ := rv.get hy
    have eu : its.toArray[i] = u1 := by
      have := hu
      rw [List.getElem?_eq_getElem (by simpa using lt)] at this
      simpa using Option.some.inj this
    rw [eu]
    refine wpAny_mono (tells G room.in1 I'.env0.in1 I' ru w) (fun r s2 ⟨H2, I2, q⟩ => ?_) fun _ _ e => e
    cases r with
    | true =>
      rw [if_pos rfl] at q ⊢
      exact ⟨.bl true, H2, I2, rfl, q⟩
    | false =>
      rw [if_neg (by simp)] at q ⊢
      exact ⟨m, H2, by omega, I2, q⟩
  · obtain rfl : m = 0 := by omega
    exact ⟨.bl false, H', I', rfl, w.2⟩
end
end OWN
namespace Z
open PySem L2 OWN
section
variable {K : PySem.W.Frag} {τ : T} {μ : M} {Φ : D → M → Prop} {P : PT3} {C a b dx dy l : Addr} {fs gs : List (Str × D)} {d : D}
theorem ro_eqX {n : String} (ha : μ a = some (.ins C dx fs)) (hn : tyn μ d = some n) (nf : PySem.W.notFirst K C (.type n) = true) (p : P [.ref a, d] μ Φ) : RO K (rEqX K C (spI K P)) (.ref a) d μ Φ := fun H x y c rx ry Q k => by
  cases rx
  obtain ⟨_, ea, _⟩ := c a _ ha
  exact ⟨a, dx, _, .type n, rfl, ea, tyx_of c ry hn, nf, _, μ, Φ, .cons (.ref a) (.cons ry .nil), c, p, fun d μ' v H' f c' r q => k d μ' v H' f c' r q⟩
/-- what a member answers, by data -/
def TellsD (K : PySem.W.Frag) (C : Addr) (P : PT3) (d : D) (a : Addr) (μ : M) (Φ : Bool → M → Prop) : Prop :=
  (∃ dx fs, μ a = some (.ins C dx fs)) ∧ ((d = .ref a ∧ Φ true μ) ∨ (d ≠ .ref a ∧ (∃ b dy gs, d = .ref b ∧ μ b = some (.ins C dy gs)) ∧ P [d, .ref a] μ fun e μ' => ∃ t, e = .bl t ∧ Φ t μ') ∨
    (((d = .non ∧ PySem.W.subIn K (.ref C) (.type "NoneType") = some false) ∨ (∃ i, d = .int i ∧ PySem.W.subIn K (.ref C) (.type "int") = some false) ∨ ∃ ds, d = .tup ds ∧ PySem.W.subIn K (.ref C) (.type "tuple") = some false) ∧ P [.ref a, d] μ fun e μ' => ∃ t, e = .bl t ∧ Φ t μ'))
def InD (K : PySem.W.Frag) (C : Addr) (P : PT3) (l a : Addr) (ds : List D) (Φ : D → M → Prop) : List D → M → Prop
  | [], μ => μ l = some (.lst ds) ∧ Φ (.bl false) μ
  | d :: es, μ => μ l = some (.lst ds) ∧ TellsD K C P d a μ fun t μ' => if t = true then Φ (.bl true) μ' else InD K C P l a ds Φ es μ'
theorem tells_of {H : L2.Hp} {y : L2.V} {Ψ : Bool → M → Prop} {R : Bool → L2.Hp → Prop} (c : Con K H μ) (r : Rel K H y d) (w : TellsD K C P d a μ Ψ) (k : ∀ t μ' H', Fr μ μ' H H' → Con K H' μ' → Ψ t μ' → R t H') : Tells K C (spI K P) y a H R := by
  obtain ⟨⟨dx, fs, ha⟩, w⟩ := w
  obtain ⟨_, ea, _⟩ := c a _ ha
  have on : ∀ d μ' v H', Fr μ μ' H H' → Con K H' μ' → Rel K H' v d → (∃ t, d = .bl t ∧ Ψ t μ') → ∃ t, v = .bl t ∧ R t H' := fun d μ' v H' f c' r ⟨t, e, q⟩ => by
    subst e
    cases r
    exact ⟨t, rfl, k t μ' H' f c' q⟩
  refine ⟨⟨dx, _, ea⟩, ?_⟩
  rcases w with ⟨e, q⟩ | ⟨ne, ⟨b, dy, gs, e, hb⟩, p⟩ | ⟨kind, p⟩
  · subst e
    cases r
    exact .inl ⟨rfl, k true μ H Fr.refl c q⟩
  · subst e
    cases r
    obtain ⟨_, eb, _⟩ := c b _ hb
    exact .inr (.inl ⟨fun z => ne (by cases z; rfl), ⟨b, dy, _, rfl, eb⟩, _, μ, _, .cons (.ref b) (.cons (.ref a) .nil), c, p, on⟩)
  · refine .inr (.inr ⟨?_, _, μ, _, .cons (.ref a) (.cons r .nil), c, p, on⟩)
    rcases kind with ⟨e, no⟩ | ⟨i, e, no⟩ | ⟨ds, e, no⟩
    · subst e; cases r; exact .non no
    · subst e; cases r; exact .int _ no
    · subst e
      cases r with
      | tup ht _ => exact .tup _ _ ht.sq no
theorem ro_inO {ds : List D} (w : InD K C P l a ds Φ ds μ) : RO K (rInO K C (spI K P)) (.ref a) (.ref l) μ Φ := fun H x y c rx ry Q k => by
  cases rx; cases ry
  refine ⟨a, l, ds.length, rfl, rfl, ?_⟩
  have go : ∀ (es : List D) (i : Nat) (μ1 : M) (H1 : L2.Hp), Fr μ μ1 H H1 → Con K H1 μ1 → ds.drop i = es → InD K C P l a ds Φ es μ1 → InTurns K C (spI K P) l ds.length a Q es.length i H1 := by
    intro es
    induction es with
    | nil =>
      intro i μ1 H1 f1 c1 _ w
      obtain ⟨xs, hx, rx⟩ := c1 l _ w.1
      exact ⟨⟨xs, hx, rx.length⟩, k _ μ1 _ H1 f1 c1 (.bl _) w.2⟩
    | cons d es ih =>
      intro i μ1 H1 f1 c1 cut w
      obtain ⟨xs, hx, rx⟩ := c1 l _ w.1
      have at_ : ds[i]? = some d := by
        have := congrArg (·[0]?) cut
        simpa using this
      obtain ⟨y, hy, ry⟩ := rx.get at_
      refine ⟨xs, y, hx, rx.length, hy, tells_of c1 ry w.2 fun t μ' H' f c' q => ?_⟩
      cases t with
      | true =>
        rw [if_pos rfl] at q ⊢
        exact k _ μ' _ H' (f1.trans f) c' (.bl _) q
      | false =>
        rw [if_neg (by simp)] at q ⊢
        refine ih (i + 1) μ' H' (f1.trans f) c' ?_ q
        rw [← List.drop_drop, cut]
        rfl
  exact go ds 0 μ H Fr.refl c (List.drop_zero) w
end
end Z
namespace OWN
open PySem PySem.Spec PyProof.Rows L2
section
variable {X : Cx} {K : PySem.W.Frag} {C : Addr} {ps : List Str} {k : Nat} {sp : Sp}
theorem op_eqXK (h : X.K = K) (G : Z.Mth X.prog X.w K X.mg X.base C "__eq__" ps k sp) (room : Room k X.A) : OpR X (compareOp .Eq) (rEqX K C sp) := by subst h; exact op_eqX G room
theorem op_inOK (h : X.K = K) (G : Z.Mth X.prog X.w K X.mg X.base C "__eq__" ps k sp) (room : Room (k + 1) X.A) : OpR X (compareOp .In) (rInO K C sp) := by subst h; exact op_inO G room
theorem op_neOK (h : X.K = K) (G : Z.Mth X.prog X.w K X.mg X.base C "__eq__" ps k sp) (ne : PySem.W.findIn K (.ref C) "__ne__" = some (some (.builtin "object.__ne__"))) (ob : PySem.W.mroIn K C (.type "object") = some true) (room : Room (k + 1) X.A) : OpR X (compareOp .NotEq) (rNeO C sp) := by
  subst h; exact op_neO G ne ob room
end
end OWN
namespace Z
open PySem L2
structure OwnC (K : PySem.W.Frag) (C : Addr) : Prop where
  isi : IsiC K C
  ne : PySem.W.findIn K (.ref C) "__ne__" = some (some (.builtin "object.__ne__"))
  ic : PySem.W.isClsIn K C = true
  ty : PySem.W.typeIn K (.ref C) = some (.type "type")
  upN : PySem.W.subIn K (.ref C) (.type "NoneType") = some false
  upI : PySem.W.subIn K (.ref C) (.type "int") = some false
  upT : PySem.W.subIn K (.ref C) (.type "tuple") = some false
  upS : PySem.W.subIn K (.ref C) (.type "str") = some false
section
variable {K : PySem.W.Frag} {C : Addr}
theorem OwnC.self (o : OwnC K C) : PySem.W.kitOne K (.ref C) (.ref C) = some true := by
  unfold PySem.W.kitOne
  rw [if_pos (by simp)]
/-- no builtin type is below an own class -/
theorem sub_type {n : String} {ts : List String} (h : PySem.fastBuiltinMro n = some (ts.map Value.type)) : PySem.W.subIn K (.type n) (.ref C) = some false := by
  show (PySem.fastBuiltinMro n).map _ = _
  rw [h]
  show some ((ts.map Value.type).contains (.ref C)) = some false
  congr 1
  clear h
  induction ts with
  | nil => rfl
  | cons t r ih => rw [List.map_cons, List.contains_cons, ih]; rfl
theorem sub_data {n : String} (h : n ∈ (["NoneType", "int", "bool", "tuple", "str", "list"] : List String)) : PySem.W.subIn K (.type n) (.ref C) = some false := by
  simp only [List.mem_cons, List.not_mem_nil, or_false] at h
  rcases h with rfl | rfl | rfl | rfl | rfl | rfl
  · exact sub_type (ts := ["NoneType", "object"]) (by decide +kernel)
  · exact sub_type (ts := ["int", "object"]) (by decide +kernel)
  · exact sub_type (ts := ["bool", "int", "object"]) (by decide +kernel)
  · exact sub_type (ts := ["tuple", "object"]) (by decide +kernel)
  · exact sub_type (ts := ["str", "object"]) (by decide +kernel)
  · exact sub_type (ts := ["list", "object"]) (by decide +kernel)
theorem OwnC.nf {n : String} (_o : OwnC K C) (h : n ∈ (["NoneType", "int", "bool", "tuple", "str", "list"] : List String)) : PySem.W.notFirst K C (.type n) = true := by
  unfold PySem.W.notFirst
  rw [sub_data h]
  simp
theorem OwnC.kitD {n : String} (o : OwnC K C) (h : n ∈ (["NoneType", "int", "bool", "tuple", "str", "list"] : List String)) : PySem.W.kitOne K (.type n) (.ref C) = some false := by
  unfold PySem.W.kitOne
  rw [if_neg (by simp)]
  show (if ((PySem.W.clsIn K C).isSome && PySem.W.typeIn K (.ref C) == some (.type "type")) = true then PySem.W.subIn K (.type n) (.ref C) else none) = some false
  have h5 : (PySem.W.clsIn K C).isSome = true := o.ic
  rw [h5, o.ty, if_pos (by simp)]
  exact sub_data h
end
end Z
namespace Z
open PySem L2
section
variable {K : PySem.W.Frag} {τ : T} {μ μ1 μ2 : M} {Φ : D → M → Prop} {te : TE} {tt : TT}
/-- a comprehension over a list that is set aside meanwhile: nothing comes to stand at its address -/
theorem a_lcLn {tl : TE} {g : TG} {js : List Nat} {dec : D → List D → Prop} (hg : TgOk K g js dec)
    (h : AE K tl τ μ fun d μ1 => ∃ (P : Nat → List D → M → Prop) (a : Addr) (ds : List D), d = .ref a ∧ μ1 a = some (.lst ds) ∧ P 0 [] (μ1.del a) ∧
      (∀ (i : Nat) x acc μ', ds[i]? = some x → μ' a = none → P i acc μ' → LcTurn K τ tt te js dec x acc μ' (P (i + 1))) ∧ ∀ acc μ', μ' a = none → P ds.length acc μ' → ∀ p, p ≠ a → μ' p = none → Φ (.ref p) ((μ'.set a (.lst ds)).set p (.lst acc))) :
    AE K (tLc (iList K tl) g tt te js) τ μ Φ := fun σ H s c Q k => h σ H s c _ fun d μ1 v H1 f1 c1 r1 ⟨P, a, ds, e, hl, p0, hs, hd⟩ => by
  subst e
  cases r1
  obtain ⟨xs, hx, hr⟩ := c1 a _ hl
  have c1d : Z.Con K H1 (μ1.del a) := c1.sub del_sub
  have s1 := s.mono (f1.tx c)
  have key : ∀ {μ' : M} {H' : Hp}, Fr (μ1.del a) μ' H1 H' → H' a = some (.lst xs) ∧ μ' a = none := fun f => f a _ del_same hx
  refine ⟨a, rfl, ⟨xs, SqL.of hx⟩, fun Dl hD => lc_list (K := K) (a := a) (xs := xs) (fun i H' => ∃ acc μ', LcAt K Dl (μ1.del a) H1 acc μ' H' ∧ P i acc μ') ⟨[], μ1.del a, lc_start c1d hD, p0⟩ (fun i H' _ ⟨acc, μ', L, _⟩ => SqL.of (key L.fr).1) ?_ ?_⟩
  · rintro i x H' hxi ⟨acc, μ', L, p⟩
    obtain ⟨d, hd', rx⟩ := hr.getV hxi
    exact lc_step hD hg s1 c1d L (Rel.mono (L.fr.tx c1d) _ _ rx) (hs i d acc μ' hd' (key L.fr).2 p) fun acc2 μ2 H2 L2 p2 => ⟨acc2, μ2, L2, p2⟩
  · rintro H' ⟨acc, μ', L, p⟩
    rw [hr.length] at p
    have apart : Dl ≠ a := fun z => by subst z; rw [hD] at hx; cases hx
    obtain ⟨vs, hv, hr2⟩ := L.at_
    have back := fr_back (m' := .lst ds) hl f1 L.fr
    have held : Z.Con K H' (μ'.set a (.lst ds)) := con_back (m := .lst ds) L.con ⟨xs, (key L.fr).1, Rels.mono (L.fr.tx c1d) _ _ hr⟩
    have last := hd acc μ' (key L.fr).2 p Dl apart L.no
    refine k _ _ _ H' (fun b o n e => ⟨(back b o n e).1, ?_⟩) (con_back (m := .lst acc) held ⟨vs, hv, hr2⟩) (.ref Dl) last
    rw [set_ne fun z => by
      have e3 := (f1 b o n e).1
      rw [z, hD] at e3; cases e3]
    exact (back b o n e).2
/-- try .. except X as n in a def that lets nothing out -/
theorem s_tryAs0 (cn : Str → Option Value) {tb : WX → TS} {tu : Addr → Value → Option Addr → TS} {c : Value} {i : Nat} {nx : T → M → Prop} {rt : D → M → Prop} (hit : Str → Bool) (hm : ∀ x cls, cn x = some cls → PySem.W.exmOne K cls c = some (hit x))
    (hb : ∀ W, AS K (tb W) τ μ { nx := nx, rt := rt, W := W, cn := cn, xs := fun x dx τ' μ' => (hit x = true ∧ ∀ a cls, cn x = some cls → AS K (tu a cls dx) (τ'.set i (some (.ref a))) μ' { nx := fun τ2 μ2 => nx (τ2.set i none) μ2, rt := rt }) ∨ (hit x = false ∧ False) }) :
    AS K (fun D σ H => tb (wAs K c i tu (fun _ _ _ _ => False) D) D σ H) τ μ { nx := nx, rt := rt } := fun σ H s c E k =>
  s_tryAs cn (N := { nx := nx, rt := rt }) hit hm (fun W σ H s c E k => hb W σ H s c E ⟨k.nx, k.rt, k.bk, k.ct, fun x dx τ' μ' cls σ' H' e f c' s' q => k.wx x dx τ' μ' cls σ' H' e f c' s' (by
    rcases q with ⟨h1, h2⟩ | ⟨_, z⟩
    · refine .inl ⟨h1, fun a cls hc σ2 H2 s2 c2 E2 k2 => h2 a cls hc σ2 H2 s2 c2 E2 ⟨k2.nx, k2.rt, k2.bk, k2.ct, fun _ _ _ _ _ _ _ z => by cases z⟩⟩
    · exact z.elim)⟩) σ H s c E k
end
end Z
namespace CNT
open PySem PySem.Spec PyProof.Rows L2 PySem.W
end CNT
namespace Z
open PySem L2 CNT
end Z
namespace ZN
open PySem PySem.Spec PyProof.Rows L2 Z
/-- what is known of the context may be forgotten -/
theorem cx_old {P : Program} {w : World} {outer : List Env} {H : Hp} {s : Shared} {E : XK} {u : Value} {s' : Shared} (h : L2N.CX P w outer H s E u s') : L2.CX P w outer H s E u s' :=
  let ⟨a, B, H', cls, d, e, fl, r⟩ := h
  ⟨a, B, H', cls, d, e, L2H.flyingZ_imp (fun _ z => z.zc) fl, r⟩
theorem fn_old {P : Program} {w : World} {K : PySem.W.Frag} {mg : Str → Option Value} {base : Heap} {k : Nat} {f : Addr} {fd : FuncData} {ps : List Str} {sp : Sp} (F : FnOk P w K mg base (L2N.CX P w) k f fd ps sp) : FnOk P w K mg base (L2.CX P w) k f fd ps sp :=
  ⟨F.len, fun A outer s H args us vs Q E hr e b r h => codeAny_mono (F.run A outer s H args us vs Q E hr e b r h) fun r s' q => by
    match r, q with
    | .error e, q => exact cx_old q
    | .ok (.ret u), q => exact q⟩
/-- a def that may let an exception out -/
structure DefX (P : Program) (w : World) (K : PySem.W.Frag) (mg : Str → Option Value) (base : Heap) (x : Str) (ps : List Str) (k : Nat) (sp : Sp) : Prop where
  ex : ∃ f fd, FnOk P w K mg base (L2N.CX P w) k f fd ps sp ∧ mg x = some (.ref f) ∧ PySem.W.keepIn K (.ref f) = true ∧ Binds K fd ps []
/-- a method of the class at C -/
structure Mth (P : Program) (w : World) (K : PySem.W.Frag) (mg : Str → Option Value) (base : Heap) (C : Addr) (m : Str) (ps : List Str) (k : Nat) (sp : Sp) : Prop where
  ex : ∃ f fd, FnOk P w K mg base (L2N.CX P w) k f fd ps sp ∧ Cls K C ∧ Meth K C m f ∧ Binds K fd ps []
structure MthN (P : Program) (w : World) (K : PySem.W.Frag) (mg : Str → Option Value) (base : Heap) (C : Addr) (m : Str) (ps : List Str) (n : Nat) (ks : List Str) (π : List (Bool × Nat)) (mz : List V) (k : Nat) (sp : Sp) : Prop where
  ex : ∃ f fd g, FnOk P w K mg base (L2N.CX P w) k f fd ps sp ∧ Cls K C ∧ Meth K C m f ∧ KBn K fd ps (n + 1) ks g (fun vs zs => gK π vs mz zs)
/-- C(.., k = v, ..), its __init__ keeping sp -/
structure MkK (P : Program) (w : World) (K : PySem.W.Frag) (mg : Str → Option Value) (base : Heap) (x : Str) (C : Addr) (ps : List Str) (n : Nat) (ks : List Str) (π : List (Bool × Nat)) (mz : List V) (k : Nat) (sp : Sp) : Prop where
  ex : ∃ f fd g, Mk K C f ∧ FnOk P w K mg base (L2N.CX P w) k f fd ps sp ∧ mg x = some (.ref C) ∧ KBn K fd ps (n + 1) ks g (fun vs zs => gK π vs mz zs)
/-- x(.., k = v ..): n places, the names ks; gK π puts them, and the defaults mz, in the parameters' order -/
structure DefN (P : Program) (w : World) (K : PySem.W.Frag) (mg : Str → Option Value) (base : Heap) (x : Str) (ps : List Str) (n : Nat) (ks : List Str) (π : List (Bool × Nat)) (mz : List V) (k : Nat) (sp : Sp) : Prop where
  ex : ∃ f fd g, FnOk P w K mg base (L2N.CX P w) k f fd ps sp ∧ mg x = some (.ref f) ∧ PySem.W.keepIn K (.ref f) = true ∧ KBn K fd ps n ks g (fun vs zs => gK π vs mz zs)
section
variable {P : Program} {w : World} {K : PySem.W.Frag} {mg : Str → Option Value} {base : Heap} {x m : Str} {C : Addr} {ps ks : List Str} {n k : Nat} {π : List (Bool × Nat)} {mz : List V} {sp : Sp}
theorem DefX.old (G : ZN.DefX P w K mg base x ps k sp) : Z.DefX P w K mg base x ps k sp := let ⟨f, fd, F, r⟩ := G.ex; ⟨f, fd, fn_old F, r⟩
theorem Mth.old (G : ZN.Mth P w K mg base C m ps k sp) : Z.Mth P w K mg base C m ps k sp := let ⟨f, fd, F, r⟩ := G.ex; ⟨f, fd, fn_old F, r⟩
theorem MthN.old (G : ZN.MthN P w K mg base C m ps n ks π mz k sp) : Z.MthN P w K mg base C m ps n ks π mz k sp := let ⟨f, fd, g, F, r⟩ := G.ex; ⟨f, fd, g, fn_old F, r⟩
theorem MkK.old (G : ZN.MkK P w K mg base x C ps n ks π mz k sp) : Z.MkK P w K mg base x C ps n ks π mz k sp := let ⟨f, fd, g, M, F, r⟩ := G.ex; ⟨f, fd, g, M, fn_old F, r⟩
theorem DefN.old (G : ZN.DefN P w K mg base x ps n ks π mz k sp) : Z.DefN P w K mg base x ps n ks π mz k sp := let ⟨f, fd, g, F, r⟩ := G.ex; ⟨f, fd, g, fn_old F, r⟩
end
end ZN
namespace Z
open PySem L2
end Z
namespace Z
open PySem L2
def wh : D → Bool
  | .int _ => true
  | _ => false
/-- of a kind that can be asked for -/
def Kd (μ : M) (d : D) : Prop := ∃ n, tyn μ d = some n
theorem kd_int {μ : M} {i : Int} : Kd μ (.int i) := ⟨_, rfl⟩
theorem kd_tup {μ : M} {ds : List D} : Kd μ (.tup ds) := ⟨_, rfl⟩
theorem kd_non {μ : M} : Kd μ .non := ⟨_, rfl⟩
theorem kd_bl {μ : M} {b : Bool} : Kd μ (.bl b) := ⟨_, rfl⟩
theorem kd_str {μ : M} {s : Str} : Kd μ (.str s) := ⟨_, rfl⟩
def wi (d : D) (lo hi : Int) : Bool := match d with
  | .int i => decide (lo ≤ i) && decide (i ≤ hi)
  | _ => false
def ir (d : D) (lo hi : Int) : Bool := match d with
  | .tup xs => decide (lo ≤ xs.length) && decide ((xs.length : Int) ≤ hi)
  | _ => false
def aw (d : D) (m : Int) : Bool := match d with
  | .tup xs => decide ((xs.length : Int) = m) && xs.all wh
  | _ => false
def pr (d : D) (w h l : Int) : Bool := match d with
  | .tup [.int x, .int y, .int f, .int g] => (decide (0 < x) && decide (x < w)) && (decide (0 < y) && decide (y < h)) && (decide (0 ≤ f) && decide (f ≤ g) && decide (g < l))
  | _ => false
/-- where a row of a pin stands -/
def spot : D → List Int
  | .tup (.int x :: .int y :: _) => [x, y]
  | _ => []
def ab (w h p l s : D) : Bool := wi w 2 1000000 && wi h 2 1000000 && wi l 1 3 && wi s 1 1000000 && (match w, h, p, l with
  | .int w, .int h, .tup rows, .int l => decide (rows.length ≤ 16) && rows.all (fun r => pr r w h l) && decide (rows.map spot).Nodup
  | _, _, _, _ => false)
theorem wh_int {d : D} (h : wh d = true) : ∃ i, d = .int i := by
  cases d <;> first | exact ⟨_, rfl⟩ | cases h
theorem wi_int {d : D} {lo hi : Int} (h : wi d lo hi = true) : ∃ i, d = .int i ∧ lo ≤ i ∧ i ≤ hi := by
  cases d <;> first | cases h | skip
  rename_i i
  simp only [wi, Bool.and_eq_true, decide_eq_true_eq] at h
  exact ⟨i, rfl, h⟩
theorem pr_int {d : D} {w h l : Int} (k : pr d w h l = true) : ∃ x y f g : Int, d = .tup [.int x, .int y, .int f, .int g] ∧ (0 < x ∧ x < w) ∧ (0 < y ∧ y < h) ∧ (0 ≤ f ∧ f ≤ g) ∧ g < l := by
  unfold pr at k
  split at k
  · simp only [Bool.and_eq_true, decide_eq_true_eq] at k
    exact ⟨_, _, _, _, rfl, k.1.1, k.1.2, k.2.1, k.2.2⟩
  · cases k
theorem aw_four {d : D} (h : aw d 4 = true) : ∃ x y f g : Int, d = .tup [.int x, .int y, .int f, .int g] := by
  unfold aw at h
  split at h
  · rename_i xs
    simp only [Bool.and_eq_true, decide_eq_true_eq, List.all_eq_true] at h
    obtain ⟨hl, ha⟩ := h
    match xs, hl with
    | [a, b, c, e], _ =>
      obtain ⟨x, rfl⟩ := wh_int (ha a (by simp))
      obtain ⟨y, rfl⟩ := wh_int (ha b (by simp))
      obtain ⟨f, rfl⟩ := wh_int (ha c (by simp))
      obtain ⟨g, rfl⟩ := wh_int (ha e (by simp))
      exact ⟨x, y, f, g, rfl⟩
    | [], e => simp at e
    | [_], e => simp at e
    | [_, _], e => simp at e
    | [_, _, _], e => simp at e
    | _ :: _ :: _ :: _ :: _ :: _, e => simp at e; omega
  · cases h
theorem aw_pr {d : D} {w h l : Int} (k : aw d 4 = false) : pr d w h l = false := by
  cases e : pr d w h l with
  | false => rfl
  | true =>
    obtain ⟨x, y, f, g, rfl, _⟩ := pr_int e
    simp [aw, wh] at k
theorem atI_map {α : Type} {f : α → D} {l : List α} {i : Int} {a : α} (h0 : 0 ≤ i) (h : l[i.toNat]? = some a) : atI (l.map f) i = some (f a) := by
  have hl := (List.getElem?_eq_some_iff.mp h).1
  unfold atI ixN
  rw [if_pos h0, if_pos (by rw [List.length_map]; omega), Option.bind_some, List.getElem?_map, h]
  rfl
end Z
namespace Tch
def ar (a b c : Int × Int) : Int := (b.1 - a.1) * (c.2 - a.2) - (b.2 - a.2) * (c.1 - a.1)
end Tch
namespace Z
open Tch
theorem snoc_ind {α : Type} {P : List α → Prop} (h0 : P []) (h1 : ∀ l a, P l → P (l ++ [a])) (l : List α) : P l := by
  have key : ∀ m : List α, P m.reverse := fun m => by
    induction m with
    | nil => exact h0
    | cons a m ih => rw [List.reverse_cons]; exact h1 _ _ ih
  have := key l.reverse
  rwa [List.reverse_reverse] at this
abbrev Pt := Int × Int
def spAt (sp : List Pt) (p : Int) : Pt := sp.getD p.toNat (0, 0)
/-- whether c lies on the piece from a to b -/
def btw (a b c : Pt) : Bool := decide (ar a b c = 0) && (decide (min a.1 b.1 ≤ c.1) && decide (c.1 ≤ max a.1 b.1)) && (decide (min a.2 b.2 ≤ c.2) && decide (c.2 ≤ max a.2 b.2))
/-- whether two pieces cross properly -/
def crs (a b c d : Pt) : Bool := decide (sgn (ar a b c) * sgn (ar a b d) < 0) && decide (sgn (ar c d a) * sgn (ar c d b) < 0)
def dist (sp : List Pt) (g : Pt) : Int := ((spAt sp g.2).1 - (spAt sp g.1).1) ^ 2 + ((spAt sp g.2).2 - (spAt sp g.1).2) ^ 2
def gkey (sp : List Pt) (g : Pt) : Int × Int × Int := (dist sp g, g.1, g.2)
def hits (sp : List Pt) (pins : List Int) (g : Pt) : Bool := pins.any fun r => !(decide (r = g.1) || decide (r = g.2)) && btw (spAt sp g.1) (spAt sp g.2) (spAt sp r)
def crsG (sp : List Pt) (g g' : Pt) : Bool := crs (spAt sp g.1) (spAt sp g.2) (spAt sp g'.1) (spAt sp g'.2)
def stepG (sp : List Pt) (pins : List Int) (found : List Pt) (g : Pt) : List Pt := if !hits sp pins g && !found.any (fun g' => crsG sp g g') then found ++ [g] else found
def pairsOf (pins : List Int) : List Pt := pins.flatMap fun p => (pins.filter fun q => decide (p < q)).map fun q => (p, q)
def srtG (sp : List Pt) (l : List Pt) : List Pt := l.mergeSort fun a b => !lt3 (gkey sp b) (gkey sp a)
def foundG (sp : List Pt) (pins : List Int) (l : List Pt) : List Pt := l.foldl (stepG sp pins) []
def gatesOf (sp : List Pt) (pins : List Int) : List Pt := (foundG sp pins (srtG sp (pairsOf pins))).mergeSort leP
theorem srt_mem {sp : List Pt} {l : List Pt} {g : Pt} : g ∈ srtG sp l ↔ g ∈ l := (List.mergeSort_perm _ _).mem_iff
section
variable {sp : List Pt} {pins : List Int}
theorem foundG_snoc (l : List Pt) (g : Pt) : foundG sp pins (l ++ [g]) = stepG sp pins (foundG sp pins l) g := by
  unfold foundG
  rw [List.foldl_append]
  rfl
theorem foundG_sub : ∀ (l : List Pt) (g : Pt), g ∈ foundG sp pins l → g ∈ l ∧ hits sp pins g = false := by
  intro l
  refine snoc_ind (P := fun l => ∀ g, g ∈ foundG sp pins l → g ∈ l ∧ hits sp pins g = false) ?_ ?_ l
  · intro g h; cases h
  · intro l g0 ih g h
    rw [foundG_snoc] at h
    unfold stepG at h
    split at h
    · rename_i hc
      simp only [Bool.and_eq_true, Bool.not_eq_true'] at hc
      rcases List.mem_append.mp h with z | z
      · exact ⟨List.mem_append_left _ (ih g z).1, (ih g z).2⟩
      · rw [List.mem_singleton.mp z]
        exact ⟨List.mem_append_right _ (List.mem_singleton.mpr rfl), hc.1⟩
    · exact ⟨List.mem_append_left _ (ih g h).1, (ih g h).2⟩
end
theorem mem_pairs {pins : List Int} {p q : Int} : (p, q) ∈ pairsOf pins ↔ p ∈ pins ∧ q ∈ pins ∧ p < q := by
  unfold pairsOf
  simp only [List.mem_flatMap, List.mem_map, List.mem_filter, decide_eq_true_eq, Prod.mk.injEq]
  constructor
  · rintro ⟨a, ha, b, ⟨hb, hl⟩, rfl, rfl⟩
    exact ⟨ha, hb, hl⟩
  · rintro ⟨ha, hb, hl⟩
    exact ⟨p, ha, q, ⟨hb, hl⟩, rfl, rfl⟩
/-- a mergeSort of data -/
theorem srtBy_map {α : Type} (key : D → D) (f : α → D) (le : α → α → Bool) (h : ∀ a b, (!PySem.W.dataLt (D.py (key (f b))) (D.py (key (f a)))) = le a b) (l : List α) : srtBy key (l.map f) = (l.mergeSort le).map f := by
  unfold srtBy
  rw [List.map_mergeSort (r := le) (s := PySem.W.dataLe false fun d => D.py (key d)) (f := f) fun a _ b _ => (h a b).symm]
theorem srtD_map {α : Type} (f : α → D) (le : α → α → Bool) (h : ∀ a b, (!PySem.W.dataLt (D.py (f b)) (D.py (f a))) = le a b) (l : List α) : srtD (l.map f) = (l.mergeSort le).map f := srtBy_map id f le h l
theorem lt_pt (a b c d : Int) : (!PySem.W.dataLt (D.py (pt c d)) (D.py (pt a b))) = leP (a, b) (c, d) := le_pt a b c d
abbrev encG (g : Pt) : D := pt g.1 g.2
/-- the program's sorting of pairs -/
theorem srt_pairs (sp : List Pt) (l : List Pt) (key : D → D) (hk : ∀ g : Pt, key (encG g) = t12 (dist sp g) g.1 g.2) : srtBy key (l.map encG) = (srtG sp l).map encG :=
  srtBy_map key encG _ (fun a b => by rw [hk, hk, lt_t12]; rfl) l
theorem srt_found (l : List Pt) : srtD (l.map encG) = (l.mergeSort leP).map encG := srtD_map _ _ (fun a b => lt_pt a.1 a.2 b.1 b.2) l
abbrev R4 := Int × Int × Int × Int
abbrev encR (r : R4) : D := .tup [.int r.1, .int r.2.1, .int r.2.2.1, .int r.2.2.2]
/-- where the pins of a board are -/
def spots (w h : Int) (rows : List R4) : List (Int × Int) := [(0, 0), (w, 0), (w, h), (0, h)] ++ rows.map fun r => (r.1, r.2.1)
abbrev encS (p : Int × Int) : D := pt p.1 p.2
theorem spots_len {w h : Int} {rows : List R4} : (spots w h rows).length = rows.length + 4 := by
  unfold spots
  simp only [List.length_map, List.length_append, List.length_cons, List.length_nil]
  omega
/-- whether a row of a pin is on a layer -/
def onL (lv : Int) (r : R4) : Bool := decide (r.2.2.1 ≤ lv) && decide (lv ≤ r.2.2.2)
def pinsFrom (lv : Int) : Int → List R4 → List Int
  | _, [] => []
  | k, r :: rs => if onL lv r = true then k :: pinsFrom lv (k + 1) rs else pinsFrom lv (k + 1) rs
/-- the pins of a layer -/
def pinsOf (rows : List R4) (lv : Int) : List Int := [0, 1, 2, 3] ++ pinsFrom lv 4 rows
theorem from_in {lv : Int} : ∀ {rows : List R4} {k p : Int}, p ∈ pinsFrom lv k rows → k ≤ p ∧ p < k + rows.length
  | [], _, _, h => by cases h
  | r :: rs, k, p, h => by
    unfold pinsFrom at h
    have step : p ∈ pinsFrom lv (k + 1) rs → k ≤ p ∧ p < k + (r :: rs).length := fun h => by
      have := from_in h
      rw [List.length_cons]
      omega
    split at h
    · rcases List.mem_cons.mp h with z | z
      · rw [List.length_cons]
        omega
      · exact step z
    · exact step h
theorem from_rise {lv : Int} : ∀ (rows : List R4) (k : Int), (pinsFrom lv k rows).Pairwise (· < ·)
  | [], _ => .nil
  | r :: rs, k => by
    unfold pinsFrom
    split
    · refine .cons (fun p hp => ?_) (from_rise rs (k + 1))
      have := from_in hp
      omega
    · exact from_rise rs (k + 1)
theorem pins_rise (rows : List R4) (lv : Int) : (pinsOf rows lv).Pairwise (· < ·) := by
  unfold pinsOf
  rw [List.pairwise_append]
  refine ⟨by decide, from_rise rows 4, fun a ha b hb => ?_⟩
  have := from_in hb
  simp only [List.mem_cons, List.not_mem_nil, or_false] at ha
  omega
theorem pins_in {rows : List R4} {lv p : Int} (h : p ∈ pinsOf rows lv) : 0 ≤ p ∧ p < rows.length + 4 := by
  unfold pinsOf at h
  rcases List.mem_append.mp h with z | z
  · simp only [List.mem_cons, List.not_mem_nil, or_false] at z
    omega
  · have := from_in z
    omega
theorem pins_nodup (rows : List R4) (lv : Int) : (pinsOf rows lv).Nodup := (pins_rise rows lv).imp fun h e => by omega
theorem from_len {lv : Int} : ∀ (rows : List R4) (k : Int), (pinsFrom lv k rows).length ≤ rows.length
  | [], _ => Nat.le_refl _
  | r :: rs, k => by
    unfold pinsFrom
    have := from_len (lv := lv) rs (k + 1)
    split
    · rw [List.length_cons, List.length_cons]; omega
    · rw [List.length_cons]; omega
theorem pins_len (rows : List R4) (lv : Int) : (pinsOf rows lv).length ≤ rows.length + 4 := by
  unfold pinsOf
  have := from_len (lv := lv) rows 4
  rw [List.length_append]
  simp only [List.length_cons, List.length_nil]
  omega
/-- as the program's comprehension has them -/
theorem from_enum {lv : Int} (p : D → Bool) (f : D → D) (hp : ∀ k r, p (.tup [.int k, encR r]) = onL lv r) (hf : ∀ k r, f (.tup [.int k, encR r]) = .int k) : ∀ (rows : List R4) (k : Int), ((enumD k (rows.map encR)).filter p).map f = (pinsFrom lv k rows).map D.int
  | [], _ => rfl
  | r :: rs, k => by
    have ih := from_enum p f hp hf rs (k + 1)
    rw [List.map_cons, enumD, List.filter_cons, hp, pinsFrom]
    split
    · rw [List.map_cons, List.map_cons, hf, ih]
    · exact ih
/-- whether a three is not in line and no pin lies within -/
def emptyT (sp : List Pt) (pins : List Int) (t : Int × Int × Int) : Bool :=
  let s := sgn (ar (spAt sp t.1) (spAt sp t.2.1) (spAt sp t.2.2))
  !decide (s = 0) && pins.all fun r => !(decide (sgn (ar (spAt sp t.1) (spAt sp t.2.1) (spAt sp r)) = s) && (decide (sgn (ar (spAt sp t.2.1) (spAt sp t.2.2) (spAt sp r)) = s) && decide (sgn (ar (spAt sp t.2.2) (spAt sp t.1) (spAt sp r)) = s)))
def trisOf (sp : List Pt) (pins : List Int) (gates : List Pt) : List (Int × Int × Int) :=
  gates.flatMap fun g => ((pins.filter fun r => decide (g.2 < r) && (decide ((g.1, r) ∈ gates) && decide ((g.2, r) ∈ gates))).map fun r => (g.1, g.2, r)).filter (emptyT sp pins)
abbrev encT (t : Int × Int × Int) : D := t3 t.1 t.2.1 t.2.2
abbrev gOf (w h : Int) (rows : List R4) (lv : Int) : List Pt := gatesOf (spots w h rows) (pinsOf rows lv)
abbrev gatesD (w h : Int) (rows : List R4) (lv : Int) : D := .tup ((gOf w h rows lv).map encG)
abbrev trisD (w h : Int) (rows : List R4) (lv : Int) : D := .tup ((trisOf (spots w h rows) (pinsOf rows lv) (gOf w h rows lv)).map encT)
/-- where a pin of a drawn board lies -/
abbrev Inn (p : Int × Int) : Prop := (0 ≤ p.1 ∧ p.1 ≤ 1000000) ∧ 0 ≤ p.2 ∧ p.2 ≤ 1000000
theorem inn_sz {p : Int × Int} (h : Inn p) : Sz 60 p.1 ∧ Sz 60 p.2 := by
  obtain ⟨⟨a, b⟩, c, d⟩ := h
  exact ⟨by unfold Sz; omega, by unfold Sz; omega⟩
theorem spAt_inn {sp : List Pt} (h : ∀ p ∈ sp, Inn p) (i : Int) : Inn (spAt sp i) := by
  unfold spAt
  rw [List.getD_eq_getElem?_getD]
  cases e : sp[i.toNat]? with
  | none => simp
  | some p => exact h p (List.mem_of_getElem? e)
theorem spAt_at {sp : List Pt} {i : Int} (h0 : 0 ≤ i) (h1 : i < sp.length) : sp[i.toNat]? = some (spAt sp i) := by
  unfold spAt
  have h : i.toNat < sp.length := by omega
  rw [List.getD_eq_getElem?_getD, List.getElem?_eq_getElem h]
  rfl
theorem eqv_dec {d e : D} (h : D.it d = true) (k : D.it e = true) : D.eqv d e = true ↔ d = e := eqv_it d e h k
theorem eqv_ii (p r : Int) : D.eqv (.int p) (.int r) = decide (r = p) := by
  have key := eqv_dec (d := .int p) (e := .int r) rfl rfl
  by_cases h : r = p
  · rw [decide_eq_true h, key, h]
  · rw [decide_eq_false h]
    cases e : D.eqv (.int p) (.int r) with
    | false => rfl
    | true => exact absurd (D.int.inj (key.mp e)).symm h
theorem inD_ii (r p q : Int) : inD (.int r) [.int p, .int q] = (decide (r = p) || decide (r = q)) := by
  unfold inD
  rw [List.any_cons, List.any_cons, List.any_nil, Bool.or_false, eqv_ii, eqv_ii]
theorem sgn_zero (n : Int) : decide (sgn n = 0) = decide (n = 0) := by
  unfold sgn
  by_cases h1 : 0 < n
  · rw [if_pos h1]; have : ¬ n = 0 := by omega
    simp [this]
  · rw [if_neg h1]
    by_cases h2 : n < 0
    · rw [if_pos h2]; have : ¬ n = 0 := by omega
      simp [this]
    · rw [if_neg h2]; have : n = 0 := by omega
      simp [this]
def keyD (sp : List Pt) : D → D
  | .tup [.int p, .int q] => t12 (dist sp (p, q)) p q
  | _ => .non
theorem okn_t12 {a b c : Int} : OkN 2 (t12 a b c) := okn_tup fun z hz => by
  simp only [List.mem_cons, List.not_mem_nil, or_false] at hz
  rcases hz with rfl | rfl
  · exact okn_int.mono (by decide)
  · exact okn_pt
theorem py_cons (d : D) (ds : List D) : D.py (.tup (d :: ds)) = .tuple (D.py d :: D.pys ds) := by simp only [D.py, D.pys]
theorem sortable_of {α : Type} {F : α → PySem.PyData} {l : List α} (h : ∀ x ∈ l, ∃ y r, F x = .tuple (y :: r)) : PySem.W.Sortable (l.map F) := .inl fun d hd => by
  obtain ⟨x, hx, rfl⟩ := List.mem_map.mp hd
  exact h x hx
theorem alike_of {α : Type} {F : α → PySem.PyData} {l : List α} (h : ∀ x ∈ l, ∀ y ∈ l, PySem.W.alike (F x) (F y) = true) : PySem.W.AllAlike (l.map F) := fun d hd e he => by
  obtain ⟨x, hx, rfl⟩ := List.mem_map.mp hd
  obtain ⟨y, hy, rfl⟩ := List.mem_map.mp he
  exact h x hx y hy
theorem key_alike (sp : List Pt) (l : List Pt) : PySem.W.AllAlike ((l.map encG).map fun x => D.py (keyD sp x)) := alike_of fun x hx y hy => by
  obtain ⟨g, _, rfl⟩ := List.mem_map.mp hx
  obtain ⟨g', _, rfl⟩ := List.mem_map.mp hy
  simp [keyD, D.py, D.pys, PySem.W.alike, PySem.W.alikeAll]
theorem key_sortable (sp : List Pt) (l : List Pt) : PySem.W.Sortable ((l.map encG).map fun x => D.py (keyD sp x)) := sortable_of fun x hx => by
  obtain ⟨g, _, rfl⟩ := List.mem_map.mp hx
  exact ⟨_, _, py_cons _ _⟩
theorem pt_alike (l : List Pt) : PySem.W.AllAlike ((l.map encG).map D.py) := alike_of fun x hx y hy => by
  obtain ⟨g, _, rfl⟩ := List.mem_map.mp hx
  obtain ⟨g', _, rfl⟩ := List.mem_map.mp hy
  simp [D.py, D.pys, PySem.W.alike, PySem.W.alikeAll]
theorem pt_sortable (l : List Pt) : PySem.W.Sortable ((l.map encG).map D.py) := sortable_of fun x hx => by
  obtain ⟨g, _, rfl⟩ := List.mem_map.mp hx
  exact ⟨_, _, py_cons _ _⟩
theorem foundG_len {sp : List Pt} {pins : List Int} (l : List Pt) : (foundG sp pins l).length ≤ l.length := by
  refine snoc_ind (P := fun l => (foundG sp pins l).length ≤ l.length) (Nat.le_refl _) (fun l g ih => ?_) l
  rw [foundG_snoc, stepG, List.length_append]
  split
  · rw [List.length_append]
    simp only [List.length_cons, List.length_nil]
    omega
  · simp only [List.length_cons, List.length_nil]
    omega
/-- layers that are kept -/
def Lvs (l : Int) (gl : List Int) : Prop := gl.Nodup ∧ ∀ v ∈ gl, 0 ≤ v ∧ v < l
theorem lvs_nil {l : Int} : Lvs l [] := ⟨List.nodup_nil, fun _ h => (by cases h)⟩
theorem lvs_len {l : Int} {gl : List Int} (h : Lvs l gl) (hl : l ≤ 3) : gl.length ≤ 3 := by
  refine List.Nodup.length_le_of_subset (l₂ := [0, 1, 2]) h.1 fun v hv => ?_
  have := h.2 v hv
  simp only [List.mem_cons, List.not_mem_nil, or_false]
  omega
theorem lvs_snoc {l lv : Int} {gl : List Int} (h : Lvs l gl) (n : lv ∉ gl) (h0 : 0 ≤ lv) (h1 : lv < l) : Lvs l (gl ++ [lv]) := by
  refine ⟨?_, fun v hv => ?_⟩
  · rw [List.nodup_append]
    exact ⟨h.1, by simp, fun a ha b hb e => n (by rw [← List.mem_singleton.mp hb, ← e]; exact ha)⟩
  · rcases List.mem_append.mp hv with z | z
    · exact h.2 v z
    · rw [List.mem_singleton.mp z]; exact ⟨h0, h1⟩
end Z
namespace Z
open Tch
/-- two pieces cross -/
def X (a b c d : Pt) : Prop := ar a b c * ar a b d < 0 ∧ ar c d a * ar c d b < 0
end Z
namespace Z
open Tch
section
variable {w h : Int} {rows : List R4}
theorem sp2 : spAt (spots w h rows) 2 = (w, h) := rfl
theorem sp3 : spAt (spots w h rows) 3 = (0, h) := rfl
variable {lv : Int}
end
def inT3 (p : Int) (t : Int × Int × Int) : Bool := decide (p ∈ [t.1, t.2.1, t.2.2])
end Z
namespace MT
open PySem L2 Z TL
def parts (w : Str) : List Str := Txt.split w "."
abbrev numS (n : Int) : Str := Str.ofString (toString n)
theorem tl_numS {n : Int} (h : 0 ≤ n) : tl (numS n) = numL n.toNat := by
  obtain ⟨m, rfl⟩ := Int.eq_ofNat_of_zero_le h
  exact tl_num m
theorem free {n : Int} (h0 : 0 ≤ n) {s : Nat} (h : s < 48 ∨ 57 < s) : s ∉ tl (numS n) := by
  rw [tl_numS h0]
  exact numL_free h
end MT
namespace MT
open PySem L2 Z TL
theorem num_len {n : Int} (h : n.natAbs < 10 ^ 30) : (numS n).length ≤ 31 := by
  rw [show numS n = Str.ofString (toString n) from rfl, ofString_length]
  exact int_text_length_le10 (k := 30) (by decide) h
end MT
namespace MT
open PySem L2 Z TL
abbrev Q4 := Int × Int × Int × Int
def q4S (q : Q4) : Str := Txt.join " " [numS q.1, numS q.2.1, numS q.2.2.1, numS q.2.2.2]
def brdS (q : Q4) (rows : List Q4) : Str := Txt.join " ; " (q4S q :: rows.map q4S)
/-- four numbers, put together -/
theorem q4S_app (q : Q4) : q4S q = numS q.1 ++ " " ++ numS q.2.1 ++ " " ++ numS q.2.2.1 ++ " " ++ numS q.2.2.2 := by
  apply ext_tl
  unfold q4S
  rw [join_eq, tl_join]
  simp only [tl_append, List.map_cons, List.map_nil, joinL, List.append_assoc]
end MT
namespace W
open PySem L2 Z
local macro_rules | `(tactic| walk_at "mu") => `(tactic| first
  | assumption
  | exact set_same
  | (refine Eq.trans (set_ne ?_) ?_; (first | assumption | (apply Ne.symm; assumption) | (intro h; subst h; simp_all)); walk_at "mu"))
local macro_rules | `(tactic| walk_at "seq") => `(tactic| first
  | rfl
  | (refine seq_ref ?_; walk_at "mu"))
local macro_rules | `(tactic| walk_at "sz") => `(tactic| first
  | assumption
  | (refine sz_2 ?_; decide)
  | (refine sz_8 ?_; decide)
  | (refine sz_32 ?_; decide)
  | (refine sz_128 ?_; decide +kernel)
  | ((with_reducible refine sz_add (a := ?a) (b := ?b) ?h ?k); (case h => walk_at "sz"); (case k => walk_at "sz"))
  | ((with_reducible refine sz_sub (a := ?a) (b := ?b) ?h ?k); (case h => walk_at "sz"); (case k => walk_at "sz"))
  | ((with_reducible refine sz_mul (a := ?a) (b := ?b) ?h ?k); (case h => walk_at "sz"); (case k => walk_at "sz"))
  | ((with_reducible refine sz_neg ?_) <;> walk_at "sz")
  | with_reducible exact sz_b
  | ((with_reducible refine sz_mod ?h1 ?h2); (case h1 => omega); (case h2 => walk_at "sz")))
local macro_rules | `(tactic| walk_at "szN") => `(tactic| first
  | assumption
  | (refine sz_mono (a := ?a) ?h ?l; (case h => walk_at "sz"); (case l => first | decide | omega)))
local macro_rules | `(tactic| walk_at "cond") => `(tactic| first
  | assumption
  | (refine mulw_of (a := ?a) (b := ?b) ?h ?k ?l; (case h => walk_at "sz"); (case k => walk_at "sz"); (case l => first | decide | omega))
  | (refine divw_of (b := ?b) ?h ?k ?l; (case h => omega); (case k => walk_at "sz"); (case l => first | decide | omega))
  | (show (0 : Int) < _; first | assumption | omega | decide)
  | (refine ⟨?_, ?_, ?_⟩ <;> first | assumption | decide | omega))
local macro_rules | `(tactic| walk_at "nf") => `(tactic| ((try simp only [List.set_cons_zero, List.set_cons_succ, Int.reduceToNat, Int.reducePow]); (try dsimp only)))
local macro_rules | `(tactic| walk_at "z1") => `(tactic| first
  | (with_reducible refine s_seq ?_)
  | ((with_reducible refine s_asgX ?_); (first | refine x_meth ?_ | refine x_call ?_))
  | (with_reducible refine s_asg ?_)
  | ((with_reducible refine s_ret ?_); (try dsimp only))
  | ((with_reducible refine s_next ?_); (try dsimp only))
  | ((with_reducible refine s_dropX ?_); (first | refine x_meth ?_ | refine x_call ?_))
  | (with_reducible refine s_drop ?_)
  | ((with_reducible refine s_retN ?_); (try dsimp only))
  | (with_reducible refine s_par ?_)
  | (with_reducible refine s_par3 ?_)
  | ((with_reducible refine g_name ?_); walk_at "nf")
  | ((with_reducible refine g_tup ?zn ?_); (case zn => rfl))
  | (with_reducible refine gs_cons ?_)
  | ((with_reducible refine gs_nil ?_); (try dsimp only))
  | ((with_reducible refine s_aug (d := ?zd) ?zh ?_); (case zh => rfl))
  | ((with_reducible refine a_var (d := ?zd) ?zh ?_); (case zh => rfl))
  | (with_reducible refine a_int ?_)
  | (with_reducible refine a_bl ?_)
  | (with_reducible refine a_str ?_)
  | (with_reducible refine a_non ?_)
  | (with_reducible refine a_ty ?_)
  | (with_reducible refine a_cref ?_)
  | (with_reducible refine a_revT ?_)
  | (with_reducible refine ro_neS ?_)
  | (with_reducible refine a_op ?_)
  | (with_reducible refine a_un ?_)
  | (with_reducible refine aa_cons ?_)
  | (with_reducible refine aa_nil ?_)
  | ((with_reducible refine a_tup ?_))
  | ((with_reducible refine a_lst ?_))
  | ((with_reducible refine a_lenSc (dec := ?zd) ?zt ?_); (case zt => first | exact tg_4 | exact tg_2 | exact tg_3 | exact tg_name))
  | (with_reducible refine a_cb ?_)
  | (with_reducible refine a_call ?_)
  | (with_reducible refine a_callX ?_)
  | (with_reducible refine a_methX ?_)
  | (with_reducible refine a_methI ?_)
  | (with_reducible refine rc_max3 ?_)
  | (with_reducible refine a_if ?_)
  | (with_reducible refine a_andV ?_)
  | (with_reducible refine a_orV ?_)
  | (with_reducible refine a_notV ?_)
  | (with_reducible refine at_test ?_)
  | (with_reducible refine at_B ?_)
  | (with_reducible refine at_and ?_)
  | (with_reducible refine at_or ?_)
  | (with_reducible refine at_not ?_)
  | (with_reducible refine at_yes ?_)
  | (with_reducible refine a_chain ?_)
  | (with_reducible refine a_chain3 ?_)
  | (with_reducible refine s_if ?_)
  | (with_reducible refine g_sub ?_)
  | (with_reducible refine ro_i ?_)
  | (with_reducible refine ru_i ?_)
  | (with_reducible refine ro_b ?_)
  | ((with_reducible refine ro_c (C := CPow) ?zc ?_); (case zc => walk_at "cond"); walk_at "nf")
  | ((with_reducible refine ro_c ?zc ?_); (case zc => walk_at "cond"))
  | ((with_reducible refine ro_ix (ds := ?zd) (e := ?ze) ?zs ?zi ?_); (case zs => walk_at "seq"); (case zi => rfl))
  | ((with_reducible refine set_lst (ds := ?zd) (j := ?zj) ?zs ?zi ?_); (case zs => walk_at "mu"); (case zi => rfl); walk_at "nf")
  | (with_reducible refine a_sl ?_)
  | (with_reducible refine ao_no ?_)
  | (with_reducible refine ao_pt ?_)
  | ((with_reducible refine rs_ref (ds := ?zd) ?zs ?_); (case zs => walk_at "mu"))
  | (with_reducible refine rs_rol ?_)
  | (with_reducible refine rs_tupA ?_)
  | ((with_reducible refine ro_catA ?zl ?_); (case zl => exact Nat.le_of_ble_eq_true rfl))
  | ((with_reducible refine ro_cat (ds := ?zd) (es := ?ze) ?zs ?zt ?zl ?_); (case zs => walk_at "mu"); (case zt => walk_at "mu"); (case zl => exact Nat.le_of_ble_eq_true rfl))
  | (with_reducible refine iteT ?_)
  | (with_reducible refine iteF ?_)
  | (with_reducible refine iteNT ?_)
  | (with_reducible refine iteNF ?_)
  | ((with_reducible refine ro_eqD ?h1 ?h2 ?_); (case h1 => rfl); (case h2 => rfl))
  | ((with_reducible refine ro_neD ?h1 ?h2 ?_); (case h1 => rfl); (case h2 => rfl))
  | ((with_reducible refine ro_inS (ds := ?zd) ?zs ?h1 ?h2 ?_); (case zs => walk_at "seq"); (case h1 => rfl); (case h2 => rfl); (try simp only [if_true, if_false, Bool.false_eq_true]))
  | (with_reducible refine ro_isB ?_)
  | (with_reducible refine ro_isN ?_)
  | (with_reducible refine ro_notN ?_)
  | (with_reducible refine ro_notB ?_)
  | (with_reducible refine ro_eqI ?_)
  | (with_reducible refine ro_neI ?_)
  | (with_reducible refine ro_eqB ?_)
  | (with_reducible refine ro_neB ?_)
  | (with_reducible refine rc_intB ?_)
  | (with_reducible refine rc_intI ?_)
  | (with_reducible refine rc_abs ?_)
  | (with_reducible refine rc_min ?_)
  | (with_reducible refine rc_max ?_)
  | ((with_reducible refine rc_len (ds := ?zd) ?zs ?_); (case zs => walk_at "seq"))
  | ((with_reducible refine rc_isi (n := ?zn) (b := ?zb) ?zs ?zk ?_); (case zs => rfl); (case zk => first | rfl | decide +kernel))
  | (with_reducible refine ⟨_, rfl, ?_⟩)
  | ((with_reducible refine ⟨_, _, rfl, ?_⟩); walk_at "nf")
  | ((with_reducible refine ⟨_, _, _, rfl, ?_⟩); walk_at "nf")
  | (refine ⟨Nat.le_of_ble_eq_true rfl, ?_⟩))
local macro_rules | `(tactic| walk_at "go") => `(tactic| repeat (walk_at "z1"))
local macro_rules | `(tactic| walk_at "txt") => `(tactic| first
  | assumption
  | (exact lng_line (by assumption))
  | (exact Nat.le_of_ble_eq_true rfl))
local macro_rules | `(tactic| walk_at "z1") => `(tactic| first
  | (with_reducible refine ro_eqS ?_)
  | ((with_reducible refine rc_lenS ?zh ?_); (case zh => walk_at "txt"))
  | (with_reducible refine ro_inSg ?_)
  | ((with_reducible refine a_revS ?zh ?_); (case zh => walk_at "txt"))
  | ((with_reducible refine rs_str ?zh ?_); (case zh => walk_at "txt"))
  | ((with_reducible refine ro_addS ?zh ?_); (case zh => walk_at "txt"))
  | (with_reducible refine a_js ?_)
  | (with_reducible refine aj_nil ?_))
def top (i : Nat) : Stmt := PySem.Challenge.pw_rubberroutes_k05_boards_told.main.body.getD i (.Pass ⟨0, 0, 0, 0⟩)
abbrev s_is_whole : Stmt := top 9
abbrev N_is_whole : List Str := ["thing"]
theorem sc_is_whole : FnScope N_is_whole ["thing"] (defScope s_is_whole) := ⟨rfl, rfl, rfl, by decide +kernel, rfl, by decide +kernel, by decide +kernel⟩
abbrev s_is_within : Stmt := top 10
abbrev N_is_within : List Str := ["thing", "least", "most"]
theorem sc_is_within : FnScope N_is_within ["thing", "least", "most"] (defScope s_is_within) := ⟨rfl, rfl, rfl, by decide +kernel, rfl, by decide +kernel, by decide +kernel⟩
abbrev s_is_row : Stmt := top 11
abbrev N_is_row : List Str := ["thing", "least", "most"]
theorem sc_is_row : FnScope N_is_row ["thing", "least", "most"] (defScope s_is_row) := ⟨rfl, rfl, rfl, by decide +kernel, rfl, by decide +kernel, by decide +kernel⟩
abbrev s_are_whole : Stmt := top 12
abbrev N_are_whole : List Str := ["thing", "many", "one"]
theorem sc_are_whole : FnScope N_are_whole ["thing", "many"] (defScope s_are_whole) := ⟨rfl, rfl, rfl, by decide +kernel, rfl, by decide +kernel, by decide +kernel⟩
abbrev s_is_pin_row : Stmt := top 24
abbrev N_is_pin_row : List Str := ["thing", "width", "height", "layers", "x", "y", "first", "last"]
theorem sc_is_pin_row : FnScope N_is_pin_row ["thing", "width", "height", "layers"] (defScope s_is_pin_row) := ⟨rfl, rfl, rfl, by decide +kernel, rfl, by decide +kernel, by decide +kernel⟩
abbrev s_are_board : Stmt := top 25
abbrev N_are_board : List Str := ["width", "height", "pins", "layers", "spacing", "row", "x", "y", "first", "last"]
theorem sc_are_board : FnScope N_are_board ["width", "height", "pins", "layers", "spacing"] (defScope s_are_board) := ⟨rfl, rfl, rfl, by decide +kernel, rfl, by decide +kernel, by decide +kernel⟩
abbrev s_board_init : Stmt := inClass (top 26) 0
abbrev N_board_init : List Str := ["self", "width", "height", "pins", "layers", "spacing", "row"]
theorem sc_board_init : FnScope N_board_init ["self", "width", "height", "pins", "layers", "spacing"] (defScope s_board_init) := ⟨rfl, rfl, rfl, by decide +kernel, rfl, by decide +kernel, by decide +kernel⟩
abbrev s_board_look_pin : Stmt := inClass (top 26) 6
abbrev N_board_look_pin : List Str := ["self", "number"]
theorem sc_board_look_pin : FnScope N_board_look_pin ["self", "number"] (defScope s_board_look_pin) := ⟨rfl, rfl, rfl, by decide +kernel, rfl, by decide +kernel, by decide +kernel⟩
abbrev s_sign_of : Stmt := top 14
abbrev N_sign_of : List Str := ["number"]
theorem sc_sign_of : FnScope N_sign_of ["number"] (defScope s_sign_of) := ⟨rfl, rfl, rfl, by decide +kernel, rfl, by decide +kernel, by decide +kernel⟩
abbrev s_side : Stmt := top 15
abbrev N_side : List Str := ["one", "other", "third", "along", "up"]
theorem sc_side : FnScope N_side ["one", "other", "third"] (defScope s_side) := ⟨rfl, rfl, rfl, by decide +kernel, rfl, by decide +kernel, by decide +kernel⟩
abbrev s_apart : Stmt := top 16
abbrev N_apart : List Str := ["one", "other"]
theorem sc_apart : FnScope N_apart ["one", "other"] (defScope s_apart) := ⟨rfl, rfl, rfl, by decide +kernel, rfl, by decide +kernel, by decide +kernel⟩
abbrev s_is_between : Stmt := top 17
abbrev N_is_between : List Str := ["one", "other", "third", "wide"]
theorem sc_is_between : FnScope N_is_between ["one", "other", "third"] (defScope s_is_between) := ⟨rfl, rfl, rfl, by decide +kernel, rfl, by decide +kernel, by decide +kernel⟩
abbrev s_board_look_layer : Stmt := inClass (top 26) 7
abbrev N_board_look_layer : List Str := ["self", "number"]
theorem sc_board_look_layer : FnScope N_board_look_layer ["self", "number"] (defScope s_board_look_layer) := ⟨rfl, rfl, rfl, by decide +kernel, rfl, by decide +kernel, by decide +kernel⟩
abbrev s_board_pins_on : Stmt := inClass (top 26) 10
abbrev N_board_pins_on : List Str := ["self", "layer", "found", "number", "row"]
theorem sc_board_pins_on : FnScope N_board_pins_on ["self", "layer"] (defScope s_board_pins_on) := ⟨rfl, rfl, rfl, by decide +kernel, rfl, by decide +kernel, by decide +kernel⟩
abbrev s_board_meets_a_pin : Stmt := inClass (top 26) 11
abbrev N_board_meets_a_pin : List Str := ["self", "one", "other", "pins", "a", "b", "pin"]
theorem sc_board_meets_a_pin : FnScope N_board_meets_a_pin ["self", "one", "other", "pins"] (defScope s_board_meets_a_pin) := ⟨rfl, rfl, rfl, by decide +kernel, rfl, by decide +kernel, by decide +kernel⟩
abbrev s_board_crosses_gate : Stmt := inClass (top 26) 12
abbrev N_board_crosses_gate : List Str := ["self", "one", "other", "gate", "a", "b", "c", "d"]
theorem sc_board_crosses_gate : FnScope N_board_crosses_gate ["self", "one", "other", "gate"] (defScope s_board_crosses_gate) := ⟨rfl, rfl, rfl, by decide +kernel, rfl, by decide +kernel, by decide +kernel⟩
abbrev s_board_found_gates : Stmt := inClass (top 26) 13
abbrev N_board_found_gates : List Str := ["self", "pins", "pairs", "found", "p", "q", "gate"]
theorem sc_board_found_gates : FnScope N_board_found_gates ["self", "pins"] (defScope s_board_found_gates) := ⟨rfl, rfl, rfl, by decide +kernel, rfl, by decide +kernel, by decide +kernel⟩
abbrev s_board_gates : Stmt := inClass (top 26) 14
abbrev N_board_gates : List Str := ["self", "layer"]
theorem sc_board_gates : FnScope N_board_gates ["self", "layer"] (defScope s_board_gates) := ⟨rfl, rfl, rfl, by decide +kernel, rfl, by decide +kernel, by decide +kernel⟩
abbrev s_board_is_empty : Stmt := inClass (top 26) 15
abbrev N_board_is_empty : List Str := ["self", "corners", "pins", "a", "b", "c", "turn", "pin", "spot"]
theorem sc_board_is_empty : FnScope N_board_is_empty ["self", "corners", "pins"] (defScope s_board_is_empty) := ⟨rfl, rfl, rfl, by decide +kernel, rfl, by decide +kernel, by decide +kernel⟩
abbrev s_board_found_triangles : Stmt := inClass (top 26) 16
abbrev N_board_found_triangles : List Str := ["self", "layer", "gates", "pins", "known", "found", "p", "q", "r", "gate", "pin"]
theorem sc_board_found_triangles : FnScope N_board_found_triangles ["self", "layer"] (defScope s_board_found_triangles) := ⟨rfl, rfl, rfl, by decide +kernel, rfl, by decide +kernel, by decide +kernel⟩
abbrev s_board_triangles : Stmt := inClass (top 26) 17
abbrev N_board_triangles : List Str := ["self", "layer"]
theorem sc_board_triangles : FnScope N_board_triangles ["self", "layer"] (defScope s_board_triangles) := ⟨rfl, rfl, rfl, by decide +kernel, rfl, by decide +kernel, by decide +kernel⟩
abbrev s_l_cell_at : Stmt := top 28
abbrev N_l_cell_at : List Str := ["_law_script", "_law_k"]
theorem sc_l_cell_at : FnScope N_l_cell_at ["_law_script", "_law_k"] (defScope s_l_cell_at) := ⟨rfl, rfl, rfl, by decide +kernel, rfl, by decide +kernel, by decide +kernel⟩
abbrev s_l_bag : Stmt := top 29
abbrev N_l_bag : List Str := ["_law_script", "_law_at", "_law_primes", "_law_cell", "_law_mix", "_law_k", "_law_one"]
theorem sc_l_bag : FnScope N_l_bag ["_law_script", "_law_at"] (defScope s_l_bag) := ⟨rfl, rfl, rfl, by decide +kernel, rfl, by decide +kernel, by decide +kernel⟩
abbrev s_l_take : Stmt := top 30
abbrev N_l_take : List Str := ["_law_bag_here", "_law_many", "_law_digit"]
theorem sc_l_take : FnScope N_l_take ["_law_bag_here", "_law_many"] (defScope s_l_take) := ⟨rfl, rfl, rfl, by decide +kernel, rfl, by decide +kernel, by decide +kernel⟩
abbrev s_l_made : Stmt := top 32
abbrev N_l_made : List Str := ["_law_bag_here", "_law_most", "_law_way", "_law_wide", "_law_high", "_law_scale", "_law_row", "_law_floors", "_law_pins_here", "_law_k", "_law_spot", "_law_low", "_law_rows"]
theorem sc_l_made : FnScope N_l_made ["_law_bag_here", "_law_most"] (defScope s_l_made) := ⟨rfl, rfl, rfl, by decide +kernel, rfl, by decide +kernel, by decide +kernel⟩
abbrev s_l_board : Stmt := top 33
abbrev N_l_board : List Str := ["_law_made_here"]
theorem sc_l_board : FnScope N_l_board ["_law_made_here"] (defScope s_l_board) := ⟨rfl, rfl, rfl, by decide +kernel, rfl, by decide +kernel, by decide +kernel⟩
abbrev s_l_pins : Stmt := top 35
abbrev N_l_pins : List Str := ["_law_made_here", "_law_level", "_law_k"]
theorem sc_l_pins : FnScope N_l_pins ["_law_made_here", "_law_level"] (defScope s_l_pins) := ⟨rfl, rfl, rfl, by decide +kernel, rfl, by decide +kernel, by decide +kernel⟩
abbrev s_l_points : Stmt := top 34
abbrev N_l_points : List Str := ["_law_made_here", "_law_wide", "_law_high", "_law_row"]
theorem sc_l_points : FnScope N_l_points ["_law_made_here"] (defScope s_l_points) := ⟨rfl, rfl, rfl, by decide +kernel, rfl, by decide +kernel, by decide +kernel⟩
abbrev s_board_look_gate : Stmt := inClass (top 26) 8
abbrev N_board_look_gate : List Str := ["self", "gate", "layer"]
theorem sc_board_look_gate : FnScope N_board_look_gate ["self", "gate", "layer"] (defScope s_board_look_gate) := ⟨rfl, rfl, rfl, by decide +kernel, rfl, by decide +kernel, by decide +kernel⟩
abbrev s_board_beside : Stmt := inClass (top 26) 18
abbrev N_board_beside : List Str := ["self", "gate", "layer", "row"]
theorem sc_board_beside : FnScope N_board_beside ["self", "gate", "layer"] (defScope s_board_beside) := ⟨rfl, rfl, rfl, by decide +kernel, rfl, by decide +kernel, by decide +kernel⟩
abbrev s_board_made_of : Stmt := inClass (top 26) 5
abbrev N_board_made_of : List Str := ["self"]
theorem sc_board_made_of : FnScope N_board_made_of ["self"] (defScope s_board_made_of) := ⟨rfl, rfl, rfl, by decide +kernel, rfl, by decide +kernel, by decide +kernel⟩
abbrev s_board_eq : Stmt := inClass (top 26) 1
abbrev N_board_eq : List Str := ["self", "other"]
theorem sc_board_eq : FnScope N_board_eq ["self", "other"] (defScope s_board_eq) := ⟨rfl, rfl, rfl, by decide +kernel, rfl, by decide +kernel, by decide +kernel⟩
abbrev s_board_len : Stmt := inClass (top 26) 2
abbrev N_board_len : List Str := ["self"]
theorem sc_board_len : FnScope N_board_len ["self"] (defScope s_board_len) := ⟨rfl, rfl, rfl, by decide +kernel, rfl, by decide +kernel, by decide +kernel⟩
abbrev s_board_str : Stmt := inClass (top 26) 3
abbrev N_board_str : List Str := ["self", "rows", "x", "y", "first", "last"]
theorem sc_board_str : FnScope N_board_str ["self"] (defScope s_board_str) := ⟨rfl, rfl, rfl, by decide +kernel, rfl, by decide +kernel, by decide +kernel⟩
abbrev s_board_point : Stmt := inClass (top 26) 9
abbrev N_board_point : List Str := ["self", "pin"]
theorem sc_board_point : FnScope N_board_point ["self", "pin"] (defScope s_board_point) := ⟨rfl, rfl, rfl, by decide +kernel, rfl, by decide +kernel, by decide +kernel⟩
abbrev s_l_whole : Stmt := top 31
abbrev N_l_whole : List Str := ["_law_thing"]
theorem sc_l_whole : FnScope N_l_whole ["_law_thing"] (defScope s_l_whole) := ⟨rfl, rfl, rfl, by decide +kernel, rfl, by decide +kernel, by decide +kernel⟩
abbrev s_l_odd : Stmt := top 36
abbrev N_l_odd : List Str := ["_law_bag_here", "_law_most", "_law_far", "_law_odd_here"]
theorem sc_l_odd : FnScope N_l_odd ["_law_bag_here", "_law_most"] (defScope s_l_odd) := ⟨rfl, rfl, rfl, by decide +kernel, rfl, by decide +kernel, by decide +kernel⟩
abbrev s_l_no_pin : Stmt := top 37
abbrev N_l_no_pin : List Str := ["_law_board_here", "_law_number", "e", "_law_others"]
theorem sc_l_no_pin : FnScope N_l_no_pin ["_law_board_here", "_law_number"] (defScope s_l_no_pin) := ⟨rfl, rfl, rfl, by decide +kernel, rfl, by decide +kernel, by decide +kernel⟩
abbrev s_l_no_layer : Stmt := top 38
abbrev N_l_no_layer : List Str := ["_law_board_here", "_law_number", "_law_way", "e", "_law_others"]
theorem sc_l_no_layer : FnScope N_l_no_layer ["_law_board_here", "_law_number", "_law_way"] (defScope s_l_no_layer) := ⟨rfl, rfl, rfl, by decide +kernel, rfl, by decide +kernel, by decide +kernel⟩
abbrev s_l_text : Stmt := top 39
abbrev N_l_text : List Str := ["_law_made_here", "_law_rows", "_law_row", "_law_number"]
theorem sc_l_text : FnScope N_l_text ["_law_made_here"] (defScope s_l_text) := ⟨rfl, rfl, rfl, by decide +kernel, rfl, by decide +kernel, by decide +kernel⟩
abbrev s_l_unlike : Stmt := top 41
abbrev N_l_unlike : List Str := ["_law_made_here", "_law_wide", "_law_high", "_law_rows", "_law_floors", "_law_gap", "_law_found"]
theorem sc_l_unlike : FnScope N_l_unlike ["_law_made_here"] (defScope s_l_unlike) := ⟨rfl, rfl, rfl, by decide +kernel, rfl, by decide +kernel, by decide +kernel⟩
abbrev s_l_told : Stmt := top 40
abbrev N_l_told : List Str := ["_law_board_here", "_law_made_here", "_law_spots", "_law_due", "_law_pin", "_law_level"]
theorem sc_l_told : FnScope N_l_told ["_law_board_here", "_law_made_here"] (defScope s_l_told) := ⟨rfl, rfl, rfl, by decide +kernel, rfl, by decide +kernel, by decide +kernel⟩
abbrev s_law : Stmt := top 42
abbrev N_law : List Str := ["_law_script", "_law_k", "_law_bag_here", "_law_made_here", "_law_board_here", "_law_twin", "_law_others", "_law_flat", "_law_plain", "_law_way", "_law_other", "_law_row"]
theorem sc_law : FnScope N_law ["_law_script"] (defScope s_law) := ⟨rfl, rfl, rfl, by decide +kernel, rfl, by decide +kernel, by decide +kernel⟩
abbrev s_nopin_init : Stmt := inClass (top 4) 0
abbrev N_nopin_init : List Str := ["self", "pin"]
theorem sc_nopin_init : FnScope N_nopin_init ["self", "pin"] (defScope s_nopin_init) := ⟨rfl, rfl, rfl, by decide +kernel, rfl, by decide +kernel, by decide +kernel⟩
abbrev s_nolayer_init : Stmt := inClass (top 5) 0
abbrev N_nolayer_init : List Str := ["self", "layer"]
theorem sc_nolayer_init : FnScope N_nolayer_init ["self", "layer"] (defScope s_nolayer_init) := ⟨rfl, rfl, rfl, by decide +kernel, rfl, by decide +kernel, by decide +kernel⟩
abbrev s_nogate_init : Stmt := inClass (top 7) 0
abbrev N_nogate_init : List Str := ["self", "gate"]
theorem sc_nogate_init : FnScope N_nogate_init ["self", "gate"] (defScope s_nogate_init) := ⟨rfl, rfl, rfl, by decide +kernel, rfl, by decide +kernel, by decide +kernel⟩
structure Bs (mg : Str → Option Value) : Prop where
  b_IndexError : mg "IndexError" = none
  b_all : mg "all" = none
  b_any : mg "any" = none
  b_bool : mg "bool" = none
  b_enumerate : mg "enumerate" = none
  b_int : mg "int" = none
  b_isinstance : mg "isinstance" = none
  b_len : mg "len" = none
  b_list : mg "list" = none
  b_max : mg "max" = none
  b_min : mg "min" = none
  b_range : mg "range" = none
  b_sorted : mg "sorted" = none
  b_str : mg "str" = none
  b_tuple : mg "tuple" = none
structure Cl_Board (K : PySem.W.Frag) (C : Addr) : Prop where
  cls : Cls K C
  n_wide : NoAttr K C "wide"
  n_high : NoAttr K C "high"
  n_pin_rows : NoAttr K C "pin_rows"
  n_layer_count : NoAttr K C "layer_count"
  n_apart_by : NoAttr K C "apart_by"
  n_spots : NoAttr K C "spots"
  n_kept_gates : NoAttr K C "kept_gates"
  n_kept_triangles : NoAttr K C "kept_triangles"
abbrev xn (mg : Str → Option Value) : Str → Option Value := fun x => if x ∈ (["NoBoard", "NoPin", "NoLayer", "NoGate"] : List Str) then mg x else none
theorem xn_at {mg : Str → Option Value} {x : Str} {v : Value} (m : mg x = some v) (h : x ∈ (["NoBoard", "NoPin", "NoLayer", "NoGate"] : List Str) := by decide) : xn mg x = some v := by
  unfold xn
  rw [if_pos h]
  exact m
theorem xn_or {mg : Str → Option Value} {x : Str} {c : Value} (h : xn mg x = some c) : (x = "NoBoard" ∧ mg "NoBoard" = some c) ∨ (x = "NoPin" ∧ mg "NoPin" = some c) ∨ (x = "NoLayer" ∧ mg "NoLayer" = some c) ∨ (x = "NoGate" ∧ mg "NoGate" = some c) := by
  unfold xn at h
  split at h
  · rename_i hm
    simp only [List.mem_cons, List.not_mem_nil, or_false] at hm
    rcases hm with rfl | rfl | rfl | rfl <;> simp [h]
  · cases h
section
variable {P : Program} {w : World} {K : PySem.W.Frag} {mg : Str → Option Value} {base : Heap}
theorem xi_NoPin {f : Addr} {fd : FuncData} (F : Fun K "__init__" "NoPin.__init__" s_nopin_init f fd) : FnOk P w K mg base CX0 1 f fd ["self", "pin"] (XO.spI1 K "IndexError.__new__" XO.tlIE "pin") :=
  F.ok sc_nopin_init (fun vs H Q E h => by obtain ⟨_, _, _, e, _⟩ := h; rw [e]; rfl) fun cdv A outer s H vs Q E hr h => ⟨XO.tOs1 K "IndexError.__new__" XO.tlIE "pin" (tVar 0) (tVar 1), pss_one (XO.ps_os1 (pv 0) (pv 1)), XO.init_ok (P := P) (w := w) (D := ⟨fun _ _ => False, fun _ _ => False, fun _ _ => False, fun _ _ => False⟩) h⟩
theorem xi_NoLayer {f : Addr} {fd : FuncData} (F : Fun K "__init__" "NoLayer.__init__" s_nolayer_init f fd) : FnOk P w K mg base CX0 1 f fd ["self", "layer"] (XO.spI1 K "IndexError.__new__" XO.tlIE "layer") :=
  F.ok sc_nolayer_init (fun vs H Q E h => by obtain ⟨_, _, _, e, _⟩ := h; rw [e]; rfl) fun cdv A outer s H vs Q E hr h => ⟨XO.tOs1 K "IndexError.__new__" XO.tlIE "layer" (tVar 0) (tVar 1), pss_one (XO.ps_os1 (pv 0) (pv 1)), XO.init_ok (P := P) (w := w) (D := ⟨fun _ _ => False, fun _ _ => False, fun _ _ => False, fun _ _ => False⟩) h⟩
theorem xi_NoGate {f : Addr} {fd : FuncData} (F : Fun K "__init__" "NoGate.__init__" s_nogate_init f fd) : FnOk P w K mg base CX0 1 f fd ["self", "gate"] (XO.spI1 K "LookupError.__new__" XO.tlKE "gate") :=
  F.ok sc_nogate_init (fun vs H Q E h => by obtain ⟨_, _, _, e, _⟩ := h; rw [e]; rfl) fun cdv A outer s H vs Q E hr h => ⟨XO.tOs1 K "LookupError.__new__" XO.tlKE "gate" (tVar 0) (tVar 1), pss_one (XO.ps_os1 (pv 0) (pv 1)), XO.init_ok (P := P) (w := w) (D := ⟨fun _ _ => False, fun _ _ => False, fun _ _ => False, fun _ _ => False⟩) h⟩
abbrev Q_g : Str := ("Board.found_gates" ++ ".<locals>.") ++ "<lambda>"
abbrev P_law (T : Addr) : PT3 := P_lawT Q_g T
theorem len_law (T : Addr) (ds : List D) (μ : M) (Φ : D → M → Prop) (h : P_law T ds μ Φ) : ds.length = 1 := len_lawT ds μ Φ h
def P_is_whole : PT3 := fun ds μ Φ => ∃ d, ds = [d] ∧ Kd μ d ∧ Φ (.bl (wh d)) μ
theorem len_is_whole (ds : List D) (μ : M) (Φ : D → M → Prop) (h : P_is_whole ds μ Φ) : ds.length = 1 := by
  obtain ⟨_, rfl, _⟩ := h
  rfl
def P_is_within : PT3 := fun ds μ Φ => ∃ d lo hi, ds = [d, .int lo, .int hi] ∧ Kd μ d ∧ Φ (.bl (wi d lo hi)) μ
theorem len_is_within (ds : List D) (μ : M) (Φ : D → M → Prop) (h : P_is_within ds μ Φ) : ds.length = 3 := by
  obtain ⟨_, _, _, rfl, _⟩ := h
  rfl
def P_is_row : PT3 := fun ds μ Φ => ∃ d lo hi, ds = [d, .int lo, .int hi] ∧ Kd μ d ∧ Φ (.bl (ir d lo hi)) μ
theorem len_is_row (ds : List D) (μ : M) (Φ : D → M → Prop) (h : P_is_row ds μ Φ) : ds.length = 3 := by
  obtain ⟨_, _, _, rfl, _⟩ := h
  rfl
def P_are_whole : PT3 := fun ds μ Φ => ∃ d m, ds = [d, .int m] ∧ Kd μ d ∧ (∀ xs, d = .tup xs → xs.length ≤ 1000 ∧ ∀ x ∈ xs, Kd μ x) ∧ Φ (.bl (aw d m)) μ
theorem len_are_whole (ds : List D) (μ : M) (Φ : D → M → Prop) (h : P_are_whole ds μ Φ) : ds.length = 2 := by
  obtain ⟨_, _, rfl, _⟩ := h
  rfl
theorem ok_is_whole {f : Addr} {fd : FuncData} (F : Fun K "is_whole" "is_whole" s_is_whole f fd) (B : Bs mg) : FnOk P w K mg base CX0 1 f fd ["thing"] (spI K P_is_whole) := by
  refine F.ok sc_is_whole (fun vs H Q E h => spI_len h len_is_whole) (fun cdv A outer s H vs Q E hr h => ?_)
  have hu65 := hu65_of hr
  refine ⟨_, (pss_one (ps_ret (pe_and (pe_callB (call_isiK1 (K := K) rfl) (by rfl) B.b_isinstance (by decide +kernel) (pa_cons (pv 0) (pa_cons (pe_bltn (v := .ty "int") (by rfl) B.b_int (by decide +kernel) rfl) pa_nil))) (pe_one (pe_not (pe_callB (call_isiK1 (K := K) rfl) (by rfl) B.b_isinstance (by decide +kernel) (pa_cons (pv 0) (pa_cons (pe_bltn (v := .ty "bool") (by rfl) B.b_bool (by decide +kernel) rfl) pa_nil)))))))), body_ok h (fun ds μ Φ p => ?_)⟩
  (try dsimp only [cxOf, Cx.nox, Cx.wish, List.map_cons, List.map_nil])
  obtain ⟨d, rfl, ⟨n, hn⟩, q⟩ := p
  show AS K _ [some _] _ _
  cases d with
  | non => walk_at "go"; exact q
  | bl b =>
    walk_at "go"
    rw [if_pos (by decide +kernel)]
    walk_at "go"
    exact q
  | int i => walk_at "go"; exact q
  | str s => walk_at "go"; exact q
  | ty n => cases hn
  | tup xs => walk_at "go"; exact q
  | rol xs => walk_at "go"; exact q
  | ref a =>
    have hk : n = "list" ∨ n = "dict" := by
      unfold tyn at hn
      simp only at hn
      split at hn <;> first | (cases hn; first | exact .inl rfl | exact .inr rfl) | cases hn
    rcases hk with rfl | rfl
    · walk_at "go"
      refine rc_isi hn (b := false) (by decide +kernel) ?_
      walk_at "go"
      exact q
    · walk_at "go"
      refine rc_isi hn (b := false) (by decide +kernel) ?_
      walk_at "go"
      exact q
theorem ok_is_within {f : Addr} {fd : FuncData} (F : Fun K "is_within" "is_within" s_is_within f fd) (B : Bs mg) (G_is_whole : Def P w K mg base "is_whole" ["thing"] 1 (spI K P_is_whole)) : FnOk P w K mg base CX0 2 f fd ["thing", "least", "most"] (spI K P_is_within) := by
  refine F.ok sc_is_within (fun vs H Q E h => spI_len h len_is_within) (fun cdv A outer s H vs Q E hr h => ?_)
  have hu65 := hu65_of hr
  refine ⟨_, (pss_one (ps_ret (pe_and (pe_def G_is_whole (hr.mono (by decide)) (by rfl) (pa_cons (pv 0) pa_nil)) (pe_one (pe_chain op_le op_le (pv 1) (pv 0) (pv 2)))))), body_ok h (fun ds μ Φ p => ?_)⟩
  (try dsimp only [cxOf, Cx.nox, Cx.wish, List.map_cons, List.map_nil])
  obtain ⟨d, lo, hi, rfl, hk, q⟩ := p
  show AS K _ [some _, some _, some _] _ _
  walk_at "go"
  refine ⟨d, rfl, hk, ?_⟩
  cases d with
  | int i =>
    walk_at "go"
    simp only [wi] at q
    by_cases h : lo ≤ i
    · simp only [h, decide_true, Bool.true_and] at q
      simp only [wh, if_true]
      walk_at "go"
      simp only [h, decide_true, if_true]
      walk_at "go"
      exact q
    · simp only [h, decide_false, Bool.false_and] at q
      simp only [wh, if_true]
      walk_at "go"
      simp only [h, decide_false, Bool.false_eq_true, if_false]
      exact q
  | non => walk_at "go"; exact q
  | bl b => walk_at "go"; exact q
  | str s => walk_at "go"; exact q
  | ty n => walk_at "go"; exact q
  | tup xs => walk_at "go"; exact q
  | rol xs => walk_at "go"; exact q
  | ref a => walk_at "go"; exact q
theorem ok_is_row {f : Addr} {fd : FuncData} (F : Fun K "is_row" "is_row" s_is_row f fd) (B : Bs mg) : FnOk P w K mg base CX0 1 f fd ["thing", "least", "most"] (spI K P_is_row) := by
  refine F.ok sc_is_row (fun vs H Q E h => spI_len h len_is_row) (fun cdv A outer s H vs Q E hr h => ?_)
  have hu65 := hu65_of hr
  refine ⟨_, (pss_one (ps_ret (pe_and (pe_callB (call_isiK1 (K := K) rfl) (by rfl) B.b_isinstance (by decide +kernel) (pa_cons (pv 0) (pa_cons (pe_bltn (v := .ty "tuple") (by rfl) B.b_tuple (by decide +kernel) rfl) pa_nil))) (pe_one (pe_chain op_le op_le (pv 1) (pe_callB (call_lenK (K := K) rfl) (by rfl) B.b_len (by decide +kernel) (pa_cons (pv 0) pa_nil)) (pv 2)))))), body_ok h (fun ds μ Φ p => ?_)⟩
  (try dsimp only [cxOf, Cx.nox, Cx.wish, List.map_cons, List.map_nil])
  obtain ⟨d, lo, hi, rfl, ⟨n, hn⟩, q⟩ := p
  show AS K _ [some _, some _, some _] _ _
  cases d with
  | non => walk_at "go"; exact q
  | bl b => walk_at "go"; exact q
  | int i => walk_at "go"; exact q
  | str s => walk_at "go"; exact q
  | ty n => cases hn
  | rol xs => walk_at "go"; exact q
  | tup xs =>
    walk_at "go"
    simp only [ir] at q
    by_cases h : lo ≤ (xs.length : Int)
    · simp only [h, decide_true, Bool.true_and] at q
      simp only [h, decide_true, if_true]
      walk_at "go"
      exact q
    · simp only [h, decide_false, Bool.false_and] at q
      simp only [h, decide_false, Bool.false_eq_true, if_false]
      exact q
  | ref a =>
    have hk : n = "list" ∨ n = "dict" := by
      unfold tyn at hn
      simp only at hn
      split at hn <;> first | (cases hn; first | exact .inl rfl | exact .inr rfl) | cases hn
    rcases hk with rfl | rfl
    · walk_at "go"
      refine rc_isi hn (b := false) (by decide +kernel) ?_
      walk_at "go"
      exact q
    · walk_at "go"
      refine rc_isi hn (b := false) (by decide +kernel) ?_
      walk_at "go"
      exact q
theorem ok_are_whole {f : Addr} {fd : FuncData} (F : Fun K "are_whole" "are_whole" s_are_whole f fd) (B : Bs mg) (G_is_row : Def P w K mg base "is_row" ["thing", "least", "most"] 1 (spI K P_is_row)) (G_is_whole : Def P w K mg base "is_whole" ["thing"] 1 (spI K P_is_whole)) : FnOk P w K mg base CX0 2 f fd ["thing", "many"] (spI K P_are_whole) := by
  refine F.ok sc_are_whole (fun vs H Q E h => spI_len h len_are_whole) (fun cdv A outer s H vs Q E hr h => ?_)
  have hu65 := hu65_of hr
  refine ⟨_, (pss_one (ps_ret (pe_and (pe_def G_is_row (hr.mono (by decide)) (by rfl) (pa_cons (pv 0) (pa_cons (pv 1) (pa_cons (pv 1) pa_nil)))) (pe_one (pe_callB (cr_allK (K := K) rfl rfl) (by rfl) B.b_all (by decide +kernel) (pa_cons (pe_lc (own := [("one", 2)]) (g := gName 2) (tt := tYes) rfl sc_are_whole.nd (pi_tupK (K := K) rfl (pv 0)) (blkOk_by (own := [("one", 2)]) (N := N_are_whole) (sc := defScope s_are_whole) (by decide +kernel)) (fun _ _ _ _ _ => (pg_name (i := 2) sc_are_whole.nd rfl (by first | exact Or.inl rfl | exact Or.inr rfl))) (fun _ _ _ _ _ => pts_nil) (fun _ _ _ _ _ => (pe_def G_is_whole (hr.mono (by decide)) (by rfl) (pa_cons (pv 2) pa_nil)))) pa_nil)))))), body_okU h (fun ds μ Φ p => ?_)⟩
  (try dsimp only [cxOf, Cx.nox, Cx.wish, List.map_cons, List.map_nil])
  obtain ⟨d, m, rfl, hk, hx, q⟩ := p
  show AS K _ [some _, some _, none] _ _
  walk_at "go"
  refine ⟨d, m, m, rfl, hk, ?_⟩
  by_cases hr : ir d m m = true
  · cases d with
    | tup xs =>
      obtain ⟨h1, h2⟩ := hx xs rfl
      have hl : (xs.length : Int) = m := by
        simp only [ir, Bool.and_eq_true, decide_eq_true_eq] at hr
        omega
      rw [hr]
      walk_at "go"
      refine a_lc1 (fun x => .bl (wh x)) (fun _ => true) (ai_T ?_)
      walk_at "go"
      refine ⟨by have := sizeLine_eq; omega, fun x hx => at_yes ⟨rfl, rfl⟩, fun x hx _ => ?_, fun l hl2 => ?_⟩
      · walk_at "nf"
        walk_at "go"
        exact ⟨x, rfl, h2 x hx, rfl, rfl⟩
      · walk_at "go"
        have e : List.map (fun x => D.bl (wh x)) (List.filter (fun _ => true) xs) = (xs.map wh).map D.bl := by
          rw [List.filter_eq_self.mpr (fun _ _ => rfl), List.map_map]; rfl
        rw [e]
        refine rc_all set_same ?_
        refine up_of (sub_new Sub.refl hl2) ?_
        have e2 : (xs.map wh).all id = xs.all wh := by rw [List.all_map]; rfl
        rw [e2]
        simp only [aw, hl, decide_true, Bool.true_and] at q
        exact q
    | non => cases hr
    | bl b => cases hr
    | int i => cases hr
    | str s => cases hr
    | ty n => cases hr
    | rol xs => cases hr
    | ref a => cases hr
  · have hf : ir d m m = false := by simpa using hr
    rw [hf]
    walk_at "go"
    refine up ?_
    have e : aw d m = false := by
      cases d <;> first | rfl | skip
      rename_i xs
      simp only [ir, aw] at hf ⊢
      rw [Bool.and_eq_false_iff] at hf ⊢
      left
      rcases hf with h | h <;> (simp only [decide_eq_false_iff_not] at h ⊢; omega)
    rw [e] at q
    exact q
def Kx (μ : M) (d : D) : Prop := Kd μ d ∧ ∀ xs, d = .tup xs → xs.length ≤ 1000 ∧ ∀ x ∈ xs, Kd μ x
def P_is_pin_row : PT3 := fun ds μ Φ => ∃ d w h l, ds = [d, .int w, .int h, .int l] ∧ Kx μ d ∧ Φ (.bl (pr d w h l)) μ
theorem len_is_pin_row (ds : List D) (μ : M) (Φ : D → M → Prop) (h : P_is_pin_row ds μ Φ) : ds.length = 4 := by
  obtain ⟨_, _, _, _, rfl, _⟩ := h
  rfl
def P_are_board : PT3 := fun ds μ Φ => ∃ w h p l s, ds = [w, h, p, l, s] ∧ Kd μ w ∧ Kd μ h ∧ Kd μ p ∧ Kd μ l ∧ Kd μ s ∧ (∀ rows, p = .tup rows → rows.length ≤ 1000 ∧ ∀ r ∈ rows, Kx μ r) ∧ Φ (.bl (ab w h p l s)) μ
theorem len_are_board (ds : List D) (μ : M) (Φ : D → M → Prop) (h : P_are_board ds μ Φ) : ds.length = 5 := by
  obtain ⟨_, _, _, _, _, rfl, _⟩ := h
  rfl
theorem ok_is_pin_row {f : Addr} {fd : FuncData} (F : Fun K "is_pin_row" "is_pin_row" s_is_pin_row f fd) (B : Bs mg) (G_are_whole : Def P w K mg base "are_whole" ["thing", "many"] 2 (spI K P_are_whole)) : FnOk P w K mg base CX0 3 f fd ["thing", "width", "height", "layers"] (spI K P_is_pin_row) := by
  refine F.ok sc_is_pin_row (fun vs H Q E h => spI_len h len_is_pin_row) (fun cdv A outer s H vs Q E hr h => ?_)
  have hu65 := hu65_of hr
  refine ⟨_, (pss_cons (ps_if (pt_not (pt_val (pe_def G_are_whole (hr.mono (by decide)) (by rfl) (pa_cons (pv 0) (pa_cons pe_int pa_nil))))) (pss_one (ps_ret pe_bl)) pss_nil)
      (pss_cons (ps_asg (pv 0) (pg_tup (by rfl) (pgs_cons (pg_name (i := 4) sc_is_pin_row.nd rfl (by first | exact Or.inl rfl | exact Or.inr rfl)) (pgs_cons (pg_name (i := 5) sc_is_pin_row.nd rfl (by first | exact Or.inl rfl | exact Or.inr rfl)) (pgs_cons (pg_name (i := 6) sc_is_pin_row.nd rfl (by first | exact Or.inl rfl | exact Or.inr rfl)) (pgs_cons (pg_name (i := 7) sc_is_pin_row.nd rfl (by first | exact Or.inl rfl | exact Or.inr rfl)) pgs_nil))))))
      (pss_one (ps_ret (pe_and (pe_chain op_lt op_lt pe_int (pv 4) (pv 1)) (pe_and (pe_chain op_lt op_lt pe_int (pv 5) (pv 2)) (pe_one (pe_chain3 op_le op_le op_lt pe_int (pv 6) (pv 7) (pv 3))))))))), body_ok h (fun ds μ Φ p => ?_)⟩
  (try dsimp only [cxOf, Cx.nox, Cx.wish, List.map_cons, List.map_nil])
  obtain ⟨d, w, h, l, rfl, ⟨hk, hx⟩, q⟩ := p
  show AS K _ [some _, some _, some _, some _, none, none, none, none] _ _
  walk_at "go"
  refine ⟨d, 4, rfl, hk, hx, ?_⟩
  by_cases hw : aw d 4 = true
  · obtain ⟨x, y, f, g, rfl⟩ := aw_four hw
    rw [hw]
    have fin : ∀ b, pr (.tup [.int x, .int y, .int f, .int g]) w h l = b → Φ (.bl b) μ := fun b e => e ▸ q
    walk_at "go"
    refine ite_d (fun h1 => ?_) (fun h1 => ?_)
    rotate_left
    · walk_at "go"
      exact fin _ (by simp [pr, h1])
    walk_at "go"
    refine ite_d (fun h2 => ?_) (fun h2 => ?_)
    rotate_left
    · exact fin _ (by simp [pr, h2])
    walk_at "go"
    refine ite_d (fun h3 => ?_) (fun h3 => ?_)
    rotate_left
    · walk_at "go"
      exact fin _ (by simp [pr, h3])
    walk_at "go"
    refine ite_d (fun h4 => ?_) (fun h4 => ?_)
    rotate_left
    · exact fin _ (by simp [pr, h4])
    walk_at "go"
    refine ite_d (fun h5 => ?_) (fun h5 => ?_)
    rotate_left
    · exact fin _ (by simp [pr, h5])
    walk_at "go"
    refine ite_d (fun h6 => ?_) (fun h6 => ?_)
    rotate_left
    · exact fin _ (by simp [pr, h6])
    walk_at "go"
    exact fin _ (by simp [pr, h1, h2, h3, h4, h5, h6])
  · have hf : aw d 4 = false := by simpa using hw
    rw [hf]
    walk_at "go"
    rw [aw_pr hf] at q
    exact q
theorem ok_are_board {f : Addr} {fd : FuncData} (F : Fun K "are_board" "are_board" s_are_board f fd) (B : Bs mg) (V_MOST : Cst mg "MOST" (.int 1000000)) (V_MOST_LAYERS : Cst mg "MOST_LAYERS" (.int 3)) (V_MOST_PINS : Cst mg "MOST_PINS" (.int 16)) (G_is_pin_row : Def P w K mg base "is_pin_row" ["thing", "width", "height", "layers"] 3 (spI K P_is_pin_row)) (G_is_row : Def P w K mg base "is_row" ["thing", "least", "most"] 1 (spI K P_is_row)) (G_is_within : Def P w K mg base "is_within" ["thing", "least", "most"] 2 (spI K P_is_within)) : FnOk P w K mg base CX0 4 f fd ["width", "height", "pins", "layers", "spacing"] (spI K P_are_board) := by
  refine F.ok sc_are_board (fun vs H Q E h => spI_len h len_are_board) (fun cdv A outer s H vs Q E hr h => ?_)
  have hu65 := hu65_of hr
  refine ⟨_, (pss_cons (ps_if (PW.pt (pw_or (pt_not (pt_val (pe_def G_is_within (hr.mono (by decide)) (by rfl) (pa_cons (pv 0) (pa_cons pe_int (pa_cons (pe_cst V_MOST (by rfl)) pa_nil)))))) (pw_or (pt_not (pt_val (pe_def G_is_within (hr.mono (by decide)) (by rfl) (pa_cons (pv 1) (pa_cons pe_int (pa_cons (pe_cst V_MOST (by rfl)) pa_nil)))))) (pw_or1 (pt_not (pt_val (pe_def G_is_within (hr.mono (by decide)) (by rfl) (pa_cons (pv 3) (pa_cons pe_int (pa_cons (pe_cst V_MOST_LAYERS (by rfl)) pa_nil)))))))))) (pss_one (ps_ret pe_bl)) pss_nil)
      (pss_cons (ps_if (PW.pt (pw_or (pt_not (pt_val (pe_def G_is_within (hr.mono (by decide)) (by rfl) (pa_cons (pv 4) (pa_cons pe_int (pa_cons (pe_cst V_MOST (by rfl)) pa_nil)))))) (pw_or1 (pt_not (pt_val (pe_def G_is_row (hr.mono (by decide)) (by rfl) (pa_cons (pv 2) (pa_cons pe_int (pa_cons (pe_cst V_MOST_PINS (by rfl)) pa_nil))))))))) (pss_one (ps_ret pe_bl)) pss_nil)
      (pss_cons (ps_if (pt_not (pt_val (pe_callB (cr_allK (K := K) rfl rfl) (by rfl) B.b_all (by decide +kernel) (pa_cons (pe_lc (own := [("row", 5)]) (g := gName 5) (tt := tYes) rfl sc_are_board.nd (pi_tupK (K := K) rfl (pv 2)) (blkOk_by (own := [("row", 5)]) (N := N_are_board) (sc := defScope s_are_board) (by decide +kernel)) (fun _ _ _ _ _ => (pg_name (i := 5) sc_are_board.nd rfl (by first | exact Or.inl rfl | exact Or.inr rfl))) (fun _ _ _ _ _ => pts_nil) (fun _ _ _ _ _ => (pe_def G_is_pin_row (hr.mono (by decide)) (by rfl) (pa_cons (pv 5) (pa_cons (pv 0) (pa_cons (pv 1) (pa_cons (pv 3) pa_nil))))))) pa_nil)))) (pss_one (ps_ret pe_bl)) pss_nil)
      (pss_one (ps_ret (pe_cmpR op_eq (pe_callB ST.cr_lenST (by rfl) B.b_len (by decide +kernel) (pa_cons (ST.pe_scT (own := [("x", 6), ("y", 7), ("first", 8), ("last", 9)]) (g := gTup K 4 (gCons (gName 6) (gCons (gName 7) (gCons (gName 8) (gCons (gName 9) gNil))))) (tt := tYes) (hu_of hr) rfl sc_are_board.nd (pi_tupK (K := K) rfl (pv 2)) (blkOk_by (own := [("x", 6), ("y", 7), ("first", 8), ("last", 9)]) (N := N_are_board) (sc := defScope s_are_board) (by decide +kernel)) (fun _ _ _ _ _ => (pg_tup (by rfl) (pgs_cons (pg_name (i := 6) sc_are_board.nd rfl (by first | exact Or.inl rfl | exact Or.inr rfl)) (pgs_cons (pg_name (i := 7) sc_are_board.nd rfl (by first | exact Or.inl rfl | exact Or.inr rfl)) (pgs_cons (pg_name (i := 8) sc_are_board.nd rfl (by first | exact Or.inl rfl | exact Or.inr rfl)) (pgs_cons (pg_name (i := 9) sc_are_board.nd rfl (by first | exact Or.inl rfl | exact Or.inr rfl)) pgs_nil)))))) (fun _ _ _ _ _ => pts_nil) (fun _ _ _ _ _ => (pe_tup (pa_cons (pv 6) (pa_cons (pv 7) pa_nil))))) pa_nil)) (pe_callB (call_lenK (K := K) rfl) (by rfl) B.b_len (by decide +kernel) (pa_cons (pv 2) pa_nil)) (by first | exact nomark _ | rfl))))))), body_okU h (fun ds μ Φ p => ?_)⟩
  (try dsimp only [cxOf, Cx.nox, Cx.wish, List.map_cons, List.map_nil])
  obtain ⟨w, h, p, l, s, rfl, kw, kh, kp, kl, ks, kr, q⟩ := p
  show AS K _ [some _, some _, some _, some _, some _, none, none, none, none, none] _ _
  have fin : ∀ b, ab w h p l s = b → Φ (.bl b) μ := fun b e => e ▸ q
  walk_at "go"
  refine ⟨w, 2, 1000000, rfl, kw, _, rfl, ?_⟩
  by_cases h1 : wi w 2 1000000 = true
  rotate_left
  · have f1 : wi w 2 1000000 = false := by simpa using h1
    rw [f1]
    walk_at "go"
    exact up (fin _ (by simp [ab, f1]))
  rw [h1]
  walk_at "go"
  refine ⟨h, 2, 1000000, rfl, kh, _, rfl, ?_⟩
  by_cases h2 : wi h 2 1000000 = true
  rotate_left
  · have f1 : wi h 2 1000000 = false := by simpa using h2
    rw [f1]
    walk_at "go"
    exact up (fin _ (by simp [ab, f1]))
  rw [h2]
  walk_at "go"
  refine ⟨l, 1, 3, rfl, kl, _, rfl, ?_⟩
  by_cases h3 : wi l 1 3 = true
  rotate_left
  · have f1 : wi l 1 3 = false := by simpa using h3
    rw [f1]
    walk_at "go"
    exact up (fin _ (by simp [ab, f1]))
  rw [h3]
  walk_at "go"
  refine ⟨s, 1, 1000000, rfl, ks, _, rfl, ?_⟩
  by_cases h4 : wi s 1 1000000 = true
  rotate_left
  · have f1 : wi s 1 1000000 = false := by simpa using h4
    rw [f1]
    walk_at "go"
    exact up (fin _ (by simp [ab, f1]))
  rw [h4]
  walk_at "go"
  obtain ⟨wn, rfl, _⟩ := wi_int h1
  obtain ⟨hn, rfl, _⟩ := wi_int h2
  obtain ⟨ln, rfl, _⟩ := wi_int h3
  refine ⟨p, 0, 16, rfl, kp, _, rfl, ?_⟩
  by_cases h5 : ir p 0 16 = true
  rotate_left
  · have f1 : ir p 0 16 = false := by simpa using h5
    rw [f1]
    walk_at "go"
    refine up (fin _ ?_)
    cases p <;> first | (simp [ab]; done) | skip
    rename_i rows
    simp only [ir] at f1
    have : ¬ rows.length ≤ 16 := by
      intro hh
      simp at f1
      omega
    simp [ab, this]
  rw [h5]
  walk_at "go"
  obtain ⟨rows, rfl, hl⟩ : ∃ rows, p = .tup rows ∧ rows.length ≤ 16 := by
    cases p <;> first | (simp [ir] at h5; done) | skip
    rename_i rows
    refine ⟨rows, rfl, ?_⟩
    simp [ir] at h5
    omega
  obtain ⟨_, kr⟩ := kr rows rfl
  have hz : rows.length < 63 := by omega
  refine a_lc1 (fun r => .bl (pr r wn hn ln)) (fun _ => true) (ai_T ?_)
  walk_at "go"
  refine ⟨by have := sizeLine_eq; omega, fun x hx => at_yes ⟨rfl, rfl⟩, fun x hx _ => ?_, fun l2 hl2 => ?_⟩
  · walk_at "nf"
    walk_at "go"
    exact ⟨x, wn, hn, ln, rfl, kr x hx, rfl, rfl⟩
  walk_at "go"
  have e1 : List.map (fun r => D.bl (pr r wn hn ln)) (List.filter (fun _ => true) rows) = (rows.map fun r => pr r wn hn ln).map D.bl := by
    rw [List.filter_eq_self.mpr (fun _ _ => rfl), List.map_map]; rfl
  rw [e1]
  refine rc_all set_same ?_
  have e2 : (rows.map fun r => pr r wn hn ln).all id = rows.all fun r => pr r wn hn ln := by rw [List.all_map]; rfl
  rw [e2]
  by_cases h6 : (rows.all fun r => pr r wn hn ln) = true
  rotate_left
  · have f1 : (rows.all fun r => pr r wn hn ln) = false := by simpa using h6
    rw [f1]
    refine ⟨_, rfl, ?_⟩
    walk_at "go"
    exact up_of (sub_new Sub.refl hl2) (fin _ (by simp only [ab, f1, Bool.and_false, Bool.false_and]))
  rw [h6]
  refine ⟨_, rfl, ?_⟩
  walk_at "go"
  have hs : ∀ r ∈ rows, ∃ x y f g : Int, r = .tup [.int x, .int y, .int f, .int g] := fun r hr => by
    obtain ⟨x, y, f, g, e, _⟩ := pr_int (List.all_eq_true.mp h6 r hr)
    exact ⟨x, y, f, g, e⟩
  refine ai_T ?_
  walk_at "go"
  refine ⟨spot, hz, fun r hr => ?_, fun n hn2 => ?_⟩
  · obtain ⟨x, y, f, g, rfl⟩ := hs r hr
    refine ⟨_, ⟨rfl, rfl⟩, rfl, ?_⟩
    walk_at "nf"
    walk_at "go"
    exact ⟨rfl, rfl⟩
  walk_at "go"
  refine up_of (sub_new Sub.refl hl2) (fin _ ?_)
  by_cases h7 : (rows.map spot).Nodup
  · have e := num_all h7 hn2
    rw [List.length_map] at e
    simp only [ab, h1, h2, h3, h4, h6, h7, hl, decide_true, Bool.and_true, e]
  · have e := num_some h7 hn2
    rw [List.length_map] at e
    have e8 : ¬ ((n : Int) = rows.length) := by omega
    simp only [ab, h1, h2, h3, h4, h6, h7, hl, decide_true, Bool.and_true, decide_false, Bool.and_false, e8]
/-- a board stands at b -/
def Brd (C : Addr) (μ : M) (b : Addr) (w h : Int) (rows : List R4) (l s : Int) (sp kg kt : Addr) : Prop := ∃ (dx : Addr) (gl tl : List Int), (Lvs l gl ∧ Lvs l tl ∧ kg ≠ kt) ∧
  μ b = some (.ins C dx [("wide", .int w), ("high", .int h), ("pin_rows", .tup (rows.map encR)), ("layer_count", .int l), ("apart_by", .int s), ("spots", .ref sp), ("kept_gates", .ref kg), ("kept_triangles", .ref kt)]) ∧
  μ sp = some (.lst ((spots w h rows).map encS)) ∧ μ kg = some (.dK (gl.map fun lv => (Sum.inl lv, gatesD w h rows lv))) ∧ μ kt = some (.dK (tl.map fun lv => (Sum.inl lv, trisD w h rows lv)))
def P_board_init (C : Addr) : PT4 := fun ds μ Φ Ξ => ∃ b dx w h p l s, ds = [.ref b, w, h, p, l, s] ∧ μ b = some (.ins C dx []) ∧ Kd μ w ∧ Kd μ h ∧ Kd μ p ∧ Kd μ l ∧ Kd μ s ∧ (∀ rows, p = .tup rows → rows.length ≤ 1000 ∧ ∀ r ∈ rows, Kx μ r) ∧
  (∀ wn hn rows ln sn, ab w h p l s = true → w = .int wn → h = .int hn → p = .tup (rows.map encR) → l = .int ln → s = .int sn → ∀ μ' sp kg kt, SubB b μ μ' → μ sp = none → μ kg = none → μ kt = none → Brd C μ' b wn hn rows ln sn sp kg kt → Φ .non μ') ∧ (ab w h p l s = false → Ξ "NoBoard" none μ)
theorem len_board_init (C : Addr) (ds : List D) (μ : M) (Φ : D → M → Prop) (Ξ : XW) (h : P_board_init C ds μ Φ Ξ) : ds.length = 6 := by
  obtain ⟨_, _, _, _, _, _, _, rfl, _⟩ := h
  rfl
theorem rows_of {w h l : Int} : ∀ {ds : List D}, (ds.all fun r => pr r w h l) = true → ∃ rows : List R4, ds = rows.map encR
  | [], _ => ⟨[], rfl⟩
  | d :: ds, h => by
    rw [List.all_cons, Bool.and_eq_true] at h
    obtain ⟨x, y, f, g, e, _⟩ := pr_int h.1
    obtain ⟨rows, e2⟩ := rows_of h.2
    exact ⟨(x, y, f, g) :: rows, by rw [e, e2]; rfl⟩
theorem ab_of {w h p l s : D} (k : ab w h p l s = true) : ∃ (wn hn ln sn : Int) (rows : List R4), w = .int wn ∧ h = .int hn ∧ p = .tup (rows.map encR) ∧ l = .int ln ∧ s = .int sn ∧ rows.length ≤ 16 := by
  simp only [ab, Bool.and_eq_true] at k
  obtain ⟨⟨⟨⟨h1, h2⟩, h3⟩, h4⟩, h5⟩ := k
  obtain ⟨wn, rfl, _⟩ := wi_int h1
  obtain ⟨hn, rfl, _⟩ := wi_int h2
  obtain ⟨ln, rfl, _⟩ := wi_int h3
  obtain ⟨sn, rfl, _⟩ := wi_int h4
  cases p <;> first | (simp at h5; done) | skip
  rename_i ds
  simp only [Bool.and_eq_true, decide_eq_true_eq] at h5
  obtain ⟨rows, e⟩ := rows_of h5.1.2
  exact ⟨wn, hn, ln, sn, rows, rfl, rfl, by rw [e], rfl, rfl, by rw [e, List.length_map] at h5; exact h5.1.1⟩
def xyOf : D → D
  | .tup (x :: y :: _) => .tup [x, y]
  | _ => .non
theorem ok_board_init {f : Addr} {fd : FuncData} {kws : List (Str × V)} (F : FunD K "__init__" "Board.__init__" (defArgs s_board_init) (defBody s_board_init) (defScope s_board_init) [] kws f fd) (B : Bs mg) {C_Board : Addr} (K_Board : Cl_Board K C_Board) {C_NoBoard : Addr} (E_NoBoard : Exc0 K mg "NoBoard" C_NoBoard) (G_are_board : Def P w K mg base "are_board" ["width", "height", "pins", "layers", "spacing"] 4 (spI K P_are_board)) : FnOk P w K mg base (L2.CX P w) 6 f fd ["self", "width", "height", "pins", "layers", "spacing"] (spX K (xn mg) (P_board_init C_Board)) := by
  refine F.ok (CX := L2.CX P w) sc_board_init (fun vs H Q E h => spX_len h (len_board_init C_Board)) (fun cdv A outer s H vs Q E hr h => ?_)
  have hu65 := hu65_of hr
  refine ⟨_, (pss_cons (ps_if (pt_not (pt_val (pe_def G_are_board (hr.mono (by decide)) (by rfl) (pa_cons (pv 1) (pa_cons (pv 2) (pa_cons (pv 3) (pa_cons (pv 4) (pa_cons (pv 5) pa_nil)))))))) (pss_one (ps_raise rfl (takes_of rfl rfl rfl rfl) (pmk_e0 E_NoBoard (by rfl)))) pss_nil)
      (pss_cons (ps_asg (pe_tup (pa_cons (pv 1) (pa_cons (pv 2) pa_nil))) (pg_tup (by rfl) (pgs_cons (pg_fldK (K := K) rfl (pv 0)) (pgs_cons (pg_fldK (K := K) rfl (pv 0)) pgs_nil))))
      (pss_cons (ps_fldK (K := K) rfl (pv 0) (pv 3) rfl)
      (pss_cons (ps_fldK (K := K) rfl (pv 0) (pv 4) rfl)
      (pss_cons (ps_fldK (K := K) rfl (pv 0) (pv 5) rfl)
      (pss_cons (ps_fldK (K := K) rfl (pv 0) (pe_op op_cat (pe_lst (pa_cons (pe_tup (pa_cons pe_int (pa_cons pe_int pa_nil))) (pa_cons (pe_tup (pa_cons (pv 1) (pa_cons pe_int pa_nil))) (pa_cons (pe_tup (pa_cons (pv 1) (pa_cons (pv 2) pa_nil))) (pa_cons (pe_tup (pa_cons pe_int (pa_cons (pv 2) pa_nil))) pa_nil))))) (pe_lc (own := [("row", 6)]) (g := gName 6) (tt := tYes) rfl sc_board_init.nd (pi_tupK (K := K) rfl (pv 3)) (blkOk_by (own := [("row", 6)]) (N := N_board_init) (sc := defScope s_board_init) (by decide +kernel)) (fun _ _ _ _ _ => (pg_name (i := 6) sc_board_init.nd rfl (by first | exact Or.inl rfl | exact Or.inr rfl))) (fun _ _ _ _ _ => pts_nil) (fun _ _ _ _ _ => (pe_tup (pa_cons (pe_ix (ix_seqK (K := K) rfl) (pv 6) pe_int (fun _ _ => rfl)) (pa_cons (pe_ix (ix_seqK (K := K) rfl) (pv 6) pe_int (fun _ _ => rfl)) pa_nil)))))) rfl)
      (pss_cons (ps_fldK (K := K) rfl (pv 0) pe_dnewK rfl)
      (pss_one (ps_fldK (K := K) rfl (pv 0) pe_dnewK rfl))))))))), body_okX h (fun ds μ Φ Ξ p => ?_)⟩
  (try dsimp only [cxOf, Cx.nox, Cx.wish, List.map_cons, List.map_nil])
  obtain ⟨b, dx, w, h, p, l, s, rfl, hb, kw, kh, kp, kl, ks, kr, qy, qn⟩ := p
  show AS K _ [some _, some _, some _, some _, some _, some _, none] _ _
  walk_at "go"
  refine ⟨w, h, p, l, s, rfl, kw, kh, kp, kl, ks, kr, _, rfl, ?_⟩
  by_cases ha : ab w h p l s = true
  rotate_left
  · have hf : ab w h p l s = false := by simpa using ha
    rw [hf]
    walk_at "go"
    exact s_raise0 (x := "NoBoard") (xn_at E_NoBoard.mg) (qn hf)
  obtain ⟨wn, hn, ln, sn, rows, rfl, rfl, rfl, rfl, rfl, hlen⟩ := ab_of ha
  rw [ha]
  walk_at "go"
  refine g_fld ?_
  walk_at "go"
  refine ⟨b, C_Board, dx, _, rfl, hb, K_Board.cls, K_Board.n_wide, Nat.le_of_ble_eq_true rfl, ?_⟩
  walk_at "go"
  refine g_fld ?_
  walk_at "go"
  refine ⟨b, C_Board, dx, _, rfl, set_same, K_Board.cls, K_Board.n_high, Nat.le_of_ble_eq_true rfl, ?_⟩
  rw [set_set]
  walk_at "go"
  refine s_fld ?_
  walk_at "go"
  refine ⟨b, C_Board, dx, _, rfl, set_same, K_Board.cls, K_Board.n_pin_rows, Nat.le_of_ble_eq_true rfl, ?_⟩
  rw [set_set]
  walk_at "go"
  refine s_fld ?_
  walk_at "go"
  refine ⟨b, C_Board, dx, _, rfl, set_same, K_Board.cls, K_Board.n_layer_count, Nat.le_of_ble_eq_true rfl, ?_⟩
  rw [set_set]
  walk_at "go"
  refine s_fld ?_
  walk_at "go"
  refine ⟨b, C_Board, dx, _, rfl, set_same, K_Board.cls, K_Board.n_apart_by, Nat.le_of_ble_eq_true rfl, ?_⟩
  rw [set_set]
  walk_at "go"
  refine s_fld ?_
  walk_at "go"
  intro l1 hl1
  have ne1 := none_ne hl1
  walk_at "go"
  refine a_lc1 xyOf (fun _ => true) (ai_T ?_)
  walk_at "go"
  refine ⟨by rw [List.length_map]; have := sizeLine_eq; omega, fun x hx => at_yes ⟨rfl, rfl⟩, fun x hx _ => ?_, fun l2 hl2 => ?_⟩
  · obtain ⟨r, _, rfl⟩ := List.mem_map.mp hx
    walk_at "nf"
    walk_at "go"
    exact ⟨rfl, rfl⟩
  walk_at "go"
  have e2 : List.map xyOf (List.filter (fun _ => true) (rows.map encR)) = rows.map fun r => pt r.1 r.2.1 := by
    rw [List.filter_eq_self.mpr (fun _ _ => rfl), List.map_map]; rfl
  rw [e2]
  have ne2 := none_ne hl2
  have ne3 := none_ne (none_back hl2)
  refine ro_cat (by walk_at "mu") (by walk_at "mu") (by rw [List.length_map]; have := sizeLine_eq; simp only [List.length_cons, List.length_nil]; omega) fun l3 hl3 => ?_
  have ne4 := none_ne hl3
  have ne5 := none_ne (none_back hl3)
  have ne6 := none_ne (none_back (none_back hl3))
  walk_at "go"
  refine ⟨b, C_Board, dx, _, rfl, by walk_at "mu", K_Board.cls, K_Board.n_spots, Nat.le_of_ble_eq_true rfl, ?_⟩
  walk_at "go"
  refine s_fld ?_
  refine a_dnewK fun kg hkg => ?_
  walk_at "go"
  have nk1 := none_ne hkg
  have nk2 := none_ne (none_back hkg)
  have nk3 := none_ne (none_back (none_back hkg))
  have nk4 := none_ne (none_back (none_back (none_back hkg)))
  refine ⟨b, C_Board, dx, _, rfl, by walk_at "mu", K_Board.cls, K_Board.n_kept_gates, Nat.le_of_ble_eq_true rfl, ?_⟩
  walk_at "go"
  refine s_fld ?_
  refine a_dnewK fun kt hkt => ?_
  walk_at "go"
  have nt1 := none_ne hkt
  have nt2 := none_ne (none_back hkt)
  have nt3 := none_ne (none_back (none_back hkt))
  have nt4 := none_ne (none_back (none_back (none_back hkt)))
  have nt5 := none_ne (none_back (none_back (none_back (none_back hkt))))
  refine ⟨b, C_Board, dx, _, rfl, by walk_at "mu", K_Board.cls, K_Board.n_kept_triangles, Nat.le_of_ble_eq_true rfl, ?_⟩
  have e3 : (spots wn hn rows).map encS = [D.tup [D.int 0, D.int 0], D.tup [D.int wn, D.int 0], D.tup [D.int wn, D.int hn], D.tup [D.int 0, D.int hn]] ++ List.map (fun r => pt r.1 r.2.1) rows := by
    unfold spots; rw [List.map_append, List.map_map]; rfl
  refine qy wn hn rows ln sn ha rfl rfl rfl rfl rfl _ l3 kg kt ?_ ?_ ?_ ?_ ⟨dx, [], [], ⟨lvs_nil, lvs_nil, Ne.symm nt2⟩, ?_, ?_, ?_, ?_⟩
  · exact sb_self (sb_new (sb_self (sb_new (sb_self (sb_new (sb_new (sb_new (sb_self sb_refl) hl1) hl2) hl3)) hkg)) hkt)
  · exact none_back (none_back (none_back hl3))
  · exact none_back (none_back (none_back (none_back (none_back hkg))))
  · exact none_back (none_back (none_back (none_back (none_back (none_back (none_back hkt))))))
  · exact set_same
  · rw [e3]
    have n1 : l3 ≠ b := by assumption
    walk_at "mu"
  · walk_at "mu"
  · walk_at "mu"
def P_board_look_pin (C : Addr) : PT4 := fun ds μ Φ Ξ => ∃ b d w h rows l s sp kg kt, ds = [.ref b, d] ∧ Brd C μ b w h rows l s sp kg kt ∧ Kd μ d ∧ (wi d 0 (rows.length + 3) = true → Φ .non μ) ∧
  (wi d 0 (rows.length + 3) = false → ∀ dx, μ dx = none → Ξ "NoPin" (some dx) (μ.set dx (.xd [("pin", d)])))
theorem len_board_look_pin (C : Addr) (ds : List D) (μ : M) (Φ : D → M → Prop) (Ξ : XW) (h : P_board_look_pin C ds μ Φ Ξ) : ds.length = 2 := by
  obtain ⟨_, _, _, _, _, _, _, _, _, _, rfl, _⟩ := h
  rfl
theorem ok_board_look_pin {f : Addr} {fd : FuncData} (F : Fun K "look_pin" "Board.look_pin" s_board_look_pin f fd) (B : Bs mg) {C_Board : Addr} (K_Board : Cl_Board K C_Board) {C_NoPin : Addr} (E_NoPin : Exc1 P w K mg base "NoPin" "pin" C_NoPin) (G_is_within : Def P w K mg base "is_within" ["thing", "least", "most"] 2 (spI K P_is_within)) : FnOk P w K mg base (L2.CX P w) 4 f fd ["self", "number"] (spX K (xn mg) (P_board_look_pin C_Board)) := by
  refine F.okX sc_board_look_pin (fun vs H Q E h => spX_len h (len_board_look_pin C_Board)) (fun cdv A outer s H vs Q E hr h => ?_)
  have hu65 := hu65_of hr
  refine ⟨_, (pss_one (ps_if (pt_not (pt_val (pe_def G_is_within (hr.mono (by decide)) (by rfl) (pa_cons (pv 1) (pa_cons pe_int (pa_cons (pe_op op_sub (pe_callB (call_lenK (K := K) rfl) (by rfl) B.b_len (by decide +kernel) (pa_cons (pe_fldK (K := K) rfl (pv 0) rfl) pa_nil)) pe_int) pa_nil)))))) (pss_one (ps_raise rfl (takes_of rfl rfl rfl rfl) (pmk_e1 E_NoPin (hr.mono (by decide)) (by rfl) (pa_cons (pv 1) pa_nil)))) pss_nil)), body_okX h (fun ds μ Φ Ξ p => ?_)⟩
  (try dsimp only [cxOf, Cx.nox, Cx.wish, List.map_cons, List.map_nil])
  obtain ⟨b, d, w, h, rows, l, s, sp, kg, kt, rfl, ⟨dx, gl, tl, lvs, hb, hsp, hkg, hkt⟩, kd, qy, qn⟩ := p
  show AS K _ [some _, some _] _ _
  walk_at "go"
  refine a_fld ?_
  walk_at "go"
  refine ⟨b, C_Board, dx, _, rfl, hb, K_Board.cls, K_Board.n_spots, _, rfl, ?_⟩
  walk_at "go"
  have el : ((List.map encS (spots w h rows)).length : Int) - 1 = rows.length + 3 := by
    unfold spots
    simp only [List.length_map, List.length_append, List.length_cons, List.length_nil]
    omega
  rw [el]
  refine ⟨d, _, _, rfl, kd, _, rfl, ?_⟩
  by_cases hd : wi d 0 (rows.length + 3) = true
  · rw [hd]
    walk_at "go"
    exact qy hd
  · have hf : wi d 0 (rows.length + 3) = false := by simpa using hd
    rw [hf]
    walk_at "go"
    refine s_raise1 (x := "NoPin") (xn_at E_NoPin.mg) ?_
    walk_at "go"
    exact fun dx hdx => qn hf dx hdx
open Tch
def P_side : PT3 := fun ds μ Φ => ∃ a b c : Pt, ds = [encG a, encG b, encG c] ∧ Inn a ∧ Inn b ∧ Inn c ∧ Φ (.int (sgn (ar a b c))) μ
theorem len_side (ds : List D) (μ : M) (Φ : D → M → Prop) (h : P_side ds μ Φ) : ds.length = 3 := by
  obtain ⟨_, _, _, rfl, _⟩ := h
  rfl
theorem use_side {μ : M} {Φ : D → M → Prop} {a b c : Pt} (i1 : Inn a) (i2 : Inn b) (i3 : Inn c) (q : Φ (.int (sgn (ar a b c))) μ) : P_side [encG a, encG b, encG c] μ Φ := ⟨a, b, c, rfl, i1, i2, i3, q⟩
def P_sign_of : PT3 := fun ds μ Φ => ∃ n, ds = [.int n] ∧ Φ (.int (sgn n)) μ
theorem len_sign_of (ds : List D) (μ : M) (Φ : D → M → Prop) (h : P_sign_of ds μ Φ) : ds.length = 1 := by
  obtain ⟨_, rfl, _⟩ := h
  rfl
theorem due_sgn (n : Int) : ((if decide (0 < n) = true then 1 else 0) - (if decide (n < 0) = true then 1 else 0) : Int) = sgn n := by
  unfold sgn
  by_cases h1 : 0 < n <;> by_cases h2 : n < 0 <;> simp [h1, h2] <;> omega
def P_apart : PT3 := fun ds μ Φ => ∃ a b : Pt, ds = [encG a, encG b] ∧ Inn a ∧ Inn b ∧ Φ (.int ((b.1 - a.1) ^ 2 + (b.2 - a.2) ^ 2)) μ
theorem len_apart (ds : List D) (μ : M) (Φ : D → M → Prop) (h : P_apart ds μ Φ) : ds.length = 2 := by
  obtain ⟨_, _, rfl, _⟩ := h
  rfl
def P_is_between : PT3 := fun ds μ Φ => ∃ a b c : Pt, ds = [encG a, encG b, encG c] ∧ Inn a ∧ Inn b ∧ Inn c ∧ Φ (.bl (btw a b c)) μ
theorem len_is_between (ds : List D) (μ : M) (Φ : D → M → Prop) (h : P_is_between ds μ Φ) : ds.length = 3 := by
  obtain ⟨_, _, _, rfl, _⟩ := h
  rfl
theorem min_if (i j : Int) : (if j < i then j else i) = min i j := by
  split <;> omega
theorem max_if (i j : Int) : (if j > i then j else i) = max i j := by
  split <;> omega
theorem ok_sign_of {f : Addr} {fd : FuncData} (F : Fun K "sign_of" "sign_of" s_sign_of f fd) (B : Bs mg) : FnOk P w K mg base CX0 1 f fd ["number"] (spI K P_sign_of) := by
  refine F.ok sc_sign_of (fun vs H Q E h => spI_len h len_sign_of) (fun cdv A outer s H vs Q E hr h => ?_)
  have hu65 := hu65_of hr
  refine ⟨_, (pss_one (ps_ret (pe_op op_sub (pe_callTy call_int1 (by rfl) B.b_int (by decide +kernel) (pa_cons (pe_cmpR op_gt (pv 0) pe_int (by first | exact nomark _ | rfl)) pa_nil)) (pe_callTy call_int1 (by rfl) B.b_int (by decide +kernel) (pa_cons (pe_cmpR op_lt (pv 0) pe_int (by first | exact nomark _ | rfl)) pa_nil))))), body_ok h (fun ds μ Φ p => ?_)⟩
  (try dsimp only [cxOf, Cx.nox, Cx.wish, List.map_cons, List.map_nil])
  obtain ⟨n, rfl, q⟩ := p
  show AS K _ [some _] _ _
  walk_at "go"
  exact cast_int (due_sgn n) q
theorem sgn_sz (n : Int) : Sz 2 (sgn n) := by
  unfold sgn Sz
  split
  · decide
  · split <;> decide
theorem ok_side {f : Addr} {fd : FuncData} (F : Fun K "side" "side" s_side f fd) (B : Bs mg) (G_sign_of : Def P w K mg base "sign_of" ["number"] 1 (spI K P_sign_of)) : FnOk P w K mg base CX0 2 f fd ["one", "other", "third"] (spI K P_side) := by
  refine F.ok sc_side (fun vs H Q E h => spI_len h len_side) (fun cdv A outer s H vs Q E hr h => ?_)
  have hu65 := hu65_of hr
  refine ⟨_, (pss_cons (ps_par (i := 3) (j := 4) rfl sc_side.nd rfl rfl (by decide) rfl rfl (pa_cons (pe_op op_sub (pe_ix (ix_seqK (K := K) rfl) (pv 1) pe_int (fun _ _ => rfl)) (pe_ix (ix_seqK (K := K) rfl) (pv 0) pe_int (fun _ _ => rfl))) (pa_cons (pe_op op_sub (pe_ix (ix_seqK (K := K) rfl) (pv 1) pe_int (fun _ _ => rfl)) (pe_ix (ix_seqK (K := K) rfl) (pv 0) pe_int (fun _ _ => rfl))) pa_nil)) (by rfl))
      (pss_one (ps_ret (pe_def G_sign_of (hr.mono (by decide)) (by rfl) (pa_cons (pe_op op_sub (pe_op op_mulW (pv 3) (pe_op op_sub (pe_ix (ix_seqK (K := K) rfl) (pv 2) pe_int (fun _ _ => rfl)) (pe_ix (ix_seqK (K := K) rfl) (pv 0) pe_int (fun _ _ => rfl)))) (pe_op op_mulW (pv 4) (pe_op op_sub (pe_ix (ix_seqK (K := K) rfl) (pv 2) pe_int (fun _ _ => rfl)) (pe_ix (ix_seqK (K := K) rfl) (pv 0) pe_int (fun _ _ => rfl))))) pa_nil))))), body_ok h (fun ds μ Φ p => ?_)⟩
  (try dsimp only [cxOf, Cx.nox, Cx.wish, List.map_cons, List.map_nil])
  obtain ⟨a, b, c, rfl, i1, i2, i3, q⟩ := p
  obtain ⟨za1, za2⟩ := inn_sz i1
  obtain ⟨zb1, zb2⟩ := inn_sz i2
  obtain ⟨zc1, zc2⟩ := inn_sz i3
  show AS K _ [some _, some _, some _, none, none] _ _
  walk_at "go"
  exact ⟨_, rfl, q⟩
theorem ok_apart {f : Addr} {fd : FuncData} (F : Fun K "apart" "apart" s_apart f fd) (B : Bs mg) : FnOk P w K mg base CX0 1 f fd ["one", "other"] (spI K P_apart) := by
  refine F.ok sc_apart (fun vs H Q E h => spI_len h len_apart) (fun cdv A outer s H vs Q E hr h => ?_)
  have hu65 := hu65_of hr
  refine ⟨_, (pss_one (ps_ret (pe_op op_add (pe_op op_pow (pe_op op_sub (pe_ix (ix_seqK (K := K) rfl) (pv 1) pe_int (fun _ _ => rfl)) (pe_ix (ix_seqK (K := K) rfl) (pv 0) pe_int (fun _ _ => rfl))) pe_int) (pe_op op_pow (pe_op op_sub (pe_ix (ix_seqK (K := K) rfl) (pv 1) pe_int (fun _ _ => rfl)) (pe_ix (ix_seqK (K := K) rfl) (pv 0) pe_int (fun _ _ => rfl))) pe_int)))), body_ok h (fun ds μ Φ p => ?_)⟩
  (try dsimp only [cxOf, Cx.nox, Cx.wish, List.map_cons, List.map_nil])
  obtain ⟨a, b, rfl, i1, i2, q⟩ := p
  obtain ⟨za1, za2⟩ := inn_sz i1
  obtain ⟨zb1, zb2⟩ := inn_sz i2
  show AS K _ [some _, some _] _ _
  walk_at "go"
  exact q
theorem ok_is_between {f : Addr} {fd : FuncData} (F : Fun K "is_between" "is_between" s_is_between f fd) (B : Bs mg) (G_side : Def P w K mg base "side" ["one", "other", "third"] 2 (spI K P_side)) : FnOk P w K mg base CX0 3 f fd ["one", "other", "third"] (spI K P_is_between) := by
  refine F.ok sc_is_between (fun vs H Q E h => spI_len h len_is_between) (fun cdv A outer s H vs Q E hr h => ?_)
  have hu65 := hu65_of hr
  refine ⟨_, (pss_cons (ps_if (pt_cmpR op_ne (pe_def G_side (hr.mono (by decide)) (by rfl) (pa_cons (pv 0) (pa_cons (pv 1) (pa_cons (pv 2) pa_nil)))) pe_int (by first | exact nomark _ | rfl)) (pss_one (ps_ret pe_bl)) pss_nil)
      (pss_cons (ps_set (i := 3) sc_is_between.nd rfl (by first | exact Or.inl rfl | exact Or.inr rfl) (pe_chain op_le op_le (pe_callB (call_min2 rfl) (by rfl) B.b_min (by decide +kernel) (pa_cons (pe_ix (ix_seqK (K := K) rfl) (pv 0) pe_int (fun _ _ => rfl)) (pa_cons (pe_ix (ix_seqK (K := K) rfl) (pv 1) pe_int (fun _ _ => rfl)) pa_nil))) (pe_ix (ix_seqK (K := K) rfl) (pv 2) pe_int (fun _ _ => rfl)) (pe_callB (call_max2 rfl) (by rfl) B.b_max (by decide +kernel) (pa_cons (pe_ix (ix_seqK (K := K) rfl) (pv 0) pe_int (fun _ _ => rfl)) (pa_cons (pe_ix (ix_seqK (K := K) rfl) (pv 1) pe_int (fun _ _ => rfl)) pa_nil)))))
      (pss_one (ps_ret (pe_and (pv 3) (pe_one (pe_chain op_le op_le (pe_callB (call_min2 rfl) (by rfl) B.b_min (by decide +kernel) (pa_cons (pe_ix (ix_seqK (K := K) rfl) (pv 0) pe_int (fun _ _ => rfl)) (pa_cons (pe_ix (ix_seqK (K := K) rfl) (pv 1) pe_int (fun _ _ => rfl)) pa_nil))) (pe_ix (ix_seqK (K := K) rfl) (pv 2) pe_int (fun _ _ => rfl)) (pe_callB (call_max2 rfl) (by rfl) B.b_max (by decide +kernel) (pa_cons (pe_ix (ix_seqK (K := K) rfl) (pv 0) pe_int (fun _ _ => rfl)) (pa_cons (pe_ix (ix_seqK (K := K) rfl) (pv 1) pe_int (fun _ _ => rfl)) pa_nil)))))))))), body_ok h (fun ds μ Φ p => ?_)⟩
  (try dsimp only [cxOf, Cx.nox, Cx.wish, List.map_cons, List.map_nil])
  obtain ⟨a, b, c, rfl, i1, i2, i3, q⟩ := p
  show AS K _ [some _, some _, some _, none] _ _
  walk_at "go"
  refine use_side i1 i2 i3 ?_
  walk_at "go"
  have fin : ∀ v, btw a b c = v → Φ (.bl v) μ := fun v e => e ▸ q
  have ez := sgn_zero (ar a b c)
  refine ite_nd (fun h => ?_) (fun h => ?_)
  · walk_at "go"
    have h2 : ¬ ar a b c = 0 := by simpa [h] using ez
    exact fin _ (by unfold btw; rw [decide_eq_false h2]; rfl)
  · have h2 : ar a b c = 0 := by simpa [h] using ez
    have e0 : btw a b c = ((decide (min a.1 b.1 ≤ c.1) && decide (c.1 ≤ max a.1 b.1)) && (decide (min a.2 b.2 ≤ c.2) && decide (c.2 ≤ max a.2 b.2))) := by unfold btw; rw [decide_eq_true h2, Bool.true_and]
    rw [e0] at fin
    walk_at "go"
    rw [min_if]
    refine ite_d (fun k1 => ?_) (fun k1 => ?_)
    rotate_left
    · walk_at "go"
      exact fin _ (by rw [decide_eq_false k1]; rfl)
    rw [decide_eq_true k1, Bool.true_and] at fin
    walk_at "go"
    rw [max_if]
    refine ite_d (fun k2 => ?_) (fun k2 => ?_)
    rotate_left
    · exact fin _ (by rw [decide_eq_false k2]; rfl)
    rw [decide_eq_true k2, Bool.true_and] at fin
    walk_at "go"
    rw [min_if]
    refine ite_d (fun k3 => ?_) (fun k3 => ?_)
    rotate_left
    · walk_at "go"
      exact fin _ (by rw [decide_eq_false k3]; rfl)
    rw [decide_eq_true k3, Bool.true_and] at fin
    walk_at "go"
    rw [max_if]
    exact fin _ rfl
/-- what a board that a law has drawn keeps to -/
structure BOk (w h : Int) (rows : List R4) (l : Int) : Prop where
  len : rows.length ≤ 16
  inn : ∀ p ∈ spots w h rows, Inn p
  l0 : 1 ≤ l
  l1 : l ≤ 3
theorem BOk.at {w h l : Int} {rows : List R4} (k : BOk w h rows l) (i : Int) : Inn (spAt (spots w h rows) i) := spAt_inn k.inn i
theorem spot_get {w h : Int} {rows : List R4} {i : Int} (h0 : 0 ≤ i) (h1 : i < rows.length + 4) : atI ((spots w h rows).map encS) i = some (encG (spAt (spots w h rows) i)) :=
  atI_map h0 (spAt_at h0 (by rw [spots_len]; omega))
theorem Brd.sub {C : Addr} {μ μ' : M} {bd w h l s : _} {rows : List R4} {sp kg kt : Addr} (BR : Brd C μ bd w h rows l s sp kg kt) (sb : Sub μ μ') : Brd C μ' bd w h rows l s sp kg kt := by
  obtain ⟨dx, gl, tl, lvs, h1, h2, h3, h4⟩ := BR
  exact ⟨dx, gl, tl, lvs, sb _ _ h1, sb _ _ h2, sb _ _ h3, sb _ _ h4⟩
/-- a layer asked for -/
def P_board_look_layer (C : Addr) : PT4 := fun ds μ Φ Ξ => ∃ b d w h rows l s sp kg kt, ds = [.ref b, d] ∧ Brd C μ b w h rows l s sp kg kt ∧ Kd μ d ∧ (wi d 0 (l - 1) = true → Φ .non μ) ∧
  (wi d 0 (l - 1) = false → ∀ dx, μ dx = none → Ξ "NoLayer" (some dx) (μ.set dx (.xd [("layer", d)])))
theorem len_board_look_layer (C : Addr) (ds : List D) (μ : M) (Φ : D → M → Prop) (Ξ : XW) (h : P_board_look_layer C ds μ Φ Ξ) : ds.length = 2 := by
  obtain ⟨_, _, _, _, _, _, _, _, _, _, rfl, _⟩ := h
  rfl
theorem ok_board_look_layer {f : Addr} {fd : FuncData} (F : Fun K "look_layer" "Board.look_layer" s_board_look_layer f fd) (B : Bs mg) {C_Board : Addr} (K_Board : Cl_Board K C_Board) {C_NoLayer : Addr} (E_NoLayer : Exc1 P w K mg base "NoLayer" "layer" C_NoLayer) (G_is_within : Def P w K mg base "is_within" ["thing", "least", "most"] 2 (spI K P_is_within)) : FnOk P w K mg base (L2.CX P w) 4 f fd ["self", "number"] (spX K (xn mg) (P_board_look_layer C_Board)) := by
  refine F.okX sc_board_look_layer (fun vs H Q E h => spX_len h (len_board_look_layer C_Board)) (fun cdv A outer s H vs Q E hr h => ?_)
  have hu65 := hu65_of hr
  refine ⟨_, (pss_one (ps_if (pt_not (pt_val (pe_def G_is_within (hr.mono (by decide)) (by rfl) (pa_cons (pv 1) (pa_cons pe_int (pa_cons (pe_op op_sub (pe_fldK (K := K) rfl (pv 0) rfl) pe_int) pa_nil)))))) (pss_one (ps_raise rfl (takes_of rfl rfl rfl rfl) (pmk_e1 E_NoLayer (hr.mono (by decide)) (by rfl) (pa_cons (pv 1) pa_nil)))) pss_nil)), body_okX h (fun ds μ Φ Ξ p => ?_)⟩
  (try dsimp only [cxOf, Cx.nox, Cx.wish, List.map_cons, List.map_nil])
  obtain ⟨b, d, w, h, rows, l, s, sp, kg, kt, rfl, ⟨dx, gl, tl, lvs, hb, hsp, hkg, hkt⟩, kd, qy, qn⟩ := p
  show AS K _ [some _, some _] _ _
  walk_at "go"
  refine a_fld ?_
  walk_at "go"
  refine ⟨b, C_Board, dx, _, rfl, hb, K_Board.cls, K_Board.n_layer_count, _, rfl, ?_⟩
  walk_at "go"
  refine ⟨d, _, _, rfl, kd, _, rfl, ?_⟩
  by_cases hd : wi d 0 (l - 1) = true
  · rw [hd]
    walk_at "go"
    exact qy hd
  · have hf : wi d 0 (l - 1) = false := by simpa using hd
    rw [hf]
    walk_at "go"
    refine s_raise1 (x := "NoLayer") (xn_at E_NoLayer.mg) ?_
    walk_at "go"
    exact fun dx hdx => qn hf dx hdx
theorem wi_lv {lv l : Int} (h0 : 0 ≤ lv) (h1 : lv < l) : wi (.int lv) 0 (l - 1) = true := by
  simp only [wi, Bool.and_eq_true, decide_eq_true_eq]
  omega
def P_board_pins_on (C : Addr) : PT4 := fun ds μ Φ Ξ => ∃ b d w h rows l s sp kg kt, ds = [.ref b, d] ∧ Brd C μ b w h rows l s sp kg kt ∧ BOk w h rows l ∧ Kd μ d ∧
  (∀ lv, d = .int lv → 0 ≤ lv → lv < l → Φ (.tup ((pinsOf rows lv).map D.int)) μ) ∧ (wi d 0 (l - 1) = false → ∀ dx, μ dx = none → Ξ "NoLayer" (some dx) (μ.set dx (.xd [("layer", d)])))
theorem len_board_pins_on (C : Addr) (ds : List D) (μ : M) (Φ : D → M → Prop) (Ξ : XW) (h : P_board_pins_on C ds μ Φ Ξ) : ds.length = 2 := by
  obtain ⟨_, _, _, _, _, _, _, _, _, _, rfl, _⟩ := h
  rfl
def atD (k : Nat) : D → D
  | .tup ds => ds.getD k .non
  | _ => .non
def onD (lv : Int) : D → Bool
  | .tup [_, .tup [_, _, .int f, .int g]] => decide (f ≤ lv) && decide (lv ≤ g)
  | _ => false
theorem ok_board_pins_on {f : Addr} {fd : FuncData} (F : Fun K "pins_on" "Board.pins_on" s_board_pins_on f fd) (B : Bs mg) {C_Board : Addr} (K_Board : Cl_Board K C_Board) (V_CORNERS : Cst mg "CORNERS" (.int 4)) (G_board_look_layer : Mth P w K mg base C_Board "look_layer" ["self", "number"] 4 (spX K (xn mg) (P_board_look_layer C_Board))) : FnOk P w K mg base (L2.CX P w) 5 f fd ["self", "layer"] (spX K (xn mg) (P_board_pins_on C_Board)) := by
  refine F.okX sc_board_pins_on (fun vs H Q E h => spX_len h (len_board_pins_on C_Board)) (fun cdv A outer s H vs Q E hr h => ?_)
  have hu65 := hu65_of hr
  refine ⟨_, (pss_cons (ps_expr (pe_mthX (takes_of rfl rfl rfl rfl) G_board_look_layer (hr.mono (by decide)) (pv 0) (pa_cons (pv 1) pa_nil)))
      (pss_cons (ps_setLc (i := 2) (own := [("number", 3), ("row", 4)]) (g := gTup K 2 (gCons (gName 3) (gCons (gName 4) gNil)))  rfl sc_board_pins_on.nd rfl rfl (sw_true rfl rfl rfl (by decide +kernel)) (EK.pi_enumT (K := K) rfl (by rfl) B.b_enumerate (pe_fldK (K := K) rfl (pv 0) rfl) (pe_cst V_CORNERS (by rfl))) (blkOk_by (own := [("number", 3), ("row", 4)]) (N := N_board_pins_on) (sc := defScope s_board_pins_on) (by decide +kernel)) (fun _ _ _ _ _ => (pg_tup (by rfl) (pgs_cons (pg_name (i := 3) sc_board_pins_on.nd rfl (by first | exact Or.inl rfl | exact Or.inr rfl)) (pgs_cons (pg_name (i := 4) sc_board_pins_on.nd rfl (by first | exact Or.inl rfl | exact Or.inr rfl)) pgs_nil)))) (fun _ _ _ _ _ => (pts_one (pt_chain op_le op_le (pe_ix (ix_seqK (K := K) rfl) (pv 4) pe_int (fun _ _ => rfl)) (pv 1) (pe_ix (ix_seqK (K := K) rfl) (pv 4) pe_int (fun _ _ => rfl))))) (fun _ _ _ _ _ => (pv 3)))
      (pss_one (ps_ret (pe_callTy (call_tupleK (K := K) rfl) (by rfl) B.b_tuple (by decide +kernel) (pa_cons (pe_op op_cat (pe_listRg rfl (by rfl) B.b_list (prg_1 (by rfl) B.b_range (pe_cst V_CORNERS (by rfl)))) (pv 2)) pa_nil)))))), body_okXU h (fun ds μ Φ Ξ p => ?_)⟩
  (try dsimp only [cxOf, Cx.nox, Cx.wish, List.map_cons, List.map_nil])
  obtain ⟨b, d, w, h, rows, l, s, sp, kg, kt, rfl, BR, OK, kd, qy, qn⟩ := p
  obtain ⟨dx, gl, tl, lvs, hb, hsp, hkg, hkt⟩ := id BR
  show AS K _ [some _, some _, none, none, none] _ _
  walk_at "go"
  refine ⟨b, dx, _, rfl, hb, rfl, ?_⟩
  walk_at "go"
  refine ⟨b, d, w, h, rows, l, s, sp, kg, kt, rfl, BR, kd, fun h1 => ?_, fun h1 dx2 hdx2 => ⟨_, Sub.refl, qn h1 dx2 hdx2⟩⟩
  obtain ⟨lv, rfl, l0, l1⟩ := wi_int h1
  walk_at "go"
  refine a_lcp tg_2 (atD 0) (onD lv) (ai_E ?_)
  refine a_fld ?_
  walk_at "go"
  refine ⟨b, C_Board, dx, _, rfl, hb, K_Board.cls, K_Board.n_pin_rows, _, rfl, ?_⟩
  walk_at "go"
  refine ⟨_, _, rfl, rfl, by decide, ?_, ?_, ?_⟩
  · rw [enumD_len, List.length_map]
    have := OK.len
    have := sizeLine_eq
    omega
  · rintro x hx
    obtain ⟨i, hi⟩ := List.mem_iff_getElem?.mp hx
    have hlt := (List.getElem?_eq_some_iff.mp hi).1
    rw [enumD_len, List.length_map] at hlt
    rw [enumD_get (x := encR rows[i]) (by rw [List.getElem?_map, List.getElem?_eq_getElem hlt]; rfl)] at hi
    cases hi
    refine ⟨_, ⟨rfl, rfl⟩, rfl, ?_, fun _ => ?_⟩
    · walk_at "nf"
      walk_at "go"
      refine ite_d (fun k1 => ?_) (fun k1 => ?_)
      · walk_at "go"
        refine ⟨?_, rfl⟩
        simp only [onD, k1, decide_true, Bool.true_and]
      · refine ⟨_, rfl, ?_, rfl⟩
        simp only [onD, k1, decide_false, Bool.false_and]
    · walk_at "nf"
      walk_at "go"
      exact ⟨rfl, rfl⟩
  · intro l2 hl2
    rw [from_enum (onD lv) (atD 0) (fun _ _ => rfl) fun _ _ => rfl]
    walk_at "go"
    refine a_listRg1 ?_
    walk_at "go"
    refine ⟨by decide, by decide, fun l3 hl3 => ?_⟩
    have ne3 := none_ne hl3
    walk_at "go"
    refine ro_cat (by walk_at "mu") (by walk_at "mu") ?_ fun l4 hl4 => ?_
    · have h1 := from_len (lv := lv) rows 4
      have h2 := OK.len
      have h3 : (rgD 0 4).length = 4 := rfl
      have := sizeLine_eq
      rw [h3, List.length_map]
      omega
    have eq : rgD 0 4 ++ (pinsFrom lv 4 rows).map D.int = (pinsOf rows lv).map D.int := rfl
    rw [eq]
    walk_at "go"
    refine rc_tuple (seq_ref set_same) ?_
    refine up_of ?_ (qy lv rfl l0 (by omega))
    intro a m ea
    have n2 : μ l2 = none := hl2
    have n3 : μ l3 = none := none_back hl3
    have n4 : μ l4 = none := none_back (none_back hl4)
    have d2 : a ≠ l2 := fun z => by rw [z, n2] at ea; cases ea
    have d3 : a ≠ l3 := fun z => by rw [z, n3] at ea; cases ea
    have d4 : a ≠ l4 := fun z => by rw [z, n4] at ea; cases ea
    rw [set_ne d4, set_ne d3]
    show (μ.set l2 _) a = some m
    rw [set_ne d2]
    exact ea
def Pins (rows : List R4) (pins : List Int) : Prop := pins.length ≤ 20 ∧ ∀ p ∈ pins, 0 ≤ p ∧ p < rows.length + 4
theorem pins_ok {w h l : Int} {rows : List R4} (k : BOk w h rows l) (lv : Int) : Pins rows (pinsOf rows lv) := ⟨by have := pins_len rows lv; have := k.len; omega, fun p hp => pins_in hp⟩
def P_board_meets_a_pin (C : Addr) : PT3 := fun ds μ Φ => ∃ b w h rows l s sp kg kt p q pins, ds = [.ref b, .int p, .int q, .tup (pins.map D.int)] ∧ Brd C μ b w h rows l s sp kg kt ∧ BOk w h rows l ∧ (0 ≤ p ∧ p < rows.length + 4) ∧ (0 ≤ q ∧ q < rows.length + 4) ∧ Pins rows pins ∧ Φ (.bl (hits (spots w h rows) pins (p, q))) μ
theorem len_board_meets_a_pin (C : Addr) (ds : List D) (μ : M) (Φ : D → M → Prop) (h : P_board_meets_a_pin C ds μ Φ) : ds.length = 4 := by
  obtain ⟨_, _, _, _, _, _, _, _, _, _, _, _, rfl, _⟩ := h
  rfl
/-- self.spots[n] -/
theorem rd_spot {C : Addr} (KB : Cl_Board K C) {τ : T} {μ : M} {Φ : D → M → Prop} {te ti : TE} {w h l s : Int} {rows : List R4} {b sp kg kt : Addr} (BR : Brd C μ b w h rows l s sp kg kt) (he : AE K te τ μ fun d μ1 => d = .ref b ∧ μ1 = μ)
    (hi : AE K ti τ μ fun d μ1 => μ1 = μ ∧ ∃ n, d = .int n ∧ (0 ≤ n ∧ n < rows.length + 4) ∧ Φ (encG (spAt (spots w h rows) n)) μ) : AE K (tFld K te "spots") τ μ fun d μ1 => AE K ti τ μ1 fun e μ2 => RO K (rIx K) d e μ2 Φ := by
  obtain ⟨dx, gl, tl, lvs, hb, hsp, hkg, hkt⟩ := BR
  refine a_fld (he.imp fun d μ1 ⟨e1, e2⟩ => ?_)
  subst e1 e2
  refine ⟨b, C, dx, _, rfl, hb, KB.cls, KB.n_spots, _, rfl, hi.imp fun d μ2 ⟨e2, n, e1, hn, q⟩ => ?_⟩
  subst e1 e2
  exact ro_ix (seq_ref hsp) (spot_get hn.1 hn.2) q
def ofI : D → Int
  | .int i => i
  | _ => 0
theorem filter_int (p : Int → Bool) (l : List Int) : (l.map D.int).filter (fun d => p (ofI d)) = (l.filter p).map D.int := by
  rw [List.filter_map]
  rfl
theorem ok_board_meets_a_pin {f : Addr} {fd : FuncData} (F : Fun K "meets_a_pin" "Board.meets_a_pin" s_board_meets_a_pin f fd) (B : Bs mg) {C_Board : Addr} (K_Board : Cl_Board K C_Board) (G_is_between : Def P w K mg base "is_between" ["one", "other", "third"] 3 (spI K P_is_between)) : FnOk P w K mg base CX0 4 f fd ["self", "one", "other", "pins"] (spI K (P_board_meets_a_pin C_Board)) := by
  refine F.ok sc_board_meets_a_pin (fun vs H Q E h => spI_len h (len_board_meets_a_pin C_Board)) (fun cdv A outer s H vs Q E hr h => ?_)
  have hu65 := hu65_of hr
  refine ⟨_, (pss_cons (ps_asg (pe_tup (pa_cons (pe_ix (ix_seqK (K := K) rfl) (pe_fldK (K := K) rfl (pv 0) rfl) (pv 1) (fun _ _ => rfl)) (pa_cons (pe_ix (ix_seqK (K := K) rfl) (pe_fldK (K := K) rfl (pv 0) rfl) (pv 2) (fun _ _ => rfl)) pa_nil))) (pg_tup (by rfl) (pgs_cons (pg_name (i := 4) sc_board_meets_a_pin.nd rfl (by first | exact Or.inl rfl | exact Or.inr rfl)) (pgs_cons (pg_name (i := 5) sc_board_meets_a_pin.nd rfl (by first | exact Or.inl rfl | exact Or.inr rfl)) pgs_nil))))
      (pss_one (ps_ret (pe_callB (cr_anyK (K := K) rfl rfl) (by rfl) B.b_any (by decide +kernel) (pa_cons (pe_lc (own := [("pin", 6)]) (g := gName 6)  rfl sc_board_meets_a_pin.nd (pi_tupK (K := K) rfl (pv 3)) (blkOk_by (own := [("pin", 6)]) (N := N_board_meets_a_pin) (sc := defScope s_board_meets_a_pin) (by decide +kernel)) (fun _ _ _ _ _ => (pg_name (i := 6) sc_board_meets_a_pin.nd rfl (by first | exact Or.inl rfl | exact Or.inr rfl))) (fun _ _ _ _ _ => (pts_one (pt_cmpR (op_notInSK (K := K) rfl hu65) (pv 6) (pe_tup (pa_cons (pv 1) (pa_cons (pv 2) pa_nil))) (by first | exact nomark _ | rfl)))) (fun _ _ _ _ _ => (pe_def G_is_between (hr.mono (by decide)) (by rfl) (pa_cons (pv 4) (pa_cons (pv 5) (pa_cons (pe_ix (ix_seqK (K := K) rfl) (pe_fldK (K := K) rfl (pv 0) rfl) (pv 6) (fun _ _ => rfl)) pa_nil)))))) pa_nil))))), body_okU h (fun ds μ Φ p => ?_)⟩
  (try dsimp only [cxOf, Cx.nox, Cx.wish, List.map_cons, List.map_nil])
  obtain ⟨b, w, h, rows, l, s, sp, kg, kt, p, q, pins, rfl, BR, OK, hp, hq, hpins, qy⟩ := p
  show AS K _ [some _, some _, some _, some _, none, none, none] _ _
  walk_at "go"
  refine rd_spot K_Board BR ?_ ?_
  · walk_at "go"
    exact ⟨rfl, rfl⟩
  walk_at "go"
  refine ⟨rfl, p, rfl, hp, ?_⟩
  walk_at "go"
  refine rd_spot K_Board BR ?_ ?_
  · walk_at "go"
    exact ⟨rfl, rfl⟩
  walk_at "go"
  refine ⟨rfl, q, rfl, hq, ?_⟩
  walk_at "go"
  refine a_lc1 (fun d => .bl (btw (spAt (spots w h rows) p) (spAt (spots w h rows) q) (spAt (spots w h rows) (ofI d)))) (fun d => !(decide (ofI d = p) || decide (ofI d = q))) (ai_T ?_)
  walk_at "go"
  refine ⟨?_, fun x hx => ?_, fun x hx _ => ?_, fun l2 hl2 => ?_⟩
  · have := hpins.1
    have := sizeLine_eq
    rw [List.length_map]
    omega
  · obtain ⟨r, hr, rfl⟩ := List.mem_map.mp hx
    walk_at "nf"
    walk_at "go"
    rw [inD_ii]
    exact ⟨rfl, trivial⟩
  · obtain ⟨r, hr, rfl⟩ := List.mem_map.mp hx
    walk_at "nf"
    walk_at "go"
    refine rd_spot K_Board BR ?_ ?_
    · walk_at "go"
      exact ⟨rfl, rfl⟩
    walk_at "go"
    refine ⟨rfl, r, rfl, hpins.2 r hr, ?_⟩
    walk_at "go"
    exact ⟨_, _, _, rfl, OK.at p, OK.at q, OK.at r, rfl, rfl⟩
  · have e1 : ((pins.map D.int).filter fun d => !(decide (ofI d = p) || decide (ofI d = q))).map (fun d => D.bl (btw (spAt (spots w h rows) p) (spAt (spots w h rows) q) (spAt (spots w h rows) (ofI d)))) = (((pins.filter fun r => !(decide (r = p) || decide (r = q))).map fun r => btw (spAt (spots w h rows) p) (spAt (spots w h rows) q) (spAt (spots w h rows) r))).map D.bl := by
      rw [filter_int fun r => !(decide (r = p) || decide (r = q)), List.map_map, List.map_map]
      rfl
    rw [e1]
    walk_at "go"
    refine rc_any set_same ?_
    have e2 : ((((pins.filter fun r => !(decide (r = p) || decide (r = q))).map fun r => btw (spAt (spots w h rows) p) (spAt (spots w h rows) q) (spAt (spots w h rows) r))).any id) = hits (spots w h rows) pins (p, q) := by
      rw [List.any_map, List.any_filter]
      rfl
    rw [e2]
    exact up_of (sub_new Sub.refl hl2) qy
def P_board_crosses_gate (C : Addr) : PT3 := fun ds μ Φ => ∃ b w h rows l s sp kg kt p q g, ds = [.ref b, .int p, .int q, encG g] ∧ Brd C μ b w h rows l s sp kg kt ∧ BOk w h rows l ∧ (0 ≤ p ∧ p < rows.length + 4) ∧ (0 ≤ q ∧ q < rows.length + 4) ∧ (0 ≤ g.1 ∧ g.1 < rows.length + 4) ∧ (0 ≤ g.2 ∧ g.2 < rows.length + 4) ∧ Φ (.bl (crsG (spots w h rows) (p, q) g)) μ
theorem len_board_crosses_gate (C : Addr) (ds : List D) (μ : M) (Φ : D → M → Prop) (h : P_board_crosses_gate C ds μ Φ) : ds.length = 4 := by
  obtain ⟨_, _, _, _, _, _, _, _, _, _, _, _, rfl, _⟩ := h
  rfl
theorem ok_board_crosses_gate {f : Addr} {fd : FuncData} (F : Fun K "crosses_gate" "Board.crosses_gate" s_board_crosses_gate f fd) (B : Bs mg) {C_Board : Addr} (K_Board : Cl_Board K C_Board) (G_side : Def P w K mg base "side" ["one", "other", "third"] 2 (spI K P_side)) : FnOk P w K mg base CX0 3 f fd ["self", "one", "other", "gate"] (spI K (P_board_crosses_gate C_Board)) := by
  refine F.ok sc_board_crosses_gate (fun vs H Q E h => spI_len h (len_board_crosses_gate C_Board)) (fun cdv A outer s H vs Q E hr h => ?_)
  have hu65 := hu65_of hr
  refine ⟨_, (pss_cons (ps_par (i := 4) (j := 5) rfl sc_board_crosses_gate.nd rfl rfl (by decide) rfl rfl (pa_cons (pe_ix (ix_seqK (K := K) rfl) (pe_fldK (K := K) rfl (pv 0) rfl) (pv 1) (fun _ _ => rfl)) (pa_cons (pe_ix (ix_seqK (K := K) rfl) (pe_fldK (K := K) rfl (pv 0) rfl) (pv 2) (fun _ _ => rfl)) pa_nil)) (by rfl))
      (pss_cons (ps_par (i := 6) (j := 7) rfl sc_board_crosses_gate.nd rfl rfl (by decide) rfl rfl (pa_cons (pe_ix (ix_seqK (K := K) rfl) (pe_fldK (K := K) rfl (pv 0) rfl) (pe_ix (ix_seqK (K := K) rfl) (pv 3) pe_int (fun _ _ => rfl)) (fun _ _ => rfl)) (pa_cons (pe_ix (ix_seqK (K := K) rfl) (pe_fldK (K := K) rfl (pv 0) rfl) (pe_ix (ix_seqK (K := K) rfl) (pv 3) pe_int (fun _ _ => rfl)) (fun _ _ => rfl)) pa_nil)) (by rfl))
      (pss_one (ps_ret (pe_and (pe_cmpR op_lt (pe_op op_mulW (pe_def G_side (hr.mono (by decide)) (by rfl) (pa_cons (pv 4) (pa_cons (pv 5) (pa_cons (pv 6) pa_nil)))) (pe_def G_side (hr.mono (by decide)) (by rfl) (pa_cons (pv 4) (pa_cons (pv 5) (pa_cons (pv 7) pa_nil))))) pe_int (by first | exact nomark _ | rfl)) (pe_one (pe_cmpR op_lt (pe_op op_mulW (pe_def G_side (hr.mono (by decide)) (by rfl) (pa_cons (pv 6) (pa_cons (pv 7) (pa_cons (pv 4) pa_nil)))) (pe_def G_side (hr.mono (by decide)) (by rfl) (pa_cons (pv 6) (pa_cons (pv 7) (pa_cons (pv 5) pa_nil))))) pe_int (by first | exact nomark _ | rfl)))))))), body_ok h (fun ds μ Φ p => ?_)⟩
  (try dsimp only [cxOf, Cx.nox, Cx.wish, List.map_cons, List.map_nil])
  obtain ⟨b, w, h, rows, l, s, sp, kg, kt, p, q, g, rfl, BR, OK, hp, hq, h1, h2, qy⟩ := p
  show AS K _ [some _, some _, some _, some _, none, none, none, none] _ _
  walk_at "go"
  refine rd_spot K_Board BR ?_ ?_
  · walk_at "go"
    exact ⟨rfl, rfl⟩
  walk_at "go"
  refine ⟨rfl, p, rfl, hp, ?_⟩
  walk_at "go"
  refine rd_spot K_Board BR ?_ ?_
  · walk_at "go"
    exact ⟨rfl, rfl⟩
  walk_at "go"
  refine ⟨rfl, q, rfl, hq, ?_⟩
  walk_at "go"
  refine rd_spot K_Board BR ?_ ?_
  · walk_at "go"
    exact ⟨rfl, rfl⟩
  walk_at "go"
  refine ⟨rfl, g.1, rfl, h1, ?_⟩
  walk_at "go"
  refine rd_spot K_Board BR ?_ ?_
  · walk_at "go"
    exact ⟨rfl, rfl⟩
  walk_at "go"
  refine ⟨rfl, g.2, rfl, h2, ?_⟩
  walk_at "go"
  have s1 := sgn_sz (ar (spAt (spots w h rows) p) (spAt (spots w h rows) q) (spAt (spots w h rows) g.1))
  have s2 := sgn_sz (ar (spAt (spots w h rows) p) (spAt (spots w h rows) q) (spAt (spots w h rows) g.2))
  have s3 := sgn_sz (ar (spAt (spots w h rows) g.1) (spAt (spots w h rows) g.2) (spAt (spots w h rows) p))
  have s4 := sgn_sz (ar (spAt (spots w h rows) g.1) (spAt (spots w h rows) g.2) (spAt (spots w h rows) q))
  refine use_side (OK.at _) (OK.at _) (OK.at _) ?_
  walk_at "go"
  refine use_side (OK.at _) (OK.at _) (OK.at _) ?_
  walk_at "go"
  have fin : ∀ v, crsG (spots w h rows) (p, q) g = v → Φ (.bl v) μ := fun v e => e ▸ qy
  refine ite_d (fun k1 => ?_) (fun k1 => ?_)
  rotate_left
  · exact fin _ (by unfold crsG crs; rw [decide_eq_false k1]; rfl)
  walk_at "go"
  refine use_side (OK.at _) (OK.at _) (OK.at _) ?_
  walk_at "go"
  refine use_side (OK.at _) (OK.at _) (OK.at _) ?_
  walk_at "go"
  exact fin _ (by unfold crsG crs; rw [decide_eq_true k1, Bool.true_and])
def P_board_found_gates (C T : Addr) : PT3 := fun ds μ Φ => ∃ b w h rows l s sp kg kt pins, ds = [.ref b, .tup (pins.map D.int)] ∧ Brd C μ b w h rows l s sp kg kt ∧ BOk w h rows l ∧ Pins rows pins ∧ pins.Nodup ∧ μ T = some (.tab Q_g) ∧ Φ (.tup ((gatesOf (spots w h rows) pins).map encG)) μ
theorem len_board_found_gates (C T : Addr) (ds : List D) (μ : M) (Φ : D → M → Prop) (h : P_board_found_gates C T ds μ Φ) : ds.length = 2 := by
  obtain ⟨_, _, _, _, _, _, _, _, _, _, rfl, _⟩ := h
  rfl
def ofG : D → Pt
  | .tup [.int p, .int q] => (p, q)
  | _ => (0, 0)
theorem ok_board_found_gates {f : Addr} {fd : FuncData} {cT : Addr} (F : LK.FunT K "found_gates" "Board.found_gates" s_board_found_gates cT f fd) (B : Bs mg) {T_g : Addr} (TB : LamX.TabB base mg cT T_g) {C_Board : Addr} (K_Board : Cl_Board K C_Board) (G_board_crosses_gate : Mth P w K mg base C_Board "crosses_gate" ["self", "one", "other", "gate"] 3 (spI K (P_board_crosses_gate C_Board))) (G_board_meets_a_pin : Mth P w K mg base C_Board "meets_a_pin" ["self", "one", "other", "pins"] 4 (spI K (P_board_meets_a_pin C_Board))) (G_apart : Def P w K mg base "apart" ["one", "other"] 1 (spI K P_apart)) : FnOk P w K mg base CX0 6 f fd ["self", "pins"] (spI K (P_board_found_gates C_Board T_g)) := by
  refine F.ok0 sc_board_found_gates (fun vs H Q E h => spI_len h (len_board_found_gates C_Board T_g)) (fun A outer s H vs Q E hr h => ?_)
  have hu65 := hu65_of hr
  refine ⟨_, (pss_cons (ps_setLc2 (i := 2) (own := [("p", 4), ("q", 5)]) (vs1 := [5]) (g := gName 4) (tt := tYes) (g1 := gName 5)  rfl sc_board_found_gates.nd rfl rfl (sw_true rfl rfl rfl (by decide +kernel)) (pi_tupK (K := K) rfl (pv 1)) (blkOk_by (own := [("p", 4), ("q", 5)]) (N := N_board_found_gates) (sc := defScope s_board_found_gates) (by decide +kernel)) (by decide) (fun _ _ _ _ _ => (pg_name (i := 4) sc_board_found_gates.nd rfl (by first | exact Or.inl rfl | exact Or.inr rfl))) (fun _ _ _ _ _ => pts_nil) (fun _ _ _ _ _ => (pi_tupK (K := K) rfl (pv 1))) (fun _ _ _ _ _ => (pg_name (i := 5) sc_board_found_gates.nd rfl (by first | exact Or.inl rfl | exact Or.inr rfl))) (fun _ _ _ _ _ => (pts_one (pt_cmpR op_lt (pv 4) (pv 5) (by first | exact nomark _ | rfl)))) (fun _ _ _ _ _ => (pe_tup (pa_cons (pv 4) (pa_cons (pv 5) pa_nil)))))
      (pss_cons (ps_set (i := 3) sc_board_found_gates.nd rfl (by first | exact Or.inl rfl | exact Or.inr rfl) (pe_lst pa_nil))
      (pss_cons (ps_for PassesOwn.never rfl (pi_listK (K := K) rfl (LK.pe_sortL (K := K) (N := ["pair", "self"]) (ps := ["pair"]) (fr := ["self"]) (js := [0]) (k := 2) rfl (by rfl) B.b_sorted TB rfl (hr.mono (by decide)) (NdefX.nscope_by (by decide +kernel)) rfl (by change NdefX.ndefB (defScope s_board_found_gates) _ _ = true; decide +kernel) rfl rfl (fun _ _ _ _ _ us hl => match us, hl with | [_], _ => rfl) (pv 2) (fun f c s H hr => (pe_tup (pa_cons (pe_def G_apart (hr.mono (by decide)) (by rfl) (pa_cons (pe_ix (ix_seqK (K := K) rfl) (pe_fldK (K := K) rfl (pv 1) rfl) (pe_ix (ix_seqK (K := K) rfl) (pv 0) pe_int (fun _ _ => rfl)) (fun _ _ => rfl)) (pa_cons (pe_ix (ix_seqK (K := K) rfl) (pe_fldK (K := K) rfl (pv 1) rfl) (pe_ix (ix_seqK (K := K) rfl) (pv 0) pe_int (fun _ _ => rfl)) (fun _ _ => rfl)) pa_nil))) (pa_cons (pv 0) pa_nil)))))) (pg_tup (by rfl) (pgs_cons (pg_name (i := 4) sc_board_found_gates.nd rfl (by first | exact Or.inl rfl | exact Or.inr rfl)) (pgs_cons (pg_name (i := 5) sc_board_found_gates.nd rfl (by first | exact Or.inl rfl | exact Or.inr rfl)) pgs_nil)))
      (pss_one (ps_if (PW.pt (pw_and (pt_not (pt_val (pe_mthN G_board_meets_a_pin (hr.mono (by decide)) (pv 0) (pa_cons (pv 4) (pa_cons (pv 5) (pa_cons (pv 1) pa_nil)))))) (pw_and1 (pt_not (pt_val (pe_callB (cr_anyK (K := K) rfl rfl) (by rfl) B.b_any (by decide +kernel) (pa_cons (pe_lc (own := [("gate", 6)]) (g := gName 6) (tt := tYes) rfl sc_board_found_gates.nd (pi_listK (K := K) rfl (pv 3)) (blkOk_by (own := [("gate", 6)]) (N := N_board_found_gates) (sc := defScope s_board_found_gates) (by decide +kernel)) (fun _ _ _ _ _ => (pg_name (i := 6) sc_board_found_gates.nd rfl (by first | exact Or.inl rfl | exact Or.inr rfl))) (fun _ _ _ _ _ => pts_nil) (fun _ _ _ _ _ => (pe_mthN G_board_crosses_gate (hr.mono (by decide)) (pv 0) (pa_cons (pv 4) (pa_cons (pv 5) (pa_cons (pv 6) pa_nil)))))) pa_nil))))))) (pss_one (ps_expr (pe_bm PySem.F.plainAttrs_list PySem.F.slot_list_append PySem.F.type_list_append mt_append (pv 3) (pa_cons (pe_tup (pa_cons (pv 4) (pa_cons (pv 5) pa_nil))) pa_nil)))) pss_nil)))
      (pss_one (ps_ret (pe_callTy (call_tupleK (K := K) rfl) (by rfl) B.b_tuple (by decide +kernel) (pa_cons (pe_callB (SD.cr_sortDK (K := K) rfl hr.units) (by rfl) B.b_sorted (by decide +kernel) (pa_cons (pv 3) pa_nil)) pa_nil))))))), body_okU h (fun ds μ Φ p => ?_)⟩
  (try dsimp only [cxOf, Cx.nox, Cx.wish, List.map_cons, List.map_nil])
  obtain ⟨b, w, h, rows, l, s, sp, kg, kt, pins, rfl, BR, OK, hpins, hnd, hT, qy⟩ := p
  show AS K _ [some _, some _, none, none, none, none, none] _ _
  have hpl := hpins.1
  have ep : ((pins.map D.int).flatMap fun x => ((pins.map D.int).filter fun y => decide (ofI x < ofI y)).map fun y => D.tup [x, y]) = (pairsOf pins).map encG := by
    unfold pairsOf
    rw [List.flatMap_map, List.map_flatMap]
    congr 1
    funext x
    show List.map _ (List.filter (fun y => decide (x < ofI y)) (pins.map D.int)) = _
    rw [filter_int fun y => decide (x < y), List.map_map, List.map_map]
    rfl
  have el : (pairsOf pins).length ≤ 400 := by
    have h1 : ∀ (l : List Int), (l.flatMap fun p => (pins.filter fun q => decide (p < q)).map fun q => (p, q)).length ≤ l.length * pins.length := fun l => by
      induction l with
      | nil => simp
      | cons x l ih =>
        rw [List.flatMap_cons, List.length_append, List.length_map, List.length_cons, Nat.succ_mul]
        have := List.length_filter_le (fun q => decide (x < q)) pins
        omega
    have h2 := h1 pins
    have h3 : pins.length * pins.length ≤ 20 * 20 := Nat.mul_le_mul hpl hpl
    unfold pairsOf
    omega
  walk_at "go"
  refine a_lc2p tg_name tg_name (by intro j hj d; simp at hj; rcases hj with rfl | rfl <;> simp) (by decide) (fun _ => pins.map D.int) (fun x y => .tup [x, y]) (fun x y => decide (ofI x < ofI y)) (ai_T ?_)
  walk_at "go"
  rw [ep]
  refine ⟨?_, ?_, fun l1 hl1 => ?_⟩
  · rw [List.length_map]
    have := sizeLine_eq
    omega
  · intro x hx
    obtain ⟨p, hp, rfl⟩ := List.mem_map.mp hx
    refine ⟨_, rfl, rfl, at_yes ⟨rfl, rfl⟩, fun Dl acc hD => ?_, fun y hy => ?_⟩
    · walk_at "nf"
      refine ai_T ?_
      walk_at "go"
      exact ⟨rfl, rfl, rfl⟩
    · obtain ⟨q, hq, rfl⟩ := List.mem_map.mp hy
      refine ⟨_, rfl, rfl, ?_, fun _ => ?_⟩
      · walk_at "nf"
        walk_at "go"
        exact ⟨rfl, rfl⟩
      · walk_at "nf"
        walk_at "go"
        exact ⟨rfl, rfl⟩
  · walk_at "go"
    intro l2 hl2
    have ne := none_ne hl2
    walk_at "go"
    refine s_for (ai_L (a_sortL (fun _ _ => ⟨_, rfl⟩) ?_))
    walk_at "go"
    have hlen : (srtG (spots w h rows) (pairsOf pins)).length ≤ 400 := by rw [srtG, List.length_mergeSort]; exact el
    refine ⟨l1, _, keyD (spots w h rows), rfl, by walk_at "mu", ?_, ?_, key_alike _ _, key_sortable _ _, ?_, fun l3 hl3 => ?_⟩
    · show (((id μ).set l1 _).set l2 _) T_g = some (.tab Q_g)
      have n1 : T_g ≠ l1 := fun z => by
        have n0 : μ T_g = none := by rw [z]; exact hl1
        rw [hT] at n0; cases n0
      have n2 : T_g ≠ l2 := fun z => by
        have n0 : μ T_g = none := by rw [z]; exact none_back hl2
        rw [hT] at n0; cases n0
      rw [set_ne n2, set_ne n1]
      exact hT
    · intro x hx
      obtain ⟨g, _, rfl⟩ := List.mem_map.mp hx
      exact okn_t12.mono (by decide)
    · intro x hx
      obtain ⟨g, hg, rfl⟩ := List.mem_map.mp hx
      obtain ⟨g1, g2, _⟩ := mem_pairs.mp (show (g.1, g.2) ∈ pairsOf pins from hg)
      have BR2 : Brd C_Board (((id μ).set l1 (MO.lst (List.map encG (pairsOf pins)))).set l2 (MO.lst [])) b w h rows l s sp kg kt := BR.sub (sub_new (sub_new Sub.refl hl1) hl2)
      walk_at "nf"
      walk_at "go"
      refine rd_spot K_Board BR2 ?_ ?_
      · walk_at "go"
        exact ⟨rfl, rfl⟩
      walk_at "go"
      refine ⟨rfl, g.1, rfl, hpins.2 _ g1, ?_⟩
      walk_at "go"
      refine rd_spot K_Board BR2 ?_ ?_
      · walk_at "go"
        exact ⟨rfl, rfl⟩
      walk_at "go"
      refine ⟨rfl, g.2, rfl, hpins.2 _ g2, ?_⟩
      walk_at "go"
      refine ⟨_, _, rfl, OK.at _, OK.at _, ?_⟩
      walk_at "go"
      exact ⟨rfl, rfl⟩
    · rw [srt_pairs _ _ _ fun _ => rfl]
      have n31 : l3 ≠ l1 := by
        intro z
        rw [z] at hl3
        rw [set_ne (Ne.symm ne), set_same] at hl3
        cases hl3
      have n32 : l3 ≠ l2 := none_ne hl3
      refine ⟨l3, _, rfl, set_same, ?_⟩
      have n2 : μ l2 = none := none_back hl2
      have n3 : μ l3 = none := none_back (none_back hl3)
      have subOf : ∀ {μ' : M}, SubB l2 ((((id μ).set l1 (MO.lst (List.map encG (pairsOf pins)))).set l2 (MO.lst [])).set l3 (MO.lst (List.map encG (srtG (spots w h rows) (pairsOf pins)))) |>.del l3) μ' → Sub μ μ' := fun {μ'} sb a m ea => by
        have d1 : a ≠ l1 := fun z => by rw [z] at ea; rw [show μ l1 = none from hl1] at ea; cases ea
        have d2 : a ≠ l2 := fun z => by rw [z, n2] at ea; cases ea
        have d3 : a ≠ l3 := fun z => by rw [z, n3] at ea; cases ea
        refine sb a m d2 ?_
        rw [Z.del_ne d3, set_ne d3, set_ne d2, set_ne d1]
        exact ea
      refine ⟨fun j τ' μ' => ∃ o4 o5 o6 : Option D, SubB l2 ((((id μ).set l1 (MO.lst (List.map encG (pairsOf pins)))).set l2 (MO.lst [])).set l3 (MO.lst (List.map encG (srtG (spots w h rows) (pairsOf pins)))) |>.del l3) μ' ∧ μ' l2 = some (.lst ((foundG (spots w h rows) pins ((srtG (spots w h rows) (pairsOf pins)).take j)).map encG)) ∧
        τ' = [some (.ref b), some (.tup (pins.map D.int)), some (.ref l1), some (.ref l2), o4, o5, o6], ?_, ?_, ?_⟩
      · exact ⟨none, none, none, fun a m _ e => e, by rw [Z.del_ne (Ne.symm n32), set_ne (Ne.symm n32)]; exact set_same, rfl⟩
      · rintro j x τ' μ' hx ⟨o4, o5, o6, sb, hf, rfl⟩
        rw [List.getElem?_map] at hx
        obtain ⟨g, hg, rfl⟩ := Option.map_eq_some_iff.mp hx
        have hgm : g ∈ pairsOf pins := srt_mem.mp (List.mem_of_getElem? hg)
        obtain ⟨g1, g2, _⟩ := mem_pairs.mp (show (g.1, g.2) ∈ pairsOf pins from hgm)
        have sub0 := subOf sb
        have BR2 := BR.sub sub0
        obtain ⟨dx, gl, tl, lvs, hb, hsp, hkg, hkt⟩ := id BR2
        have hlt := (List.getElem?_eq_some_iff.mp hg).1
        have fsnoc : foundG (spots w h rows) pins ((srtG (spots w h rows) (pairsOf pins)).take (j + 1)) = stepG (spots w h rows) pins (foundG (spots w h rows) pins ((srtG (spots w h rows) (pairsOf pins)).take j)) g := by
          rw [List.take_add_one, hg]
          exact foundG_snoc _ _
        walk_at "go"
        refine ⟨b, dx, _, rfl, hb, rfl, ?_⟩
        walk_at "go"
        refine ⟨b, w, h, rows, l, s, sp, kg, kt, g.1, g.2, pins, rfl, BR2, OK, hpins.2 _ g1, hpins.2 _ g2, hpins, ?_⟩
        refine ⟨_, rfl, ?_⟩
        cases eh : hits (spots w h rows) pins (g.1, g.2)
        · simp only [Bool.not_false, if_true]
          walk_at "go"
          have hfl : (foundG (spots w h rows) pins ((srtG (spots w h rows) (pairsOf pins)).take j)).length ≤ 400 := by
            refine Nat.le_trans (foundG_len _) ?_
            rw [List.length_take]
            omega
          refine a_lc1 (fun d => .bl (crsG (spots w h rows) (g.1, g.2) (ofG d))) (fun _ => true) (ai_L ?_)
          walk_at "go"
          refine ⟨l2, _, rfl, hf, ?_, fun x hx => at_yes ⟨rfl, rfl⟩, fun x hx _ => ?_, fun l4 hl4 => ?_⟩
          · rw [List.length_map]
            have := sizeLine_eq
            omega
          · obtain ⟨g', hg', rfl⟩ := List.mem_map.mp hx
            have hg2 := (foundG_sub _ _ hg').1
            obtain ⟨k1, k2, _⟩ := mem_pairs.mp (show (g'.1, g'.2) ∈ pairsOf pins from srt_mem.mp (List.mem_of_mem_take hg2))
            have BR3 : Brd C_Board (μ'.del l2) b w h rows l s sp kg kt := BR.sub fun a m ea => by
              have d2 : a ≠ l2 := fun z => by rw [z, n2] at ea; cases ea
              rw [Z.del_ne d2]
              exact sub0 a m ea
            obtain ⟨dx3, gl3, tl3, _, hb3, _⟩ := id BR3
            walk_at "nf"
            walk_at "go"
            refine ⟨b, dx3, _, rfl, hb3, rfl, ?_⟩
            walk_at "go"
            exact ⟨b, w, h, rows, l, s, sp, kg, kt, g.1, g.2, g', rfl, BR3, OK, hpins.2 _ g1, hpins.2 _ g2, hpins.2 _ k1, hpins.2 _ k2, rfl, rfl⟩
          · show AA K tNil _ (((μ'.del l2).set l2 _).set l4 _) _
            rw [del_set hf]
            have e1 : (((foundG (spots w h rows) pins ((srtG (spots w h rows) (pairsOf pins)).take j)).map encG).filter fun _ => true).map (fun d => D.bl (crsG (spots w h rows) (g.1, g.2) (ofG d))) = ((foundG (spots w h rows) pins ((srtG (spots w h rows) (pairsOf pins)).take j)).map fun g' => crsG (spots w h rows) g g').map D.bl := by
              rw [List.filter_eq_self.mpr (fun _ _ => rfl), List.map_map, List.map_map]
              rfl
            rw [e1]
            have hl4' : μ' l4 = none := by
              have hl4 : ((μ'.del l2).set l2 _) l4 = none := hl4
              rw [del_set hf] at hl4
              exact hl4
            have n42 : l4 ≠ l2 := ne_of_some hl4' hf
            walk_at "go"
            refine rc_any set_same ?_
            refine ⟨_, rfl, ?_⟩
            rw [List.any_map]
            have e2 : (id ∘ fun g' => crsG (spots w h rows) g g') = fun g' => crsG (spots w h rows) g g' := rfl
            rw [e2]
            cases ec : (foundG (spots w h rows) pins ((srtG (spots w h rows) (pairsOf pins)).take j)).any fun g' => crsG (spots w h rows) g g'
            · simp only [Bool.not_false, if_true]
              walk_at "go"
              refine m_append (a := l2) (ds := (foundG (spots w h rows) pins ((srtG (spots w h rows) (pairsOf pins)).take j)).map encG) ?_
              walk_at "go"
              refine ⟨rfl, ⟨_, by rw [set_ne (Ne.symm n42)]; exact hf⟩, ?_⟩
              walk_at "go"
              refine ⟨by rw [set_ne (Ne.symm n42)]; exact hf, ?_, ?_⟩
              · rw [List.length_map]
                have := sizeLine_eq
                omega
              · refine ⟨_, _, _, sb_self (sb_new sb hl4'), ?_, rfl⟩
                rw [set_same, fsnoc, stepG, eh, ec]
                simp
            · simp only [Bool.not_true, Bool.false_eq_true, if_false]
              walk_at "go"
              refine ⟨_, _, _, sb_new sb hl4', ?_, rfl⟩
              rw [set_ne (Ne.symm n42), fsnoc, stepG, eh, ec]
              exact hf
        · simp only [Bool.not_true, Bool.false_eq_true, if_false]
          walk_at "go"
          refine ⟨_, _, _, sb, ?_, rfl⟩
          rw [fsnoc, stepG, eh]
          exact hf
      · rintro τ' μ' ⟨o4, o5, o6, sb, hf, rfl⟩
        rw [List.length_map, List.take_length] at hf
        have sub0 := subOf sb
        have n32' : l2 ≠ l3 := Ne.symm n32
        walk_at "go"
        refine rc_sorted (by rw [set_ne n32']; exact hf) (fun x hx => ?_) (pt_alike _) (pt_sortable _) fun l5 hl5 => ?_
        · obtain ⟨g', _, rfl⟩ := List.mem_map.mp hx
          exact okn_pt.mono (by decide)
        · rw [srt_found]
          walk_at "go"
          refine rc_tuple (seq_ref set_same) ?_
          have hl5' : μ' l5 = none := none_back hl5
          exact up_of (sub_new (sub_own sub0 n3) hl5) qy
theorem pairs_len {pins : List Int} (h : pins.length ≤ 20) : (pairsOf pins).length ≤ 400 := by
  have h1 : ∀ (l : List Int), (l.flatMap fun p => (pins.filter fun q => decide (p < q)).map fun q => (p, q)).length ≤ l.length * pins.length := fun l => by
    induction l with
    | nil => simp
    | cons x l ih =>
      rw [List.flatMap_cons, List.length_append, List.length_map, List.length_cons, Nat.succ_mul]
      have := List.length_filter_le (fun q => decide (x < q)) pins
      omega
  have h2 := h1 pins
  have h3 : pins.length * pins.length ≤ 20 * 20 := Nat.mul_le_mul h h
  unfold pairsOf
  omega
theorem gOf_len {w h l : Int} {rows : List R4} (OK : BOk w h rows l) (lv : Int) : (gOf w h rows lv).length ≤ 400 := by
  have e := pairs_len (pins_ok OK lv).1
  have k := foundG_len (sp := spots w h rows) (pins := pinsOf rows lv) (srtG (spots w h rows) (pairsOf (pinsOf rows lv)))
  have l2 : (srtG (spots w h rows) (pairsOf (pinsOf rows lv))).length = (pairsOf (pinsOf rows lv)).length := by rw [srtG, List.length_mergeSort]
  unfold gOf gatesOf
  rw [List.length_mergeSort]
  omega
/-- what asking a board for gates, triangles may change -/
def Sub2 (kg kt : Addr) (μ μ' : M) : Prop := ∀ a m, a ≠ kg → a ≠ kt → μ a = some m → μ' a = some m
theorem s2_refl {kg kt : Addr} {μ : M} : Sub2 kg kt μ μ := fun _ _ _ _ h => h
theorem s2_trans {kg kt : Addr} {μ μ1 μ2 : M} (h : Sub2 kg kt μ μ1) (k : Sub2 kg kt μ1 μ2) : Sub2 kg kt μ μ2 := fun a m n1 n2 e => k a m n1 n2 (h a m n1 n2 e)
def P_board_gates (C T : Addr) : PT4 := fun ds μ Φ Ξ => ∃ b d w h rows l s sp kg kt, ds = [.ref b, d] ∧ Brd C μ b w h rows l s sp kg kt ∧ BOk w h rows l ∧ Kd μ d ∧ μ T = some (.tab Q_g) ∧
  (∀ lv μ', d = .int lv → 0 ≤ lv → lv < l → Sub2 kg kt μ μ' → μ' kt = μ kt → Brd C μ' b w h rows l s sp kg kt → Φ (gatesD w h rows lv) μ') ∧ (wi d 0 (l - 1) = false → ∀ dx, μ dx = none → Ξ "NoLayer" (some dx) (μ.set dx (.xd [("layer", d)])))
theorem len_board_gates (C T : Addr) (ds : List D) (μ : M) (Φ : D → M → Prop) (Ξ : XW) (h : P_board_gates C T ds μ Φ Ξ) : ds.length = 2 := by
  obtain ⟨_, _, _, _, _, _, _, _, _, _, rfl, _⟩ := h
  rfl
theorem val_kept {F : Int → D} {lv : Int} : ∀ {gl : List Int}, lv ∈ gl → valD (gl.map fun v => ((Sum.inl v : Key), F v)) (Sum.inl lv) = some (F lv)
  | [], h => by cases h
  | v :: gl, h => by
    rw [List.map_cons, valD_cons]
    by_cases e : v = lv
    · subst e
      rw [if_pos rfl]
    · rw [if_neg (fun z => e (Sum.inl.inj z))]
      exact val_kept (by
        rcases List.mem_cons.mp h with z | z
        · exact absurd z.symm e
        · exact z)
theorem val_off {F : Int → D} {lv : Int} : ∀ {gl : List Int}, lv ∉ gl → valD (gl.map fun v => ((Sum.inl v : Key), F v)) (Sum.inl lv) = none
  | [], _ => rfl
  | v :: gl, h => by
    rw [List.map_cons, valD_cons, if_neg (fun z => h (by rw [Sum.inl.inj z]; exact List.mem_cons_self))]
    exact val_off fun z => h (List.mem_cons_of_mem _ z)
theorem ok_board_gates {f : Addr} {fd : FuncData} (F : Fun K "gates" "Board.gates" s_board_gates f fd) (B : Bs mg) {T_g : Addr} {C_Board : Addr} (K_Board : Cl_Board K C_Board) (G_board_found_gates : Mth P w K mg base C_Board "found_gates" ["self", "pins"] 6 (spI K (P_board_found_gates C_Board T_g))) (G_board_look_layer : Mth P w K mg base C_Board "look_layer" ["self", "number"] 4 (spX K (xn mg) (P_board_look_layer C_Board))) (G_board_pins_on : Mth P w K mg base C_Board "pins_on" ["self", "layer"] 5 (spX K (xn mg) (P_board_pins_on C_Board))) : FnOk P w K mg base (L2.CX P w) 7 f fd ["self", "layer"] (spX K (xn mg) (P_board_gates C_Board T_g)) := by
  refine F.okX sc_board_gates (fun vs H Q E h => spX_len h (len_board_gates C_Board T_g)) (fun cdv A outer s H vs Q E hr h => ?_)
  have hu65 := hu65_of hr
  refine ⟨_, (pss_cons (ps_expr (pe_mthX (takes_of rfl rfl rfl rfl) G_board_look_layer (hr.mono (by decide)) (pv 0) (pa_cons (pv 1) pa_nil)))
      (pss_cons (ps_if (pt_cmp (pc_dnotin (hu_of hr) (pv 1) (pe_fldK (K := K) rfl (pv 0) rfl))) (pss_one (ps_dput (hu_of hr) (pe_fldK (K := K) rfl (pv 0) rfl) (pv 1) (pe_mthN G_board_found_gates (hr.mono (by decide)) (pv 0) (pa_cons (pe_mthN G_board_pins_on (hr.mono (by decide)) (pv 0) (pa_cons (pv 1) pa_nil)) pa_nil)) (by rfl))) pss_nil)
      (pss_one (ps_ret (pe_dget (hu_of hr) (pe_fldK (K := K) rfl (pv 0) rfl) (pv 1) (fun _ _ => rfl)))))), body_okX h (fun ds μ Φ Ξ p => ?_)⟩
  (try dsimp only [cxOf, Cx.nox, Cx.wish, List.map_cons, List.map_nil])
  obtain ⟨b, d, w, h, rows, l, s, sp, kg, kt, rfl, BR, OK, kd, hT, qy, qn⟩ := p
  obtain ⟨dx, gl, tl, lvs, hb, hsp, hkg, hkt⟩ := id BR
  show AS K _ [some _, some _] _ _
  walk_at "go"
  refine ⟨b, dx, _, rfl, hb, rfl, ?_⟩
  walk_at "go"
  refine ⟨b, d, w, h, rows, l, s, sp, kg, kt, rfl, BR, kd, fun h1 => ?_, fun h1 dx2 hdx2 => qn h1 dx2 hdx2⟩
  obtain ⟨lv, rfl, l0, l1⟩ := wi_int h1
  walk_at "go"
  have fin : ∀ (μ' : M) (gl' : List Int), Lvs l gl' → lv ∈ gl' → Sub2 kg kt μ μ' → μ' b = μ b → μ' sp = μ sp → μ' kt = μ kt → μ' kg = some (.dK (gl'.map fun lv => (Sum.inl lv, gatesD w h rows lv))) → AE K (tDGet (tFld K (tVar 0) "kept_gates") (tVar 1)) [some (.ref b), some (.int lv)] μ' Φ := fun μ' gl' lv' hm s2 e1 e2 e3 e4 => by
    have BR' : Brd C_Board μ' b w h rows l s sp kg kt := ⟨dx, gl', tl, ⟨lv', lvs.2⟩, by rw [e1]; exact hb, by rw [e2]; exact hsp, e4, by rw [e3]; exact hkt⟩
    refine a_dget (a_fld ?_)
    walk_at "go"
    refine ⟨b, C_Board, dx, _, rfl, by rw [e1]; exact hb, K_Board.cls, K_Board.n_kept_gates, _, rfl, ?_⟩
    walk_at "go"
    exact ⟨kg, _, rfl, .inl ⟨_, .inl lv, e4, rfl, (val_kept hm).symm⟩, qy lv μ' rfl l0 (by omega) s2 e3 BR'⟩
  refine a_dnotin ?_
  walk_at "go"
  refine a_fld ?_
  walk_at "go"
  refine ⟨b, C_Board, dx, _, rfl, hb, K_Board.cls, K_Board.n_kept_gates, _, rfl, ?_⟩
  refine ⟨kg, _, rfl, .inl ⟨_, .inl lv, hkg, rfl, rfl⟩, ?_⟩
  refine ⟨_, rfl, ?_⟩
  by_cases hm : lv ∈ gl
  · rw [val_kept hm]
    simp only [Option.isSome_some, Bool.not_true, Bool.false_eq_true, if_false]
    walk_at "go"
    exact fin μ gl lvs.1 hm s2_refl rfl rfl rfl hkg
  · rw [val_off hm]
    simp only [Option.isSome_none, Bool.not_false, if_true]
    refine s_dput ?_
    walk_at "go"
    refine ⟨b, dx, _, rfl, hb, rfl, ?_⟩
    walk_at "go"
    refine ⟨b, dx, _, rfl, hb, rfl, ?_⟩
    walk_at "go"
    refine ⟨b, _, w, h, rows, l, s, sp, kg, kt, rfl, BR, OK, kd_int, fun lv2 e2 _ _ => ?_, fun z => by rw [h1] at z; cases z⟩
    cases e2
    walk_at "go"
    refine ⟨b, w, h, rows, l, s, sp, kg, kt, _, rfl, BR, OK, pins_ok OK lv, pins_nodup rows lv, hT, ?_⟩
    refine a_fld ?_
    walk_at "go"
    refine ⟨b, C_Board, dx, _, rfl, hb, K_Board.cls, K_Board.n_kept_gates, _, rfl, ?_⟩
    walk_at "go"
    have hgl := lvs_len lvs.1 OK.l1
    refine .inr ⟨_, .inl lv, hkg, rfl, ?_, ?_⟩
    · rw [List.length_map]
      have := sizeLine_eq
      omega
    rw [putKD_new (val_off hm)]
    have d1 : b ≠ kg := fun z => by rw [z, hkg] at hb; cases hb
    have d2 : sp ≠ kg := fun z => by rw [z, hkg] at hsp; cases hsp
    have d3 : kt ≠ kg := Ne.symm lvs.2.2
    refine s_ret (fin _ (gl ++ [lv]) (lvs_snoc lvs.1 hm l0 (by omega)) (List.mem_append_right _ (List.mem_singleton.mpr rfl)) (fun a m na _ e => by rw [set_ne na]; exact e) (set_ne d1) (set_ne d2) (set_ne d3) ?_)
    rw [set_same, List.map_append]
    rfl
def P_board_is_empty (C : Addr) : PT3 := fun ds μ Φ => ∃ b w h rows l s sp kg kt t pins, ds = [.ref b, encT t, .tup (pins.map D.int)] ∧ Brd C μ b w h rows l s sp kg kt ∧ BOk w h rows l ∧ (0 ≤ t.1 ∧ t.1 < rows.length + 4) ∧ (0 ≤ t.2.1 ∧ t.2.1 < rows.length + 4) ∧ (0 ≤ t.2.2 ∧ t.2.2 < rows.length + 4) ∧ Pins rows pins ∧ Φ (.bl (emptyT (spots w h rows) pins t)) μ
theorem len_board_is_empty (C : Addr) (ds : List D) (μ : M) (Φ : D → M → Prop) (h : P_board_is_empty C ds μ Φ) : ds.length = 3 := by
  obtain ⟨_, _, _, _, _, _, _, _, _, _, _, rfl, _⟩ := h
  rfl
/-- whether a pin lies within three -/
def inT (sp : List Pt) (t : Int × Int × Int) (r : Int) : Bool :=
  decide (sgn (ar (spAt sp t.1) (spAt sp t.2.1) (spAt sp r)) = sgn (ar (spAt sp t.1) (spAt sp t.2.1) (spAt sp t.2.2))) && (decide (sgn (ar (spAt sp t.2.1) (spAt sp t.2.2) (spAt sp r)) = sgn (ar (spAt sp t.1) (spAt sp t.2.1) (spAt sp t.2.2))) && decide (sgn (ar (spAt sp t.2.2) (spAt sp t.1) (spAt sp r)) = sgn (ar (spAt sp t.1) (spAt sp t.2.1) (spAt sp t.2.2))))
theorem empty_eq (sp : List Pt) (pins : List Int) (t : Int × Int × Int) : emptyT sp pins t = (!decide (sgn (ar (spAt sp t.1) (spAt sp t.2.1) (spAt sp t.2.2)) = 0) && pins.all fun r => !inT sp t r) := rfl
theorem ok_board_is_empty {f : Addr} {fd : FuncData} (F : Fun K "is_empty" "Board.is_empty" s_board_is_empty f fd) (B : Bs mg) {C_Board : Addr} (K_Board : Cl_Board K C_Board) (G_side : Def P w K mg base "side" ["one", "other", "third"] 2 (spI K P_side)) : FnOk P w K mg base CX0 4 f fd ["self", "corners", "pins"] (spI K (P_board_is_empty C_Board)) := by
  refine F.ok sc_board_is_empty (fun vs H Q E h => spI_len h (len_board_is_empty C_Board)) (fun cdv A outer s H vs Q E hr h => ?_)
  have hu65 := hu65_of hr
  refine ⟨_, (pss_cons (ps_asg (pe_lc (own := [("pin", 7)]) (g := gName 7) (tt := tYes) rfl sc_board_is_empty.nd (pi_tupK (K := K) rfl (pv 1)) (blkOk_by (own := [("pin", 7)]) (N := N_board_is_empty) (sc := defScope s_board_is_empty) (by decide +kernel)) (fun _ _ _ _ _ => (pg_name (i := 7) sc_board_is_empty.nd rfl (by first | exact Or.inl rfl | exact Or.inr rfl))) (fun _ _ _ _ _ => pts_nil) (fun _ _ _ _ _ => (pe_ix (ix_seqK (K := K) rfl) (pe_fldK (K := K) rfl (pv 0) rfl) (pv 7) (fun _ _ => rfl)))) (pg_lst (by rfl) (pgs_cons (pg_name (i := 3) sc_board_is_empty.nd rfl (by first | exact Or.inl rfl | exact Or.inr rfl)) (pgs_cons (pg_name (i := 4) sc_board_is_empty.nd rfl (by first | exact Or.inl rfl | exact Or.inr rfl)) (pgs_cons (pg_name (i := 5) sc_board_is_empty.nd rfl (by first | exact Or.inl rfl | exact Or.inr rfl)) pgs_nil)))))
      (pss_cons (ps_set (i := 6) sc_board_is_empty.nd rfl (by first | exact Or.inl rfl | exact Or.inr rfl) (pe_def G_side (hr.mono (by decide)) (by rfl) (pa_cons (pv 3) (pa_cons (pv 4) (pa_cons (pv 5) pa_nil)))))
      (pss_cons (ps_if (pt_cmpR op_eq (pv 6) pe_int (by first | exact nomark _ | rfl)) (pss_one (ps_ret pe_bl)) pss_nil)
      (pss_cons (ps_for PassesOwn.never rfl (pi_tupK (K := K) rfl (pv 2)) (pg_name (i := 7) sc_board_is_empty.nd rfl (by first | exact Or.inl rfl | exact Or.inr rfl))
      (pss_cons (ps_set (i := 8) sc_board_is_empty.nd rfl (by first | exact Or.inl rfl | exact Or.inr rfl) (pe_ix (ix_seqK (K := K) rfl) (pe_fldK (K := K) rfl (pv 0) rfl) (pv 7) (fun _ _ => rfl)))
      (pss_one (ps_if (PW.pt (pw_and (pt_cmpR op_eq (pe_def G_side (hr.mono (by decide)) (by rfl) (pa_cons (pv 3) (pa_cons (pv 4) (pa_cons (pv 8) pa_nil)))) (pv 6) (by first | exact nomark _ | rfl)) (pw_and (pt_cmpR op_eq (pe_def G_side (hr.mono (by decide)) (by rfl) (pa_cons (pv 4) (pa_cons (pv 5) (pa_cons (pv 8) pa_nil)))) (pv 6) (by first | exact nomark _ | rfl)) (pw_and1 (pt_cmpR op_eq (pe_def G_side (hr.mono (by decide)) (by rfl) (pa_cons (pv 5) (pa_cons (pv 3) (pa_cons (pv 8) pa_nil)))) (pv 6) (by first | exact nomark _ | rfl)))))) (pss_one (ps_ret pe_bl)) pss_nil))))
      (pss_one (ps_ret pe_bl)))))), body_okU h (fun ds μ Φ p => ?_)⟩
  (try dsimp only [cxOf, Cx.nox, Cx.wish, List.map_cons, List.map_nil])
  obtain ⟨b, w, h, rows, l, s, sp, kg, kt, t, pins, rfl, BR, OK, h1, h2, h3, hpins, qy⟩ := p
  show AS K _ [some _, some _, some _, none, none, none, none, none, none] _ _
  walk_at "go"
  refine a_lc1 (fun d => encG (spAt (spots w h rows) (ofI d))) (fun _ => true) (ai_T ?_)
  walk_at "go"
  refine ⟨fun x hx => at_yes ⟨rfl, rfl⟩, fun x hx _ => ?_, fun l2 hl2 => ?_⟩
  · have hr : ∃ r, x = .int r ∧ 0 ≤ r ∧ r < rows.length + 4 := by
      simp only [List.mem_cons, List.not_mem_nil, or_false] at hx
      rcases hx with rfl | rfl | rfl
      · exact ⟨_, rfl, h1⟩
      · exact ⟨_, rfl, h2⟩
      · exact ⟨_, rfl, h3⟩
    obtain ⟨r, rfl, hr⟩ := hr
    walk_at "nf"
    walk_at "go"
    refine rd_spot K_Board BR ?_ ?_
    · walk_at "go"
      exact ⟨rfl, rfl⟩
    walk_at "go"
    exact ⟨rfl, r, rfl, hr, rfl, rfl⟩
  have hl2' : μ l2 = none := hl2
  have fin : ∀ v, emptyT (spots w h rows) pins t = v → Up Φ (.bl v) (μ.set l2 (.lst [encG (spAt (spots w h rows) t.1), encG (spAt (spots w h rows) t.2.1), encG (spAt (spots w h rows) t.2.2)])) := fun v e => up_of (sub_new Sub.refl hl2') (e ▸ qy)
  have BR2 : Brd C_Board (μ.set l2 (.lst [encG (spAt (spots w h rows) t.1), encG (spAt (spots w h rows) t.2.1), encG (spAt (spots w h rows) t.2.2)])) b w h rows l s sp kg kt := BR.sub (sub_new Sub.refl hl2')
  refine g_lst (ds := [encG (spAt (spots w h rows) t.1), encG (spAt (spots w h rows) t.2.1), encG (spAt (spots w h rows) t.2.2)]) (seq_ref set_same) (fun es z => by cases z) rfl ?_
  show AGs K _ _ _ (μ.set l2 (.lst [encG (spAt (spots w h rows) t.1), encG (spAt (spots w h rows) t.2.1), encG (spAt (spots w h rows) t.2.2)])) _
  generalize (μ.set l2 (.lst [encG (spAt (spots w h rows) t.1), encG (spAt (spots w h rows) t.2.1), encG (spAt (spots w h rows) t.2.2)])) = μ2 at fin BR2 ⊢
  walk_at "go"
  refine use_side (OK.at _) (OK.at _) (OK.at _) ?_
  walk_at "go"
  refine ite_d (fun k1 => ?_) (fun k1 => ?_)
  · walk_at "go"
    exact fin _ (by unfold emptyT; simp [k1])
  walk_at "go"
  refine s_forT ?_
  walk_at "go"
  refine ⟨fun i τ' μ' => ∃ o7 o8 : Option D, μ' = μ2 ∧ (∀ r ∈ pins.take i, inT (spots w h rows) t r = false) ∧ τ' = [some (.ref b), some (encT t), some (.tup (pins.map D.int)), some (encG (spAt (spots w h rows) t.1)), some (encG (spAt (spots w h rows) t.2.1)), some (encG (spAt (spots w h rows) t.2.2)), some (.int (sgn (ar (spAt (spots w h rows) t.1) (spAt (spots w h rows) t.2.1) (spAt (spots w h rows) t.2.2)))), o7, o8], _, rfl, ?_, ?_, ?_⟩
  · exact ⟨none, none, rfl, fun r z => (by cases z), rfl⟩
  · rintro i x τ' μ' hx ⟨o7, o8, rfl, hno, rfl⟩
    rw [List.getElem?_map] at hx
    obtain ⟨r, hr, rfl⟩ := Option.map_eq_some_iff.mp hx
    have hrm := List.mem_of_getElem? hr
    have step : ∀ v, inT (spots w h rows) t r = v → v = false → ∀ r' ∈ pins.take (i + 1), inT (spots w h rows) t r' = false := fun v e1 e2 r' hr' => by
      rw [List.take_add_one, hr] at hr'
      rcases List.mem_append.mp hr' with z | z
      · exact hno r' z
      · rw [Option.toList_some, List.mem_singleton] at z
        rw [z, e1, e2]
    walk_at "go"
    refine rd_spot K_Board BR2 ?_ ?_
    · walk_at "go"
      exact ⟨rfl, rfl⟩
    walk_at "go"
    refine ⟨rfl, r, rfl, hpins.2 r hrm, ?_⟩
    walk_at "go"
    refine use_side (OK.at _) (OK.at _) (OK.at _) ?_
    walk_at "go"
    refine ite_d (fun k2 => ?_) (fun k2 => ?_)
    rotate_left
    · walk_at "go"
      exact ⟨_, _, rfl, step _ (by unfold inT; rw [decide_eq_false k2, Bool.false_and]) rfl, rfl⟩
    walk_at "go"
    refine use_side (OK.at _) (OK.at _) (OK.at _) ?_
    walk_at "go"
    refine ite_d (fun k3 => ?_) (fun k3 => ?_)
    rotate_left
    · walk_at "go"
      exact ⟨_, _, rfl, step _ (by unfold inT; rw [decide_eq_false k3, Bool.false_and, Bool.and_false]) rfl, rfl⟩
    walk_at "go"
    refine use_side (OK.at _) (OK.at _) (OK.at _) ?_
    walk_at "go"
    refine ite_d (fun k4 => ?_) (fun k4 => ?_)
    rotate_left
    · walk_at "go"
      exact ⟨_, _, rfl, step _ (by unfold inT; rw [decide_eq_false k4, Bool.and_false, Bool.and_false]) rfl, rfl⟩
    walk_at "go"
    refine fin _ ?_
    rw [empty_eq]
    have e1 : inT (spots w h rows) t r = true := by unfold inT; rw [decide_eq_true k2, decide_eq_true k3, decide_eq_true k4]; rfl
    have e2 : (pins.all fun r => !inT (spots w h rows) t r) = false := List.all_eq_false.mpr ⟨r, hrm, by rw [e1]; exact Bool.false_ne_true⟩
    rw [e2, Bool.and_false]
  · rintro τ' μ' ⟨o7, o8, rfl, hno, rfl⟩
    rw [List.length_map, List.take_length] at hno
    walk_at "go"
    refine fin _ ?_
    rw [empty_eq, decide_eq_false k1]
    have e2 : (pins.all fun r => !inT (spots w h rows) t r) = true := List.all_eq_true.mpr fun r hr => by rw [hno r hr]; rfl
    rw [e2]
    rfl
def P_board_found_triangles (C T : Addr) : PT3 := fun ds μ Φ => ∃ b lv w h rows l s sp kg kt, ds = [.ref b, .int lv] ∧ Brd C μ b w h rows l s sp kg kt ∧ BOk w h rows l ∧ 0 ≤ lv ∧ lv < l ∧ μ T = some (.tab Q_g) ∧
  ∀ μ', Sub2 kg kt μ μ' → μ' kt = μ kt → Brd C μ' b w h rows l s sp kg kt → Φ (trisD w h rows lv) μ'
theorem len_board_found_triangles (C T : Addr) (ds : List D) (μ : M) (Φ : D → M → Prop) (h : P_board_found_triangles C T ds μ Φ) : ds.length = 2 := by
  obtain ⟨_, _, _, _, _, _, _, _, _, _, rfl, _⟩ := h
  rfl
/-- the triangles that a gate begins -/
def triF (sp : List Pt) (pins : List Int) (gates : List Pt) (g : Pt) : List (Int × Int × Int) :=
  ((pins.filter fun r => decide (g.2 < r) && (decide ((g.1, r) ∈ gates) && decide ((g.2, r) ∈ gates))).map fun r => (g.1, g.2, r)).filter (emptyT sp pins)
theorem pins_gates {w h lv : Int} {rows : List R4} {g : Pt} (hg : g ∈ gOf w h rows lv) : g ∈ pairsOf (pinsOf rows lv) := by
  have h1 : g ∈ foundG (spots w h rows) (pinsOf rows lv) (srtG (spots w h rows) (pairsOf (pinsOf rows lv))) := List.mem_mergeSort.mp hg
  exact srt_mem.mp (foundG_sub _ _ h1).1
theorem ok_board_found_triangles {f : Addr} {fd : FuncData} (F : Fun K "found_triangles" "Board.found_triangles" s_board_found_triangles f fd) (B : Bs mg) {T_g : Addr} {C_Board : Addr} (K_Board : Cl_Board K C_Board) (G_board_gates : Mth P w K mg base C_Board "gates" ["self", "layer"] 7 (spX K (xn mg) (P_board_gates C_Board T_g))) (G_board_is_empty : Mth P w K mg base C_Board "is_empty" ["self", "corners", "pins"] 4 (spI K (P_board_is_empty C_Board))) (G_board_pins_on : Mth P w K mg base C_Board "pins_on" ["self", "layer"] 5 (spX K (xn mg) (P_board_pins_on C_Board))) : FnOk P w K mg base CX0 8 f fd ["self", "layer"] (spI K (P_board_found_triangles C_Board T_g)) := by
  refine F.ok sc_board_found_triangles (fun vs H Q E h => spI_len h (len_board_found_triangles C_Board T_g)) (fun cdv A outer s H vs Q E hr h => ?_)
  have hu65 := hu65_of hr
  refine ⟨_, (pss_cons (ps_par (i := 2) (j := 3) rfl sc_board_found_triangles.nd rfl rfl (by decide) rfl rfl (pa_cons (pe_mthN G_board_gates (hr.mono (by decide)) (pv 0) (pa_cons (pv 1) pa_nil)) (pa_cons (pe_mthN G_board_pins_on (hr.mono (by decide)) (pv 0) (pa_cons (pv 1) pa_nil)) pa_nil)) (by rfl))
      (pss_cons (ps_set (i := 4) sc_board_found_triangles.nd rfl (by first | exact Or.inl rfl | exact Or.inr rfl) (L2.DCT.pe_dcT (own := [("gate", 9)]) (g := gName 9) (tt := tYes) (hu_of hr) rfl sc_board_found_triangles.nd (pi_tupK (K := K) rfl (pv 2)) (blkOk_by (own := [("gate", 9)]) (N := N_board_found_triangles) (sc := defScope s_board_found_triangles) (by decide +kernel)) (fun _ _ _ _ _ => (pg_name (i := 9) sc_board_found_triangles.nd rfl (by first | exact Or.inl rfl | exact Or.inr rfl))) (fun _ _ _ _ _ => pts_nil) (fun _ _ _ _ _ => (pv 9)) (fun _ _ _ _ _ => pe_bl)))
      (pss_cons (ps_set (i := 5) sc_board_found_triangles.nd rfl (by first | exact Or.inl rfl | exact Or.inr rfl) (pe_lst pa_nil))
      (pss_cons (ps_for PassesOwn.never rfl (pi_tupK (K := K) rfl (pv 2)) (pg_tup (by rfl) (pgs_cons (pg_name (i := 6) sc_board_found_triangles.nd rfl (by first | exact Or.inl rfl | exact Or.inr rfl)) (pgs_cons (pg_name (i := 7) sc_board_found_triangles.nd rfl (by first | exact Or.inl rfl | exact Or.inr rfl)) pgs_nil)))
      (pss_one (ps_for PassesOwn.never rfl (pi_listK (K := K) rfl (pe_lc (own := [("pin", 10)]) (g := gName 10)  rfl sc_board_found_triangles.nd (pi_tupK (K := K) rfl (pv 3)) (blkOk_by (own := [("pin", 10)]) (N := N_board_found_triangles) (sc := defScope s_board_found_triangles) (by decide +kernel)) (fun _ _ _ _ _ => (pg_name (i := 10) sc_board_found_triangles.nd rfl (by first | exact Or.inl rfl | exact Or.inr rfl))) (fun _ _ _ _ _ => (pts_one (PW.pt (pw_and (pt_cmpR op_lt (pv 7) (pv 10) (by first | exact nomark _ | rfl)) (pw_and (pt_cmp (pc_din (hu_of hr) (pe_tup (pa_cons (pv 6) (pa_cons (pv 10) pa_nil))) (pv 4))) (pw_and1 (pt_cmp (pc_din (hu_of hr) (pe_tup (pa_cons (pv 7) (pa_cons (pv 10) pa_nil))) (pv 4))))))))) (fun _ _ _ _ _ => (pv 10)))) (pg_name (i := 8) sc_board_found_triangles.nd rfl (by first | exact Or.inl rfl | exact Or.inr rfl))
      (pss_one (ps_if (pt_val (pe_mthN G_board_is_empty (hr.mono (by decide)) (pv 0) (pa_cons (pe_tup (pa_cons (pv 6) (pa_cons (pv 7) (pa_cons (pv 8) pa_nil)))) (pa_cons (pv 3) pa_nil)))) (pss_one (ps_expr (pe_bm PySem.F.plainAttrs_list PySem.F.slot_list_append PySem.F.type_list_append mt_append (pv 5) (pa_cons (pe_tup (pa_cons (pv 6) (pa_cons (pv 7) (pa_cons (pv 8) pa_nil)))) pa_nil)))) pss_nil)))))
      (pss_one (ps_ret (pe_callTy (call_tupleK (K := K) rfl) (by rfl) B.b_tuple (by decide +kernel) (pa_cons (pv 5) pa_nil)))))))), body_ok h (fun ds μ Φ p => ?_)⟩
  (try dsimp only [cxOf, Cx.nox, Cx.wish, List.map_cons, List.map_nil])
  obtain ⟨b, lv, w, h, rows, l, s, sp, kg, kt, rfl, BR, OK, l0, l1, hT, qy⟩ := p
  obtain ⟨dx, gl, tl, lvs, hb, hsp, hkg, hkt⟩ := id BR
  show AS K _ [some _, some _, none, none, none, none, none, none, none, none, none] _ _
  walk_at "go"
  refine ⟨b, dx, _, rfl, hb, rfl, ?_⟩
  walk_at "go"
  refine ⟨b, _, w, h, rows, l, s, sp, kg, kt, rfl, BR, OK, kd_int, hT, fun lv2 μ1 e _ _ s2 ek BR1 => ?_, fun z => ?_⟩
  rotate_left
  · rw [wi_lv l0 l1] at z
    cases z
  cases e
  obtain ⟨dx1, gl1, tl1, lvs1, hb1, hsp1, hkg1, hkt1⟩ := id BR1
  walk_at "go"
  refine ⟨b, dx1, _, rfl, hb1, rfl, ?_⟩
  walk_at "go"
  refine ⟨b, _, w, h, rows, l, s, sp, kg, kt, rfl, BR1, OK, kd_int, fun lv2 e _ _ => ?_, fun z => by rw [wi_lv l0 l1] at z; cases z⟩
  cases e
  walk_at "go"
  have gle := gOf_len OK lv
  refine a_dcT (ai_T ?_)
  walk_at "go"
  refine ⟨fun i acc μ' => μ' = μ1 ∧ acc.length ≤ i ∧ ∀ x y : Int, (valD acc [.inl x, .inl y]).isSome = decide ((x, y) ∈ (gOf w h rows lv).take i), ⟨rfl, Nat.zero_le _, fun x y => rfl⟩, ?_, ?_⟩
  · rintro i x acc μ' hx ⟨rfl, hl, hm⟩
    rw [List.getElem?_map] at hx
    obtain ⟨g, hg, rfl⟩ := Option.map_eq_some_iff.mp hx
    have hi := (List.getElem?_eq_some_iff.mp hg).1
    refine at_yes ?_
    rw [if_pos rfl]
    walk_at "nf"
    walk_at "go"
    refine ⟨[.inl g.1, .inl g.2], rfl, ?_, rfl, ?_, fun x y => ?_⟩
    · have := sizeLine_eq
      omega
    · exact Nat.le_trans (put_len _ _ _) (by omega)
    · rw [put_has, hm, List.take_add_one, hg, Bool.eq_iff_iff]
      simp [Prod.ext_iff]
  rintro acc μ' ⟨rfl, hl, hm⟩ kd hkd
  rw [List.length_map, List.take_length] at hm
  rw [List.length_map] at hl
  walk_at "go"
  intro lf hlf
  have nfk : lf ≠ kd := none_ne hlf
  have sub0 : Sub μ' (((id μ').set kd (.dT acc)).set lf (.lst [])) := sub_new (sub_new Sub.refl hkd) hlf
  have hlf3 : (((id μ').set kd (.dT acc)).set lf (.lst [])) lf = some (.lst []) := set_same
  have hkd3 : (((id μ').set kd (.dT acc)).set lf (.lst [])) kd = some (.dT acc) := by rw [set_ne (Ne.symm nfk)]; exact set_same
  have hlf' : μ' lf = none := none_back hlf
  generalize (((id μ').set kd (.dT acc)).set lf (.lst [])) = μ3 at sub0 hlf3 hkd3 ⊢
  have hpins := pins_ok OK lv
  walk_at "go"
  refine s_forT ?_
  walk_at "go"
  refine ⟨fun i τ' μ4 => ∃ o6 o7 o8 o9 o10 : Option D, SubB lf μ3 μ4 ∧ μ4 lf = some (.lst ((((gOf w h rows lv).take i).flatMap (triF (spots w h rows) (pinsOf rows lv) (gOf w h rows lv))).map encT)) ∧
    τ' = [some (.ref b), some (.int lv), some (gatesD w h rows lv), some (.tup ((pinsOf rows lv).map D.int)), some (.ref kd), some (.ref lf), o6, o7, o8, o9, o10], _, rfl, ?_, ?_, ?_⟩
  · exact ⟨_, _, _, _, _, sb_refl, hlf3, rfl⟩
  · rintro i x τ' μ4 hx ⟨o6, o7, o8, o9, o10, sb, hf, rfl⟩
    rw [List.getElem?_map] at hx
    obtain ⟨g, hg, rfl⟩ := Option.map_eq_some_iff.mp hx
    have hgm := List.mem_of_getElem? hg
    obtain ⟨g1, g2, _⟩ := mem_pairs.mp (show (g.1, g.2) ∈ pairsOf (pinsOf rows lv) from pins_gates hgm)
    have hkd4 := sb kd _ (Ne.symm nfk) hkd3
    walk_at "go"
    refine s_forK ?_
    refine a_lc1 id (fun d => decide (g.2 < ofI d) && (decide ((g.1, ofI d) ∈ gOf w h rows lv) && decide ((g.2, ofI d) ∈ gOf w h rows lv))) (ai_T ?_)
    walk_at "go"
    refine ⟨?_, fun x hx => ?_, fun x hx _ => ?_, fun l2 hl2 => ?_⟩
    · have := hpins.1
      have := sizeLine_eq
      rw [List.length_map]
      omega
    · obtain ⟨r, hr, rfl⟩ := List.mem_map.mp hx
      walk_at "nf"
      walk_at "go"
      refine ite_d (fun k1 => ?_) (fun k1 => ?_)
      rotate_left
      · walk_at "go"
        exact ⟨by simp [ofI, k1], rfl⟩
      walk_at "go"
      refine a_din ?_
      walk_at "go"
      refine ⟨kd, _, rfl, .inr (.inl ⟨acc, [.inl g.1, .inl r], hkd4, rfl, rfl⟩), ?_⟩
      rw [hm]
      refine ⟨_, rfl, ?_⟩
      refine ite_d (fun k2 => ?_) (fun k2 => ?_)
      rotate_left
      · exact ⟨by simp [ofI, k2], rfl⟩
      walk_at "go"
      refine a_din ?_
      walk_at "go"
      refine ⟨kd, _, rfl, .inr (.inl ⟨acc, [.inl g.2, .inl r], hkd4, rfl, rfl⟩), ?_⟩
      rw [hm]
      exact ⟨_, rfl, (by simp [ofI, k1, k2]; exact decide_eq_decide.mpr Iff.rfl), rfl⟩
    · walk_at "nf"
      walk_at "go"
      exact ⟨rfl, rfl⟩
    rw [List.map_id]
    have e1 : ((pinsOf rows lv).map D.int).filter (fun d => decide (g.2 < ofI d) && (decide ((g.1, ofI d) ∈ gOf w h rows lv) && decide ((g.2, ofI d) ∈ gOf w h rows lv))) = ((pinsOf rows lv).filter fun r => decide (g.2 < r) && (decide ((g.1, r) ∈ gOf w h rows lv) && decide ((g.2, r) ∈ gOf w h rows lv))).map D.int :=
      filter_int (fun r => decide (g.2 < r) && (decide ((g.1, r) ∈ gOf w h rows lv) && decide ((g.2, r) ∈ gOf w h rows lv))) _
    rw [e1]
    have hrl := List.length_filter_le (fun r => decide (g.2 < r) && (decide ((g.1, r) ∈ gOf w h rows lv) && decide ((g.2, r) ∈ gOf w h rows lv))) (pinsOf rows lv)
    have hrm : ∀ r ∈ (pinsOf rows lv).filter fun r => decide (g.2 < r) && (decide ((g.1, r) ∈ gOf w h rows lv) && decide ((g.2, r) ∈ gOf w h rows lv)), r ∈ pinsOf rows lv := fun r hr => (List.mem_filter.mp hr).1
    have eF : triF (spots w h rows) (pinsOf rows lv) (gOf w h rows lv) g = (((pinsOf rows lv).filter fun r => decide (g.2 < r) && (decide ((g.1, r) ∈ gOf w h rows lv) && decide ((g.2, r) ∈ gOf w h rows lv))).map fun r => (g.1, g.2, r)).filter (emptyT (spots w h rows) (pinsOf rows lv)) := rfl
    generalize ((pinsOf rows lv).filter fun r => decide (g.2 < r) && (decide ((g.1, r) ∈ gOf w h rows lv) && decide ((g.2, r) ∈ gOf w h rows lv))) = rs at hrl hrm eF ⊢
    have hl2' : μ4 l2 = none := hl2
    have n2f : l2 ≠ lf := ne_of_some hl2' hf
    have bnd : (((gOf w h rows lv).take i).flatMap (triF (spots w h rows) (pinsOf rows lv) (gOf w h rows lv))).length ≤ 20 * 400 := by
      have h1 := flat_le (F := triF (spots w h rows) (pinsOf rows lv) (gOf w h rows lv)) (n := 20) (fun g => by
        have h1 := List.length_filter_le (emptyT (spots w h rows) (pinsOf rows lv)) (((pinsOf rows lv).filter fun r => decide (g.2 < r) && (decide ((g.1, r) ∈ gOf w h rows lv) && decide ((g.2, r) ∈ gOf w h rows lv))).map fun r => (g.1, g.2, r))
        have h2 := List.length_filter_le (fun r => decide (g.2 < r) && (decide ((g.1, r) ∈ gOf w h rows lv) && decide ((g.2, r) ∈ gOf w h rows lv))) (pinsOf rows lv)
        have h3 := hpins.1
        rw [List.length_map] at h1
        unfold triF
        omega) ((gOf w h rows lv).take i)
      rw [List.length_take] at h1
      omega
    refine ⟨l2, rs.map D.int, fun j τ2 μ2 => ∃ o8 : Option D, SubB lf (μ4.set l2 (.lst (rs.map D.int))) μ2 ∧ μ2 lf = some (.lst ((((gOf w h rows lv).take i).flatMap (triF (spots w h rows) (pinsOf rows lv) (gOf w h rows lv)) ++ ((rs.take j).map fun r => (g.1, g.2, r)).filter (emptyT (spots w h rows) (pinsOf rows lv))).map encT)) ∧
      τ2 = [some (.ref b), some (.int lv), some (gatesD w h rows lv), some (.tup ((pinsOf rows lv).map D.int)), some (.ref kd), some (.ref lf), some (.int g.1), some (.int g.2), o8, o9, o10], rfl, ?_, ?_, ?_, ?_⟩
    · exact ⟨_, sb_refl, by rw [set_ne (Ne.symm n2f)]; simpa using hf, rfl⟩
    · rintro j τ2 μ2 ⟨_, sb2, _, _⟩
      exact sb2 l2 _ n2f set_same
    · rintro j y τ2 μ2 hy ⟨o8', sb2, hf2, rfl⟩
      rw [List.getElem?_map] at hy
      obtain ⟨r, hr, rfl⟩ := Option.map_eq_some_iff.mp hy
      have hrp := hrm r (List.mem_of_getElem? hr)
      have hj := (List.getElem?_eq_some_iff.mp hr).1
      have sb3 : SubB lf μ3 μ2 := sb_trans (sb_new sb hl2') sb2
      have BR2 : Brd C_Board μ2 b w h rows l s sp kg kt := BR1.sub fun a m ea => sb3 a m (fun z => by rw [z, hlf'] at ea; cases ea) (sub0 a m ea)
      have ej : (rs.take (j + 1)) = rs.take j ++ [r] := by rw [List.take_add_one, hr]; rfl
      obtain ⟨dx2, gl2, tl2, _, hb2, _⟩ := id BR2
      walk_at "go"
      refine ⟨b, dx2, _, rfl, hb2, rfl, ?_⟩
      walk_at "go"
      refine ⟨b, w, h, rows, l, s, sp, kg, kt, (g.1, g.2, r), pinsOf rows lv, rfl, BR2, OK, hpins.2 _ g1, hpins.2 _ g2, hpins.2 _ hrp, hpins, ?_⟩
      refine ⟨_, rfl, ?_⟩
      cases et : emptyT (spots w h rows) (pinsOf rows lv) (g.1, g.2, r)
      · simp only [Bool.false_eq_true, if_false]
        walk_at "go"
        refine ⟨_, sb2, ?_, rfl⟩
        have e9 : ((rs.take j ++ [r]).map fun r => (g.1, g.2, r)).filter (emptyT (spots w h rows) (pinsOf rows lv)) = ((rs.take j).map fun r => (g.1, g.2, r)).filter (emptyT (spots w h rows) (pinsOf rows lv)) := by
          rw [List.map_append, List.filter_append]
          simp [et]
        rw [hf2, ej, e9]
      · simp only [if_true]
        walk_at "go"
        refine m_append (a := lf) (ds := (((gOf w h rows lv).take i).flatMap (triF (spots w h rows) (pinsOf rows lv) (gOf w h rows lv)) ++ ((rs.take j).map fun r => (g.1, g.2, r)).filter (emptyT (spots w h rows) (pinsOf rows lv))).map encT) ?_
        walk_at "go"
        refine ⟨rfl, ⟨_, hf2⟩, ?_⟩
        walk_at "go"
        refine ⟨hf2, ?_, _, sb_self sb2, ?_, rfl⟩
        · have h1 := List.length_filter_le (emptyT (spots w h rows) (pinsOf rows lv)) ((rs.take j).map fun r => (g.1, g.2, r))
          have h3 := hpins.1
          have := sizeLine_eq
          rw [List.length_map, List.length_take] at h1
          rw [List.length_map, List.length_append]
          omega
        · have e9 : ((rs.take j ++ [r]).map fun r => (g.1, g.2, r)).filter (emptyT (spots w h rows) (pinsOf rows lv)) = ((rs.take j).map fun r => (g.1, g.2, r)).filter (emptyT (spots w h rows) (pinsOf rows lv)) ++ [(g.1, g.2, r)] := by
            rw [List.map_append, List.filter_append]
            simp [et]
          rw [set_same, ej, e9]
          simp only [List.map_append, List.append_assoc, List.map_cons, List.map_nil]
    · rintro τ2 μ2 ⟨o8', sb2, hf2, rfl⟩
      rw [List.length_map, List.take_length] at hf2
      refine ⟨_, _, _, _, _, sb_trans (sb_new sb hl2') sb2, ?_, rfl⟩
      rw [hf2, List.take_add_one, hg, List.flatMap_append, ← eF]
      simp
  rintro τ' μ4 ⟨o6, o7, o8, o9, o10, sb, hf, rfl⟩
  rw [List.length_map, List.take_length] at hf
  walk_at "go"
  refine rc_tuple (seq_ref hf) ?_
  have sub4 : Sub μ' μ4 := fun a m ea => sb a m (fun z => by rw [z, hlf'] at ea; cases ea) (sub0 a m ea)
  refine qy μ4 (fun a m n1 n2 e => sub4 a m (s2 a m n1 n2 e)) ?_ (BR1.sub sub4)
  rw [sub4 _ _ hkt1, ← ek, hkt1]
def P_board_triangles (C T : Addr) : PT4 := fun ds μ Φ Ξ => ∃ b d w h rows l s sp kg kt, ds = [.ref b, d] ∧ Brd C μ b w h rows l s sp kg kt ∧ BOk w h rows l ∧ Kd μ d ∧ μ T = some (.tab Q_g) ∧
  (∀ lv μ', d = .int lv → 0 ≤ lv → lv < l → Sub2 kg kt μ μ' → Brd C μ' b w h rows l s sp kg kt → Φ (trisD w h rows lv) μ') ∧ (wi d 0 (l - 1) = false → ∀ dx, μ dx = none → Ξ "NoLayer" (some dx) (μ.set dx (.xd [("layer", d)])))
theorem len_board_triangles (C T : Addr) (ds : List D) (μ : M) (Φ : D → M → Prop) (Ξ : XW) (h : P_board_triangles C T ds μ Φ Ξ) : ds.length = 2 := by
  obtain ⟨_, _, _, _, _, _, _, _, _, _, rfl, _⟩ := h
  rfl
theorem ok_board_triangles {f : Addr} {fd : FuncData} (F : Fun K "triangles" "Board.triangles" s_board_triangles f fd) (B : Bs mg) {T_g : Addr} {C_Board : Addr} (K_Board : Cl_Board K C_Board) (G_board_found_triangles : Mth P w K mg base C_Board "found_triangles" ["self", "layer"] 8 (spI K (P_board_found_triangles C_Board T_g))) (G_board_look_layer : Mth P w K mg base C_Board "look_layer" ["self", "number"] 4 (spX K (xn mg) (P_board_look_layer C_Board))) : FnOk P w K mg base (L2.CX P w) 9 f fd ["self", "layer"] (spX K (xn mg) (P_board_triangles C_Board T_g)) := by
  refine F.okX sc_board_triangles (fun vs H Q E h => spX_len h (len_board_triangles C_Board T_g)) (fun cdv A outer s H vs Q E hr h => ?_)
  have hu65 := hu65_of hr
  refine ⟨_, (pss_cons (ps_expr (pe_mthX (takes_of rfl rfl rfl rfl) G_board_look_layer (hr.mono (by decide)) (pv 0) (pa_cons (pv 1) pa_nil)))
      (pss_cons (ps_if (pt_cmp (pc_dnotin (hu_of hr) (pv 1) (pe_fldK (K := K) rfl (pv 0) rfl))) (pss_one (ps_dput (hu_of hr) (pe_fldK (K := K) rfl (pv 0) rfl) (pv 1) (pe_mthN G_board_found_triangles (hr.mono (by decide)) (pv 0) (pa_cons (pv 1) pa_nil)) (by rfl))) pss_nil)
      (pss_one (ps_ret (pe_dget (hu_of hr) (pe_fldK (K := K) rfl (pv 0) rfl) (pv 1) (fun _ _ => rfl)))))), body_okX h (fun ds μ Φ Ξ p => ?_)⟩
  (try dsimp only [cxOf, Cx.nox, Cx.wish, List.map_cons, List.map_nil])
  obtain ⟨b, d, w, h, rows, l, s, sp, kg, kt, rfl, BR, OK, kd, hT, qy, qn⟩ := p
  obtain ⟨dx, gl, tl, lvs, hb, hsp, hkg, hkt⟩ := id BR
  show AS K _ [some _, some _] _ _
  walk_at "go"
  refine ⟨b, dx, _, rfl, hb, rfl, ?_⟩
  walk_at "go"
  refine ⟨b, d, w, h, rows, l, s, sp, kg, kt, rfl, BR, kd, fun h1 => ?_, fun h1 dx2 hdx2 => qn h1 dx2 hdx2⟩
  obtain ⟨lv, rfl, l0, l1⟩ := wi_int h1
  walk_at "go"
  have fin : ∀ (μ' : M) (tl' : List Int), Lvs l tl' → lv ∈ tl' → Sub2 kg kt μ μ' → (∃ dx gl, Lvs l gl ∧ μ' b = some (.ins C_Board dx [("wide", .int w), ("high", .int h), ("pin_rows", .tup (rows.map encR)), ("layer_count", .int l), ("apart_by", .int s), ("spots", .ref sp), ("kept_gates", .ref kg), ("kept_triangles", .ref kt)]) ∧ μ' sp = some (.lst ((spots w h rows).map encS)) ∧ μ' kg = some (.dK (gl.map fun lv => (Sum.inl lv, gatesD w h rows lv)))) → μ' kt = some (.dK (tl'.map fun lv => (Sum.inl lv, trisD w h rows lv))) → AE K (tDGet (tFld K (tVar 0) "kept_triangles") (tVar 1)) [some (.ref b), some (.int lv)] μ' Φ := fun μ' tl' lv' hm s2 ⟨dx', gl', lg, e1, e2, e3⟩ e4 => by
    have BR' : Brd C_Board μ' b w h rows l s sp kg kt := ⟨dx', gl', tl', ⟨lg, lv', lvs.2.2⟩, e1, e2, e3, e4⟩
    refine a_dget (a_fld ?_)
    walk_at "go"
    refine ⟨b, C_Board, dx', _, rfl, e1, K_Board.cls, K_Board.n_kept_triangles, _, rfl, ?_⟩
    walk_at "go"
    exact ⟨kt, _, rfl, .inl ⟨_, .inl lv, e4, rfl, (val_kept hm).symm⟩, qy lv μ' rfl l0 (by omega) s2 BR'⟩
  refine a_dnotin ?_
  walk_at "go"
  refine a_fld ?_
  walk_at "go"
  refine ⟨b, C_Board, dx, _, rfl, hb, K_Board.cls, K_Board.n_kept_triangles, _, rfl, ?_⟩
  refine ⟨kt, _, rfl, .inl ⟨_, .inl lv, hkt, rfl, rfl⟩, ?_⟩
  refine ⟨_, rfl, ?_⟩
  by_cases hm : lv ∈ tl
  · rw [val_kept hm]
    simp only [Option.isSome_some, Bool.not_true, Bool.false_eq_true, if_false]
    walk_at "go"
    exact fin μ tl lvs.2.1 hm s2_refl ⟨dx, gl, lvs.1, hb, hsp, hkg⟩ hkt
  · rw [val_off hm]
    simp only [Option.isSome_none, Bool.not_false, if_true]
    refine s_dput ?_
    walk_at "go"
    refine ⟨b, dx, _, rfl, hb, rfl, ?_⟩
    walk_at "go"
    refine ⟨b, lv, w, h, rows, l, s, sp, kg, kt, rfl, BR, OK, l0, by omega, hT, fun μ1 s2 ek BR1 => ?_⟩
    obtain ⟨dx1, gl1, tl1, lvs1, hb1, hsp1, hkg1, hkt1⟩ := id BR1
    rw [hkt] at ek
    refine a_fld ?_
    walk_at "go"
    refine ⟨b, C_Board, dx1, _, rfl, hb1, K_Board.cls, K_Board.n_kept_triangles, _, rfl, ?_⟩
    walk_at "go"
    have hgl := lvs_len lvs.2.1 OK.l1
    refine .inr ⟨_, .inl lv, ek, rfl, ?_, ?_⟩
    · rw [List.length_map]
      have := sizeLine_eq
      omega
    rw [putKD_new (val_off hm)]
    have d1 : b ≠ kt := fun z => by rw [z, hkt1] at hb1; cases hb1
    have d2 : sp ≠ kt := fun z => by rw [z, hkt1] at hsp1; cases hsp1
    have d3 : kg ≠ kt := lvs.2.2
    refine s_ret (fin _ (tl ++ [lv]) (lvs_snoc lvs.2.1 hm l0 (by omega)) (List.mem_append_right _ (List.mem_singleton.mpr rfl)) (fun a m na nt e => by rw [set_ne nt]; exact s2 a m na nt e) ⟨dx1, gl1, lvs1.1, by rw [set_ne d1]; exact hb1, by rw [set_ne d2]; exact hsp1, by rw [set_ne d3]; exact hkg1⟩ ?_)
    rw [set_same, List.map_append]
    rfl
theorem use_cell {μ : M} {Φ : D → M → Prop} {ns : List Int} {k : Int} (h : 0 ≤ k) (q : ∀ z, Φ (.int z) μ) : P_l_cell_at [.rol (ns.map D.int), .int k] μ Φ := ⟨ns, k, rfl, h, q⟩
theorem use_take {μ : M} {Φ : D → M → Prop} {b : Addr} {n c m : Int} (h : μ b = some (.lst [.int c, .int m])) (hm : BgOk m) (hn : 0 < n) (hz : Sz 4000 n) (q : ∀ d c' m', 0 ≤ d → d < n → Sz 4000 d → BgOk m' → Φ (.int d) (μ.set b (.lst [.int c', .int m']))) : P_l_take [.ref b, .int n] μ Φ := ⟨b, n, c, m, rfl, h, hm, hn, hz, q⟩
theorem prime_at {k : Int} (h0 : 0 ≤ k) (h1 : k < 9) : ∃ p : Int, atI [D.int 99991, D.int 99971, D.int 99961, D.int 99929, D.int 99923, D.int 99907, D.int 99901, D.int 99881, D.int 99877] k = some (.int p) ∧ 0 < p := by
  have h : k = 0 ∨ k = 1 ∨ k = 2 ∨ k = 3 ∨ k = 4 ∨ k = 5 ∨ k = 6 ∨ k = 7 ∨ k = 8 := by omega
  rcases h with h | h | h | h | h | h | h | h | h <;> subst h <;> exact ⟨_, rfl, by decide⟩
theorem ok_l_cell_at {f : Addr} {fd : FuncData} (F : Fun K "_law_cell_at" "_law_cell_at" s_l_cell_at f fd) (B : Bs mg) : FnOk P w K mg base CX0 1 f fd ["_law_script", "_law_k"] (spI K P_l_cell_at) := by
  refine F.ok sc_l_cell_at (fun vs H Q E h => spI_len h len_l_cell_at) (fun cdv A outer s H vs Q E hr h => ?_)
  have hu65 := hu65_of hr
  refine ⟨_, (pss_cons (ps_if (pt_cmpR op_lt (pv 1) (pe_callB (call_lenK (K := K) rfl) (by rfl) B.b_len (by decide +kernel) (pa_cons (pv 0) pa_nil)) (by first | exact nomark _ | rfl)) (pss_one (ps_ret (pe_ix (ix_seqK (K := K) rfl) (pv 0) (pv 1) (fun _ _ => rfl)))) pss_nil)
      (pss_one (ps_ret pe_int))), body_ok h (fun ds μ Φ p => ?_)⟩
  (try dsimp only [cxOf, Cx.nox, Cx.wish, List.map_cons, List.map_nil])
  obtain ⟨ns, k, rfl, h0, q⟩ := p
  show AS K _ [some _, some _] _ _
  walk_at "go"
  refine ite_d (fun h => ?_) (fun h => ?_)
  · obtain ⟨z, hz⟩ := map_get (ns := ns) h0 (by simpa using h)
    walk_at "go"
    refine ro_ix rfl hz ?_
    exact q z
  · walk_at "go"
    exact q 0
theorem ok_l_bag {f : Addr} {fd : FuncData} (F : Fun K "_law_bag" "_law_bag" s_l_bag f fd) (B : Bs mg) (G_l_cell_at : Def P w K mg base "_law_cell_at" ["_law_script", "_law_k"] 1 (spI K P_l_cell_at)) : FnOk P w K mg base CX0 2 f fd ["_law_script", "_law_at"] (spI K P_l_bag) := by
  refine F.ok sc_l_bag (fun vs H Q E h => spI_len h len_l_bag) (fun cdv A outer s H vs Q E hr h => ?_)
  have hu65 := hu65_of hr
  refine ⟨_, (pss_cons (ps_set (i := 2) sc_l_bag.nd rfl (by first | exact Or.inl rfl | exact Or.inr rfl) (pe_tup (pa_cons pe_int (pa_cons pe_int (pa_cons pe_int (pa_cons pe_int (pa_cons pe_int (pa_cons pe_int (pa_cons pe_int (pa_cons pe_int (pa_cons pe_int pa_nil)))))))))))
      (pss_cons (ps_set (i := 3) sc_l_bag.nd rfl (by first | exact Or.inl rfl | exact Or.inr rfl) (pe_def G_l_cell_at (hr.mono (by decide)) (by rfl) (pa_cons (pv 0) (pa_cons (pv 1) pa_nil))))
      (pss_cons (ps_set (i := 4) sc_l_bag.nd rfl (by first | exact Or.inl rfl | exact Or.inr rfl) (pe_op op_add (pe_op op_mulW pe_int (pv 1)) pe_int))
      (pss_cons (ps_for PassesOwn.never rfl (pi_range1 (by rfl) B.b_range (pa_cons pe_int pa_nil)) (pg_name (i := 5) sc_l_bag.nd rfl (by first | exact Or.inl rfl | exact Or.inr rfl))
      (pss_cons (ps_set (i := 6) sc_l_bag.nd rfl (by first | exact Or.inl rfl | exact Or.inr rfl) (pe_op op_add (pe_op op_add (pe_op op_mod (pe_def G_l_cell_at (hr.mono (by decide)) (by rfl) (pa_cons (pv 0) (pa_cons (pe_op op_add (pv 1) (pv 5)) pa_nil))) (pe_op op_pow pe_int pe_int)) (pe_op op_mulW pe_int (pv 5))) pe_int))
      (pss_one (ps_set (i := 4) sc_l_bag.nd rfl (by first | exact Or.inl rfl | exact Or.inr rfl) (pe_op op_mod (pe_op op_add (pe_op op_mulW (pv 4) pe_int) (pe_op op_mod (pe_op op_pow (pv 6) pe_int) (pe_ix (ix_seqK (K := K) rfl) (pv 2) (pv 5) (fun _ _ => rfl)))) pe_int)))))
      (pss_cons (ps_if (pt_cmpR op_lt (pv 3) (pe_op op_pow pe_int pe_int) (by first | exact nomark _ | rfl)) (pss_one (ps_set (i := 3) sc_l_bag.nd rfl (by first | exact Or.inl rfl | exact Or.inr rfl) pe_int)) pss_nil)
      (pss_one (ps_ret (pe_lst (pa_cons (pv 3) (pa_cons (pe_op op_add (pv 4) pe_int) pa_nil)))))))))), body_ok h (fun ds μ Φ p => ?_)⟩
  (try dsimp only [cxOf, Cx.nox, Cx.wish, List.map_cons, List.map_nil])
  obtain ⟨ns, k, rfl, h0, h1, q⟩ := p
  show AS K _ [some _, some _, none, none, none, none, none] _ _
  have sk : Sz 31 k := by unfold Sz; omega
  walk_at "go"
  refine use_cell h0 fun cell => ?_
  walk_at "go"
  refine s_for1 9 (fun i τ' μ' => μ' = μ ∧ ∃ (mix : Int) (o5 o6 : Option D), τ' = [some (.rol (ns.map D.int)), some (.int k), some (.tup [D.int 99991, D.int 99971, D.int 99961, D.int 99929, D.int 99923, D.int 99907, D.int 99901, D.int 99881, D.int 99877]), some (.int cell), some (.int mix), o5, o6] ∧ 0 ≤ mix ∧ mix < 2147483629) ?_ ?_ ?_
  · walk_at "go"
    exact ⟨rfl, by decide, by decide, rfl, 7919 * k + 29, none, none, rfl, by omega, by omega⟩
  · rintro i τ' μ' hi ⟨rfl, mix, o5, o6, rfl, m0, m1⟩
    have sm : Sz 31 mix := by unfold Sz; omega
    have si : Sz 31 (i : Int) := by unfold Sz; omega
    obtain ⟨pr, hp, hp0⟩ := prime_at (k := (i : Int)) (by omega) hi
    walk_at "go"
    refine use_cell (by omega) fun z => ?_
    walk_at "go"
    refine ro_ix rfl hp ?_
    walk_at "go"
    exact ⟨rfl, _, _, _, rfl, Int.emod_nonneg _ (by decide), Int.emod_lt_of_pos _ (by decide)⟩
  · rintro τ' μ' ⟨rfl, mix, o5, o6, rfl, m0, m1⟩
    walk_at "go"
    refine ite_d (fun h => ?_) (fun h => ?_)
    · walk_at "go"
      exact fun a ha => q a _ _ ha ⟨by omega, by omega⟩
    · walk_at "go"
      exact fun a ha => q a _ _ ha ⟨by omega, by omega⟩
theorem ok_l_take {f : Addr} {fd : FuncData} (F : Fun K "_law_take" "_law_take" s_l_take f fd) (B : Bs mg) : FnOk P w K mg base CX0 1 f fd ["_law_bag_here", "_law_many"] (spI K P_l_take) := by
  refine F.ok sc_l_take (fun vs H Q E h => spI_len h len_l_take) (fun cdv A outer s H vs Q E hr h => ?_)
  have hu65 := hu65_of hr
  refine ⟨_, (pss_cons (ps_if (pt_cmpR op_gt (pe_ix (ix_seqK (K := K) rfl) (pv 0) pe_int (fun _ _ => rfl)) pe_int (by first | exact nomark _ | rfl)) (pss_cons (ps_set (i := 2) sc_l_take.nd rfl (by first | exact Or.inl rfl | exact Or.inr rfl) (pe_op op_mod (pe_ix (ix_seqK (K := K) rfl) (pv 0) pe_int (fun _ _ => rfl)) (pv 1)))
      (pss_cons (ps_asg (pe_op op_fdivW (pe_ix (ix_seqK (K := K) rfl) (pv 0) pe_int (fun _ _ => rfl)) (pv 1)) (pg_sub (pv 0) pe_int set_list))
      (pss_one (ps_ret (pv 2))))) pss_nil)
      (pss_cons (ps_asg (pe_op op_mod (pe_op op_mulW (pe_ix (ix_seqK (K := K) rfl) (pv 0) pe_int (fun _ _ => rfl)) pe_int) pe_int) (pg_sub (pv 0) pe_int set_list))
      (pss_one (ps_ret (pe_op op_mod (pe_op op_mod (pe_op op_mod (pe_op op_pow (pe_ix (ix_seqK (K := K) rfl) (pv 0) pe_int (fun _ _ => rfl)) pe_int) pe_int) pe_int) (pv 1)))))), body_ok h (fun ds μ Φ p => ?_)⟩
  (try dsimp only [cxOf, Cx.nox, Cx.wish, List.map_cons, List.map_nil])
  obtain ⟨b, n, c, m, rfl, hb, hm, hn, hz, q⟩ := p
  show AS K _ [some _, some _, none] _ _
  have sm : Sz 31 m := by unfold Sz; have := hm.1; have := hm.2; omega
  walk_at "go"
  refine ite_d (fun h => ?_) (fun h => ?_)
  · walk_at "go"
    exact q _ _ _ (Int.emod_nonneg _ (by omega)) (Int.emod_lt_of_pos _ hn) (sz_mod hn hz) hm
  · walk_at "go"
    exact q _ _ _ (Int.emod_nonneg _ (by omega)) (Int.emod_lt_of_pos _ hn) (sz_mod hn hz) ⟨Int.emod_nonneg _ (by decide), by have := Int.emod_lt_of_pos (m * 48271) (show (0 : Int) < 2147483647 by decide); omega⟩
theorem use_bag {μ : M} {Φ : D → M → Prop} {ns : List Int} {k : Int} (h0 : 0 ≤ k) (h1 : k ≤ 1000) (q : ∀ p c m, μ p = none → BgOk m → Φ (.ref p) (μ.set p (.lst [.int c, .int m]))) : P_l_bag [.rol (ns.map D.int), .int k] μ Φ := ⟨ns, k, rfl, h0, h1, q⟩
/-- what a law has drawn for a board -/
structure Made (w h : Int) (rows : List R4) (fl gap : Int) : Prop where
  ok : ab (.int w) (.int h) (.tup (rows.map encR)) (.int fl) (.int gap) = true
  w1 : w ≤ 900000
  h1 : h ≤ 900000
  g1 : gap ≤ 900000
def P_l_made : PT3 := fun ds μ Φ => ∃ (b : Addr) (most c m : Int), ds = [.ref b, .int most] ∧ μ b = some (.lst [.int c, .int m]) ∧ BgOk m ∧ 0 ≤ most ∧ most ≤ 16 ∧ ∀ w h rows fl gap c' m', Made w h rows fl gap → BgOk m' →
  Φ (.tup [.int w, .int h, .tup (rows.map encR), .int fl, .int gap]) (μ.set b (.lst [.int c', .int m']))
theorem len_l_made (ds : List D) (μ : M) (Φ : D → M → Prop) (h : P_l_made ds μ Φ) : ds.length = 2 := by
  obtain ⟨_, _, _, _, rfl, _⟩ := h
  rfl
theorem use_made {μ : M} {Φ : D → M → Prop} {b : Addr} {most c m : Int} (h : μ b = some (.lst [.int c, .int m])) (hm : BgOk m) (h0 : 0 ≤ most) (h1 : most ≤ 16) (q : ∀ w h rows fl gap c' m', Made w h rows fl gap → BgOk m' → Φ (.tup [.int w, .int h, .tup (rows.map encR), .int fl, .int gap]) (μ.set b (.lst [.int c', .int m']))) :
    P_l_made [.ref b, .int most] μ Φ := ⟨b, most, c, m, rfl, h, hm, h0, h1, q⟩
abbrev ent (r : R4) : List Key × D := ([.inl r.1, .inl r.2.1], .tup [.int r.2.2.1, .int r.2.2.2])
theorem ent_none {x y : Int} : ∀ {rows : List R4}, valD (rows.map ent) [.inl x, .inl y] = none → [x, y] ∉ rows.map (fun r => [r.1, r.2.1])
  | [], _, h => by simp at h
  | r :: rows, h, z => by
    rw [List.map_cons, valD_cons] at h
    by_cases e : (ent r).1 = [.inl x, .inl y]
    · rw [if_pos e] at h; cases h
    · rw [if_neg e] at h
      rcases List.mem_cons.mp z with z | z
      · simp only [List.cons.injEq, and_true] at z
        exact e (by simp [ent, z.1, z.2])
      · exact ent_none h z
theorem ent_at : ∀ {rows : List R4} {i : Nat} {r : R4}, (rows.map fun r => [r.1, r.2.1]).Nodup → rows[i]? = some r → valD (rows.map ent) (ent r).1 = some (ent r).2
  | [], i, r, _, h => by simp at h
  | s :: rows, 0, r, _, h => by
    simp at h
    subst h
    rw [List.map_cons, valD_cons, if_pos rfl]
  | s :: rows, i + 1, r, hn, h => by
    rw [List.map_cons, List.nodup_cons] at hn
    have h2 : rows[i]? = some r := by simpa using h
    have ne : ¬ (ent s).1 = (ent r).1 := fun e => by
      simp [ent] at e
      exact hn.1 (List.mem_map.mpr ⟨r, List.mem_of_getElem? h2, by rw [e.1, e.2]⟩)
    rw [List.map_cons, valD_cons, if_neg ne]
    exact ent_at hn.2 h2
/-- the rows so far -/
structure Rws (w h fl : Int) (rows : List R4) : Prop where
  ok : ∀ r ∈ rows, (0 < r.1 ∧ r.1 < w) ∧ (0 < r.2.1 ∧ r.2.1 < h) ∧ 0 ≤ r.2.2.1 ∧ r.2.2.1 ≤ r.2.2.2 ∧ r.2.2.2 < fl
  nd : (rows.map fun r => [r.1, r.2.1]).Nodup
theorem Rws.more {w h fl : Int} {rows : List R4} {x y f g : Int} (a : Rws w h fl rows) (n : [x, y] ∉ rows.map (fun r => [r.1, r.2.1])) (hx : 0 < x ∧ x < w) (hy : 0 < y ∧ y < h) (h0 : 0 ≤ f) (h1 : f ≤ g) (h2 : g < fl) : Rws w h fl (rows ++ [(x, y, f, g)]) := by
  refine ⟨fun r hr => ?_, ?_⟩
  · rcases List.mem_append.mp hr with z | z
    · exact a.ok r z
    · rw [List.mem_singleton.mp z]; exact ⟨hx, hy, h0, h1, h2⟩
  · rw [List.map_append, List.nodup_append]
    refine ⟨a.nd, by simp, fun k hk j hj e => ?_⟩
    simp at hj
    subst hj e
    exact n hk
theorem Rws.made {w h fl gap : Int} {rows : List R4} (a : Rws w h fl rows) (hl : rows.length ≤ 16) (w0 : 2 ≤ w) (w1 : w ≤ 900000) (h0 : 2 ≤ h) (h1 : h ≤ 900000) (f0 : 1 ≤ fl) (f1 : fl ≤ 3) (g0 : 1 ≤ gap) (g1 : gap ≤ 900000) : Made w h rows fl gap := by
  refine ⟨?_, w1, h1, g1⟩
  have g2 : gap ≤ 1000000 := by omega
  have e1 : ((rows.map encR).all fun r => pr r w h fl) = true := by
    rw [List.all_eq_true]
    intro d hd
    obtain ⟨r, hr, rfl⟩ := List.mem_map.mp hd
    obtain ⟨k1, k2, k3, k4, k5⟩ := a.ok r hr
    simp [pr, k1, k2, k3, k4, k5]
  have e2 : ((rows.map encR).map spot).Nodup := by
    rw [List.map_map]
    exact a.nd
  have z1 : w ≤ 1000000 := by omega
  have z2 : h ≤ 1000000 := by omega
  simp only [ab, wi, e1, e2, w0, z1, h0, z2, f0, f1, g0, g2, List.length_map, hl, decide_true, Bool.and_true]
theorem pick3 {d : Int} (h0 : 0 ≤ d) (h1 : d < 3) : ∃ z : Int, atI [D.int 1, D.int 3, D.int 100000] d = some (.int z) ∧ 0 < z ∧ z ≤ 100000 := by
  have h : d = 0 ∨ d = 1 ∨ d = 2 := by omega
  rcases h with h | h | h <;> subst h <;> exact ⟨_, rfl, by decide, by decide⟩
theorem pickD {d : Int} (a c : D) (h0 : 0 ≤ d) (h1 : d < 2) : ∃ z : D, atI [a, c] d = some z ∧ (z = a ∨ z = c) := by
  have h : d = 0 ∨ d = 1 := by omega
  rcases h with h | h <;> subst h
  · exact ⟨a, rfl, .inl rfl⟩
  · exact ⟨c, rfl, .inr rfl⟩
/-- a * d lies below a * n -/
theorem mul_in {a d n : Int} (ha : 0 < a) (h0 : 1 ≤ d) (h1 : d < n) : 0 < a * d ∧ a * d < a * n := ⟨Int.mul_pos ha (by omega), Int.mul_lt_mul_of_pos_left h1 ha⟩
/-- between the turns of _law_made -/
def MdT (b pd : Addr) (μ0 : M) (W H fl : Int) (pre : T) (k : Nat) : T → M → Prop := fun τ' μ' => ∃ (rows : List R4) (c m : Int) (o9 o10 o11 o12 : Option D), μ' b = some (.lst [.int c, .int m]) ∧ BgOk m ∧ μ' pd = some (.dT (rows.map ent)) ∧ SubB b μ0 μ' ∧ rows.length ≤ k ∧ Rws W H fl rows ∧ τ' = pre ++ [some (.ref pd), o9, o10, o11, o12]
/-- within a turn: the place is drawn -/
def MdC (b pd : Addr) (μ0 : M) (W H : Int) (rows : List R4) (pre : T) (i : D) (o11 o12 : Option D) : T → M → Prop := fun τ' μ' => ∃ x y c m : Int, (0 < x ∧ x < W) ∧ (0 < y ∧ y < H) ∧ μ' b = some (.lst [.int c, .int m]) ∧ BgOk m ∧ μ' pd = some (.dT (rows.map ent)) ∧ SubB b μ0 μ' ∧ τ' = pre ++ [some (.ref pd), some i, some (pt x y), o11, o12]
theorem ok_l_made {f : Addr} {fd : FuncData} (F : Fun K "_law_made" "_law_made" s_l_made f fd) (B : Bs mg) (G_l_take : Def P w K mg base "_law_take" ["_law_bag_here", "_law_many"] 1 (spI K P_l_take)) : FnOk P w K mg base CX0 3 f fd ["_law_bag_here", "_law_most"] (spI K P_l_made) := by
  refine F.ok sc_l_made (fun vs H Q E h => spI_len h len_l_made) (fun cdv A outer s H vs Q E hr h => ?_)
  have hu65 := hu65_of hr
  refine ⟨_, (pss_cons (ps_set (i := 2) sc_l_made.nd rfl (by first | exact Or.inl rfl | exact Or.inr rfl) (pe_def G_l_take (hr.mono (by decide)) (by rfl) (pa_cons (pv 0) (pa_cons pe_int pa_nil))))
      (pss_cons (ps_par (i := 3) (j := 4) rfl sc_l_made.nd rfl rfl (by decide) rfl rfl (pa_cons (pe_op op_add pe_int (pe_def G_l_take (hr.mono (by decide)) (by rfl) (pa_cons (pv 0) (pa_cons pe_int pa_nil)))) (pa_cons (pe_op op_add pe_int (pe_def G_l_take (hr.mono (by decide)) (by rfl) (pa_cons (pv 0) (pa_cons pe_int pa_nil)))) pa_nil)) (by rfl))
      (pss_cons (ps_set (i := 5) sc_l_made.nd rfl (by first | exact Or.inl rfl | exact Or.inr rfl) (pe_ix (ix_seqK (K := K) rfl) (pe_lst (pa_cons pe_int (pa_cons pe_int (pa_cons pe_int pa_nil)))) (pe_def G_l_take (hr.mono (by decide)) (by rfl) (pa_cons (pv 0) (pa_cons pe_int pa_nil))) (fun _ _ => rfl)))
      (pss_cons (ps_par (i := 6) (j := 7) rfl sc_l_made.nd rfl rfl (by decide) rfl rfl (pa_cons (pe_op op_add pe_int (pe_def G_l_take (hr.mono (by decide)) (by rfl) (pa_cons (pv 0) (pa_cons (pe_op op_sub (pv 4) pe_int) pa_nil)))) (pa_cons (pe_op op_add pe_int (pe_def G_l_take (hr.mono (by decide)) (by rfl) (pa_cons (pv 0) (pa_cons pe_int pa_nil)))) pa_nil)) (by rfl))
      (pss_cons (ps_set (i := 8) sc_l_made.nd rfl (by first | exact Or.inl rfl | exact Or.inr rfl) pe_dnewT)
      (pss_cons (ps_for PassesOwn.never rfl (pi_range1 (by rfl) B.b_range (pa_cons (pe_def G_l_take (hr.mono (by decide)) (by rfl) (pa_cons (pv 0) (pa_cons (pe_op op_add (pv 1) pe_int) pa_nil))) pa_nil)) (pg_name (i := 9) sc_l_made.nd rfl (by first | exact Or.inl rfl | exact Or.inr rfl))
      (pss_cons (ps_set (i := 10) sc_l_made.nd rfl (by first | exact Or.inl rfl | exact Or.inr rfl) (pe_tup (pa_cons (pe_op op_mulW (pv 5) (pe_op op_add pe_int (pe_def G_l_take (hr.mono (by decide)) (by rfl) (pa_cons (pv 0) (pa_cons (pe_op op_sub (pv 3) pe_int) pa_nil))))) (pa_cons (pe_op op_mulW (pv 5) (pe_op op_add pe_int (pe_def G_l_take (hr.mono (by decide)) (by rfl) (pa_cons (pv 0) (pa_cons (pe_op op_sub (pv 4) pe_int) pa_nil))))) pa_nil))))
      (pss_cons (ps_if (pt_cmpR op_eq (pv 2) pe_int (by first | exact nomark _ | rfl)) (pss_one (ps_set (i := 10) sc_l_made.nd rfl (by first | exact Or.inl rfl | exact Or.inr rfl) (pe_tup (pa_cons (pe_ix (ix_seqK (K := K) rfl) (pv 10) pe_int (fun _ _ => rfl)) (pa_cons (pe_op op_mulW (pv 5) (pv 6)) pa_nil))))) pss_nil)
      (pss_cons (ps_if (pt_cmpR op_eq (pv 2) pe_int (by first | exact nomark _ | rfl)) (pss_one (ps_set (i := 10) sc_l_made.nd rfl (by first | exact Or.inl rfl | exact Or.inr rfl) (pe_tup (pa_cons (pe_op op_add pe_int (pe_def G_l_take (hr.mono (by decide)) (by rfl) (pa_cons (pv 0) (pa_cons (pe_op op_sub (pe_op op_mulW (pv 5) (pv 3)) pe_int) pa_nil)))) (pa_cons (pe_op op_add pe_int (pe_def G_l_take (hr.mono (by decide)) (by rfl) (pa_cons (pv 0) (pa_cons (pe_op op_sub (pe_op op_mulW (pv 5) (pv 4)) pe_int) pa_nil)))) pa_nil))))) pss_nil)
      (pss_cons (ps_if (pt_cmpR op_eq (pv 2) pe_int (by first | exact nomark _ | rfl)) (pss_one (ps_set (i := 10) sc_l_made.nd rfl (by first | exact Or.inl rfl | exact Or.inr rfl) (pe_tup (pa_cons (pe_ix (ix_seqK (K := K) rfl) (pv 10) pe_int (fun _ _ => rfl)) (pa_cons (pe_ix (ix_seqK (K := K) rfl) (pe_lst (pa_cons pe_int (pa_cons (pe_op op_sub (pe_op op_mulW (pv 5) (pv 4)) pe_int) pa_nil))) (pe_def G_l_take (hr.mono (by decide)) (by rfl) (pa_cons (pv 0) (pa_cons pe_int pa_nil))) (fun _ _ => rfl)) pa_nil))))) pss_nil)
      (pss_cons (ps_set (i := 11) sc_l_made.nd rfl (by first | exact Or.inl rfl | exact Or.inr rfl) (pe_op op_mulW (pe_def G_l_take (hr.mono (by decide)) (by rfl) (pa_cons (pv 0) (pa_cons (pv 7) pa_nil))) (pe_def G_l_take (hr.mono (by decide)) (by rfl) (pa_cons (pv 0) (pa_cons pe_int pa_nil)))))
      (pss_one (ps_if (pt_cmp (pc_dnotin (hu_of hr) (pv 10) (pv 8))) (pss_one (ps_dput (hu_of hr) (pv 8) (pv 10) (pe_tup (pa_cons (pv 11) (pa_cons (pe_op op_add (pv 11) (pe_def G_l_take (hr.mono (by decide)) (by rfl) (pa_cons (pv 0) (pa_cons (pe_op op_sub (pv 7) (pv 11)) pa_nil)))) pa_nil))) (by rfl))) pss_nil))))))))
      (pss_cons (ps_set (i := 12) sc_l_made.nd rfl (by first | exact Or.inl rfl | exact Or.inr rfl) (pe_callTy (call_tupleK (K := K) rfl) (by rfl) B.b_tuple (by decide +kernel) (pa_cons (pe_lock (pe_lc (own := [("_law_spot", 10)]) (g := gName 10) (tt := tYes) rfl sc_l_made.nd (pi_keys (pv 8)) (blkOk_by (own := [("_law_spot", 10)]) (N := N_l_made) (sc := defScope s_l_made) (by decide +kernel)) (fun _ _ _ _ _ => (pg_name (i := 10) sc_l_made.nd rfl (by first | exact Or.inl rfl | exact Or.inr rfl))) (fun _ _ _ _ _ => pts_nil) (fun _ _ _ _ _ => (pe_op (op_catAK (K := K) rfl) (pv 10) (pe_dget (hu_of hr) (pv 8) (pv 10) (fun _ _ => rfl)))))) pa_nil)))
      (pss_one (ps_ret (pe_tup (pa_cons (pe_op op_mulW (pv 5) (pv 3)) (pa_cons (pe_op op_mulW (pv 5) (pv 4)) (pa_cons (pv 12) (pa_cons (pv 7) (pa_cons (pe_op op_add pe_int (pe_def G_l_take (hr.mono (by decide)) (by rfl) (pa_cons (pv 0) (pa_cons (pe_ix (ix_seqK (K := K) rfl) (pe_lst (pa_cons pe_int (pa_cons (pv 5) pa_nil))) (pe_def G_l_take (hr.mono (by decide)) (by rfl) (pa_cons (pv 0) (pa_cons pe_int pa_nil))) (fun _ _ => rfl)) pa_nil)))) pa_nil))))))))))))))), body_okU h (fun ds μ Φ p => ?_)⟩
  (try dsimp only [cxOf, Cx.nox, Cx.wish, List.map_cons, List.map_nil])
  obtain ⟨b, most, c, m, rfl, hb, hm, mo0, mo1, q⟩ := p
  show AS K _ [some _, some _, none, none, none, none, none, none, none, none, none, none, none] _ _
  walk_at "go"
  refine use_take hb hm (by decide) (by walk_at "szN") fun way c1 m1 a1 a2 s1 hm1 => ?_
  walk_at "go"
  refine use_take set_same hm1 (by decide) (by walk_at "szN") fun d2 c2 m2 b1 b2 s2 hm2 => ?_
  walk_at "go"
  refine use_take set_same hm2 (by decide) (by walk_at "szN") fun d3 c3 m3 e1 e2 s3 hm3 => ?_
  walk_at "go"
  rw [set_set, set_set]
  generalize hwd : 2 + d2 = wide
  generalize hhi : 2 + d3 = high
  have w0 : 2 ≤ wide ∧ wide ≤ 9 := by omega
  have h0 : 2 ≤ high ∧ high ≤ 9 := by omega
  have zw : Sz 8 wide := by unfold Sz; omega
  have zh : Sz 8 high := by unfold Sz; omega
  intro l hl
  have hlb : l ≠ b := none_ne hl
  walk_at "go"
  refine use_take (by walk_at "mu") hm3 (by decide) (by walk_at "szN") fun d4 c4 m4 f1 f2 s4 hm4 => ?_
  obtain ⟨sc, k1, sc0, sc1⟩ := pick3 f1 f2
  have zs : Sz 20 sc := by unfold Sz; omega
  walk_at "go"
  refine ro_ix (seq_ref (by walk_at "mu")) k1 ?_
  walk_at "go"
  refine use_take (by walk_at "mu") hm4 (by omega) (by walk_at "szN") fun d5 c5 m5 g1 g2 s5 hm5 => ?_
  walk_at "go"
  refine use_take (by walk_at "mu") hm5 (by decide) (by walk_at "szN") fun d6 c6 m6 i1 i2 s6 hm6 => ?_
  walk_at "go"
  generalize hrw : 1 + d5 = rw0
  generalize hfl : 1 + d6 = fl
  have r0 : 1 ≤ rw0 ∧ rw0 < high := by omega
  have f0 : 1 ≤ fl ∧ fl ≤ 3 := by omega
  have zr : Sz 8 rw0 := by unfold Sz; omega
  have zf : Sz 8 fl := by unfold Sz; omega
  refine a_dnewT fun pd hpd => ?_
  walk_at "go"
  have hpb : pd ≠ b := by
    intro z
    subst z
    have := hpd
    simp [set_same] at this
  have hpn : μ pd = none := none_back (none_back (none_back (none_back (none_back hpd))))
  refine s_for (ai_1 ?_)
  walk_at "go"
  refine use_take (by walk_at "mu") hm6 (by omega) (sz_mono (show Sz 8 (most + 1) by unfold Sz; omega) (by decide)) fun d7 c7 m7 j1 j2 s7 hm7 => ?_
  walk_at "go"
  have zsc : Sz 30 (sc * wide) ∧ Sz 30 (sc * high) := ⟨by walk_at "szN", by walk_at "szN"⟩
  have d7m : d7 ≤ most := by omega
  have bw : 2 ≤ sc * wide ∧ sc * wide ≤ 900000 ∧ 2 ≤ sc * high ∧ sc * high ≤ 900000 := by
    have q1 : 1 * wide ≤ sc * wide := Int.mul_le_mul_of_nonneg_right (by omega) (by omega)
    have q2 : sc * wide ≤ 100000 * wide := Int.mul_le_mul_of_nonneg_right sc1 (by omega)
    have q3 : 1 * high ≤ sc * high := Int.mul_le_mul_of_nonneg_right (by omega) (by omega)
    have q4 : sc * high ≤ 100000 * high := Int.mul_le_mul_of_nonneg_right sc1 (by omega)
    omega
  refine ⟨by omega, by omega, MdT b pd μ (sc * wide) (sc * high) fl [some (.ref b), some (.int most), some (.int way), some (.int wide), some (.int high), some (.int sc), some (.int rw0), some (.int fl)], ?_, ?_, ?_⟩
  · exact ⟨[], _, _, none, none, none, none, set_same, hm7, by walk_at "mu", sb_self (sb_new (sb_self (sb_self (sb_self (sb_new (sb_self sb_refl) hl)))) hpd), Nat.zero_le _, ⟨fun r hr => (by cases hr), List.nodup_nil⟩, rfl⟩
  · rintro i it τ' μ' hx ⟨rows, c8, m8, o9, o10, o11, o12, hb8, hm8, hp8, sb8, hl8, R8, rfl⟩
    have hi : i < d7.toNat := by
      have := (List.getElem?_eq_some_iff.mp hx).1
      simpa using this
    clear hx hl
    dsimp only [List.cons_append, List.nil_append]
    walk_at "go"
    refine use_take hb8 hm8 (by omega) (by walk_at "szN") fun d8 c9 m9 t1 t2 t3 hm9 => ?_
    have zd8 : Sz 8 d8 := by unfold Sz; omega
    walk_at "go"
    refine use_take set_same hm9 (by omega) (by walk_at "szN") fun d9 c10 m10 u1 u2 u3 hm10 => ?_
    have zd9 : Sz 8 d9 := by unfold Sz; omega
    walk_at "go"
    have x1 := mul_in (a := sc) (d := 1 + d8) (n := wide) sc0 (by omega) (by omega)
    have x2 := mul_in (a := sc) (d := 1 + d9) (n := high) sc0 (by omega) (by omega)
    have x3 := mul_in (a := sc) (d := rw0) (n := high) sc0 (by omega) (by omega)
    refine if_cut (MdC b pd μ (sc * wide) (sc * high) rows [some (.ref b), some (.int most), some (.int way), some (.int wide), some (.int high), some (.int sc), some (.int rw0), some (.int fl)] it o11 o12) (fun _ => ?_) (fun _ => ?_) ?_
    · walk_at "go"
      exact ⟨_, _, _, _, x1, x3, set_same, hm10, by walk_at "mu", sb_self (sb_self sb8), rfl⟩
    · walk_at "go"
      exact ⟨_, _, _, _, x1, x2, set_same, hm10, by walk_at "mu", sb_self (sb_self sb8), rfl⟩
    clear x1 x2 x3 hb8 hp8 sb8
    rintro τ1 μ1 ⟨x, y, c1, m1, bx, by_, hb1, hm1, hp1, sb1, rfl⟩
    dsimp only [List.cons_append, List.nil_append]
    walk_at "go"
    refine if_cut (MdC b pd μ (sc * wide) (sc * high) rows [some (.ref b), some (.int most), some (.int way), some (.int wide), some (.int high), some (.int sc), some (.int rw0), some (.int fl)] it o11 o12) (fun _ => ?_) (fun _ => ?_) ?_
    · walk_at "go"
      refine use_take hb1 hm1 (by omega) (sz_mono (sz_sub zsc.1 (sz_2 (by decide))) (by decide)) fun e8 c9 m9 t1 t2 t3 hm9 => ?_
      walk_at "go"
      refine use_take set_same hm9 (by omega) (sz_mono (sz_sub zsc.2 (sz_2 (by decide))) (by decide)) fun e9 c10 m10 u1 u2 u3 hm10 => ?_
      walk_at "go"
      exact ⟨_, _, _, _, by omega, by omega, set_same, hm10, by walk_at "mu", sb_self (sb_self sb1), rfl⟩
    · walk_at "go"
      exact ⟨_, _, _, _, bx, by_, hb1, hm1, hp1, sb1, rfl⟩
    clear bx by_ hb1 hm1 hp1 sb1
    rintro τ2 μ2 ⟨x, y, c1, m1, bx, by_, hb1, hm1, hp1, sb1, rfl⟩
    dsimp only [List.cons_append, List.nil_append]
    walk_at "go"
    refine if_cut (MdC b pd μ (sc * wide) (sc * high) rows [some (.ref b), some (.int most), some (.int way), some (.int wide), some (.int high), some (.int sc), some (.int rw0), some (.int fl)] it o11 o12) (fun _ => ?_) (fun _ => ?_) ?_
    · walk_at "go"
      intro l3 hl3
      have hl3b : l3 ≠ b := ne_of_some hl3 hb1
      have hl3p : l3 ≠ pd := ne_of_some hl3 hp1
      walk_at "go"
      refine use_take (by walk_at "mu") hm1 (by decide) (by walk_at "szN") fun e8 c9 m9 t1 t2 t3 hm9 => ?_
      obtain ⟨z, hz, hz2⟩ := pickD (.int 1) (.int (sc * high - 1)) t1 t2
      obtain ⟨yy, rfl, hy⟩ : ∃ yy : Int, z = .int yy ∧ (0 < yy ∧ yy < sc * high) := by
        rcases hz2 with e | e
        · exact ⟨1, e, by omega⟩
        · exact ⟨_, e, by omega⟩
      walk_at "go"
      refine ro_ix (seq_ref (by walk_at "mu")) hz ?_
      walk_at "go"
      exact ⟨_, _, _, _, bx, hy, set_same, hm9, by walk_at "mu", sb_self (sb_new sb1 hl3), rfl⟩
    · walk_at "go"
      exact ⟨_, _, _, _, bx, by_, hb1, hm1, hp1, sb1, rfl⟩
    clear bx by_ hb1 hm1 hp1 sb1
    rintro τ3 μ3 ⟨x, y, c1, m1, bx, by_, hb1, hm1, hp1, sb1, rfl⟩
    dsimp only [List.cons_append, List.nil_append]
    walk_at "go"
    refine use_take hb1 hm1 (by omega) (by walk_at "szN") fun e8 c9 m9 t1 t2 t3 hm9 => ?_
    have ze8 : Sz 8 e8 := by unfold Sz; omega
    walk_at "go"
    refine use_take set_same hm9 (by omega) (by walk_at "szN") fun e9 c10 m10 u1 u2 u3 hm10 => ?_
    have ze9 : Sz 8 e9 := by unfold Sz; omega
    walk_at "go"
    rw [set_set]
    have lo : 0 ≤ e8 * e9 ∧ e8 * e9 ≤ e8 := by
      have h : e9 = 0 ∨ e9 = 1 := by omega
      rcases h with rfl | rfl <;> omega
    have zlo : Sz 8 (e8 * e9) := by unfold Sz; omega
    generalize e8 * e9 = low at lo zlo ⊢
    have hp2 : (μ3.set b (.lst [.int c10, .int m10])) pd = some (.dT (rows.map ent)) := by walk_at "mu"
    refine a_dnotin ?_
    walk_at "go"
    refine ⟨pd, _, rfl, .inr (.inl ⟨_, [.inl x, .inl y], hp2, rfl, rfl⟩), ?_⟩
    refine ⟨_, rfl, ?_⟩
    cases hv : valD (rows.map ent) [.inl x, .inl y] with
    | some v =>
      simp only [Option.isSome_some, Bool.not_true, Bool.false_eq_true, if_false]
      walk_at "go"
      exact ⟨rows, _, _, _, _, _, _, set_same, hm10, hp2, sb_self sb1, by omega, R8, rfl⟩
    | none =>
      simp only [Option.isSome_none, Bool.not_false, if_true]
      refine s_dput ?_
      walk_at "go"
      refine use_take (by walk_at "mu") hm10 (by omega) (by walk_at "szN") fun e10 c11 m11 v1 v2 v3 hm11 => ?_
      have ze10 : Sz 8 e10 := by unfold Sz; omega
      walk_at "go"
      have hp3 : ((μ3.set b (.lst [.int c10, .int m10])).set b (.lst [.int c11, .int m11])) pd = some (.dT (rows.map ent)) := by walk_at "mu"
      refine .inl ⟨_, [.inl x, .inl y], hp3, rfl, ?_, ?_⟩
      · rw [List.length_map]; have := sizeLine_eq; omega
      have hnb : b ≠ pd := Ne.symm hpb
      refine ⟨rows ++ [(x, y, low, low + e10)], c11, m11, _, _, _, _, by walk_at "mu", hm11, ?_, ?_, ?_, ?_, rfl⟩
      · rw [putKD_new hv, List.map_append]
        exact set_same
      · intro a m na ea
        have h1 := sb1 a m na ea
        have np : a ≠ pd := fun z => by rw [z, hpn] at ea; cases ea
        rw [set_ne np, set_ne na, set_ne na]
        exact h1
      · rw [List.length_append]
        simp only [List.length_cons, List.length_nil]
        omega
      · exact R8.more (ent_none hv) bx by_ (by omega) (by omega) (by omega)
  · rintro τ' μ' ⟨rows, c8, m8, o9, o10, o11, o12, hb8, hm8, hp8, sb8, hl8, R8, rfl⟩
    dsimp only [List.cons_append, List.nil_append, id]
    walk_at "go"
    have hl9 : rows.length ≤ d7.toNat := by simpa using hl8
    refine a_lockT hp8 fun od us => ?_
    refine a_lcK tg_name ?_
    walk_at "go"
    refine ⟨pd, od, us, _, rfl, set_same, fun j acc μ2 => μ2 = μ'.set pd (.fT od us (rows.map ent)) ∧ acc = (rows.take j).map encR, ⟨rfl, rfl⟩, ?_, ?_, ?_⟩
    · rintro j acc μ2 ⟨rfl, rfl⟩
      exact set_same
    · rintro j p acc μ2 hj ⟨rfl, rfl⟩
      rw [List.getElem?_map] at hj
      obtain ⟨r, hr, rfl⟩ := Option.map_eq_some_iff.mp hj
      have hat := ent_at R8.nd hr
      refine ⟨_, rfl, rfl, ?_⟩
      refine at_yes ?_
      rw [if_pos rfl]
      walk_at "nf"
      walk_at "go"
      refine a_dget ?_
      walk_at "go"
      refine ⟨pd, _, rfl, .inr (.inr ⟨od, us, _, (ent r).1, set_same, rfl, hat.symm⟩), ?_⟩
      refine ro_catA (Nat.le_of_ble_eq_true rfl) ⟨?_, rfl, ?_⟩
      · rw [List.length_map, List.length_take]; have := sizeLine_eq; omega
      · rw [List.take_add_one, hr, List.map_append]
        rfl
    · rintro acc μ2 ⟨rfl, rfl⟩ l4 hl4
      have hl4p : l4 ≠ pd := none_ne hl4
      refine ⟨by rw [set_ne (Ne.symm hl4p)]; exact set_same, ?_⟩
      have hl4b : l4 ≠ b := ne_of_some (none_back hl4) hb8
      have elen : (rows.map ent).length = rows.length := List.length_map ..
      rw [elen, List.take_length]
      walk_at "go"
      refine rc_tuple (ds := rows.map encR) (seq_ref (by walk_at "mu")) ?_
      walk_at "go"
      intro l5 hl5
      have hnb : b ≠ pd := Ne.symm hpb
      have hl5b : l5 ≠ b := ne_of_some (none_back (none_back (none_back hl5))) hb8
      walk_at "go"
      refine use_take (by walk_at "mu") hm8 (by decide) (by walk_at "szN") fun e8 c9 m9 t1 t2 t3 hm9 => ?_
      obtain ⟨z, hz, hz2⟩ := pickD (.int 3) (.int sc) t1 t2
      obtain ⟨gg, rfl, hg⟩ : ∃ gg : Int, z = .int gg ∧ (1 ≤ gg ∧ gg ≤ 100000) := by
        rcases hz2 with e | e
        · exact ⟨3, e, by omega⟩
        · exact ⟨_, e, by omega⟩
      walk_at "go"
      refine ro_ix (seq_ref (by walk_at "mu")) hz ?_
      walk_at "go"
      refine use_take set_same hm9 (by omega) (sz_mono (show Sz 20 gg by unfold Sz; omega) (by decide)) fun e9 c10 m10 u1 u2 u3 hm10 => ?_
      walk_at "go"
      refine up_of (μ2 := μ.set b (.lst [.int c10, .int m10])) ?_ (q _ _ rows _ _ _ _ (R8.made (by omega) bw.1 bw.2.1 bw.2.2.1 bw.2.2.2 f0.1 f0.2 (by omega) (by omega)) hm10)
      intro a m ea
      by_cases na : a = b
      · subst na
        rw [set_same] at ea ⊢
        exact ea
      · rw [set_ne na] at ea
        have h1 := sb8 a m na ea
        have np : a ≠ pd := fun z => by rw [z, hpn] at ea; cases ea
        have n4 : a ≠ l4 := fun z => by
          have := none_back hl4
          rw [← z, h1] at this; cases this
        have n5 : a ≠ l5 := fun z => by
          have := none_back (none_back (none_back hl5))
          rw [← z, h1] at this; cases this
        rw [set_ne na, set_ne na, set_ne n5, set_ne np, set_ne n4, set_ne np]
        exact h1
def P_l_board (C : Addr) : PT3 := fun ds μ Φ => ∃ w h rows fl gap, ds = [.tup [.int w, .int h, .tup (rows.map encR), .int fl, .int gap]] ∧ ab (.int w) (.int h) (.tup (rows.map encR)) (.int fl) (.int gap) = true ∧
  ∀ μ' b sp kg kt, Sub μ μ' → μ b = none → μ sp = none → μ kg = none → μ kt = none → Brd C μ' b w h rows fl gap sp kg kt → Φ (.ref b) μ'
theorem len_l_board (C : Addr) (ds : List D) (μ : M) (Φ : D → M → Prop) (h : P_l_board C ds μ Φ) : ds.length = 1 := by
  obtain ⟨_, _, _, _, _, rfl, _⟩ := h
  rfl
theorem encR_kx {μ : M} (r : R4) : Kx μ (encR r) := ⟨kd_tup, fun xs e => by
  cases e
  refine ⟨by simp, fun x hx => ?_⟩
  simp only [List.mem_cons, List.not_mem_nil, or_false] at hx
  rcases hx with rfl | rfl | rfl | rfl <;> exact kd_int⟩
theorem map_inj {α β : Type} {f : α → β} (hf : ∀ a b, f a = f b → a = b) : ∀ {l m : List α}, l.map f = m.map f → l = m
  | [], [], _ => rfl
  | [], _ :: _, h => by simp at h
  | _ :: _, [], h => by simp at h
  | a :: l, b :: m, h => by
    rw [List.map_cons, List.map_cons, List.cons.injEq] at h
    rw [hf a b h.1, map_inj hf h.2]
theorem encR_inj (a b : R4) (h : encR a = encR b) : a = b := by
  obtain ⟨a1, a2, a3, a4⟩ := a
  obtain ⟨b1, b2, b3, b4⟩ := b
  simp [encR] at h
  simp [h]
def P_l_points : PT3 := fun ds μ Φ => ∃ w h rows fl gap, ds = [.tup [.int w, .int h, .tup (rows.map encR), .int fl, .int gap]] ∧ rows.length ≤ 16 ∧ ∀ l, μ l = none → Φ (.ref l) (μ.set l (.lst ((spots w h rows).map encS)))
theorem len_l_points (ds : List D) (μ : M) (Φ : D → M → Prop) (h : P_l_points ds μ Φ) : ds.length = 1 := by
  obtain ⟨_, _, _, _, _, rfl, _⟩ := h
  rfl
theorem ok_l_board {f : Addr} {fd : FuncData} (F : Fun K "_law_board" "_law_board" s_l_board f fd) (B : Bs mg) {C_Board : Addr} (K_Board : Cl_Board K C_Board) (M_Board : MkK P w K mg base "Board" C_Board ["self", "width", "height", "pins", "layers", "spacing"] 3 ["spacing", "layers"] [(true, 1), (true, 0)] [] 6 (spX K (xn mg) (P_board_init C_Board))) : FnOk P w K mg base CX0 8 f fd ["_law_made_here"] (spI K (P_l_board C_Board)) := by
  refine F.ok sc_l_board (fun vs H Q E h => spI_len h (len_l_board C_Board)) (fun cdv A outer s H vs Q E hr h => ?_)
  have hu65 := hu65_of hr
  refine ⟨_, (pss_one (ps_ret (pe_mkK M_Board (hr.mono (by decide)) (by rfl) (pa_cons (pe_ix (ix_seqK (K := K) rfl) (pv 0) pe_int (fun _ _ => rfl)) (pa_cons (pe_ix (ix_seqK (K := K) rfl) (pv 0) pe_int (fun _ _ => rfl)) (pa_cons (pe_ix (ix_seqK (K := K) rfl) (pv 0) pe_int (fun _ _ => rfl)) pa_nil))) (pk_cons (pe_ix (ix_seqK (K := K) rfl) (pv 0) pe_int (fun _ _ => rfl)) (pk_cons (pe_ix (ix_seqK (K := K) rfl) (pv 0) pe_int (fun _ _ => rfl)) pk_nil))))), body_ok h (fun ds μ Φ p => ?_)⟩
  (try dsimp only [cxOf, Cx.nox, Cx.wish, List.map_cons, List.map_nil])
  obtain ⟨w, h, rows, fl, gap, rfl, hab, q⟩ := p
  show AS K _ [some _] _ _
  walk_at "go"
  refine a_mkK [] (fun _ => .nil) ?_
  walk_at "go"
  refine ⟨rfl, rfl, fun b dx hb => ?_⟩
  refine ⟨b, dx, .int w, .int h, .tup (rows.map encR), .int fl, .int gap, rfl, set_same, kd_int, kd_int, kd_tup, kd_int, kd_int, fun rs e => ?_, fun wn hn rows2 ln sn _ e1 e2 e3 e4 e5 μ' sp kg kt sb h1 h2 h3 B => ?_, fun e => ?_⟩
  · cases e
    obtain ⟨_, _, _, _, rows3, _, _, e3, _, _, hl⟩ := ab_of hab
    refine ⟨?_, fun r hr => ?_⟩
    · simp only [D.tup.injEq] at e3
      rw [e3, List.length_map]
      omega
    · obtain ⟨r, _, rfl⟩ := List.mem_map.mp hr
      exact encR_kx r
  · cases e1; cases e2; cases e4; cases e5
    simp only [D.tup.injEq] at e3
    have e6 := map_inj encR_inj e3
    subst e6
    refine ⟨rfl, q μ' b sp kg kt (fun a m ea => ?_) hb ?_ ?_ ?_ B⟩
    · have na : a ≠ b := fun z => by rw [z, hb] at ea; cases ea
      exact sb a m na (by rw [set_ne na]; exact ea)
    · exact none_back h1
    · exact none_back h2
    · exact none_back h3
  · rw [hab] at e
    cases e
abbrev mdD (w h : Int) (rows : List R4) (fl gap : Int) : D := .tup [.int w, .int h, .tup (rows.map encR), .int fl, .int gap]
def P_l_pins : PT3 := fun ds μ Φ => ∃ w h rows fl gap lv, ds = [mdD w h rows fl gap, .int lv] ∧ rows.length ≤ 16 ∧ ∀ p, μ p = none → Φ (.ref p) (μ.set p (.lst ((pinsOf rows lv).map D.int)))
theorem len_l_pins (ds : List D) (μ : M) (Φ : D → M → Prop) (h : P_l_pins ds μ Φ) : ds.length = 2 := by
  obtain ⟨_, _, _, _, _, _, rfl, _⟩ := h
  rfl
theorem use_l_pins {μ : M} {Φ : D → M → Prop} {w h fl gap lv : Int} {rows : List R4} (hl : rows.length ≤ 16) (q : ∀ p, μ p = none → Φ (.ref p) (μ.set p (.lst ((pinsOf rows lv).map D.int)))) : P_l_pins [mdD w h rows fl gap, .int lv] μ Φ := ⟨w, h, rows, fl, gap, lv, rfl, hl, q⟩
/-- the law's comprehension -/
theorem from_range (rows : List R4) (lv : Int) (p : D → Bool) (hp : ∀ (i : Nat) r, rows[i]? = some r → p (.int (0 + (i : Nat))) = onL lv r) : (((List.range rows.length).map fun (i : Nat) => D.int (0 + i)).filter p).map (fun d => D.int (4 + ofI d)) = (pinsFrom lv 4 rows).map D.int := by
  have key : ∀ (l pre : List R4), rows = pre ++ l → (((List.range' pre.length l.length).map fun (i : Nat) => D.int (0 + i)).filter p).map (fun d => D.int (4 + ofI d)) = (pinsFrom lv (4 + pre.length) l).map D.int := by
    intro l
    induction l with
    | nil => intro pre _; rfl
    | cons r l ih =>
      intro pre e
      have h1 : rows[pre.length]? = some r := by rw [e, List.getElem?_append_right (Nat.le_refl _), Nat.sub_self]; rfl
      have h2 := ih (pre ++ [r]) (by rw [e, List.append_assoc]; rfl)
      rw [List.length_append] at h2
      simp only [List.length_cons, List.length_nil, Nat.zero_add] at h2
      rw [List.length_cons, List.range'_succ, List.map_cons, List.filter_cons, hp _ _ h1, pinsFrom]
      have e3 : (4 : Int) + ((pre.length + 1 : Nat) : Int) = 4 + (pre.length : Int) + 1 := by omega
      rw [e3] at h2
      split
      · rw [List.map_cons, List.map_cons, h2]
        show D.int (4 + (0 + (pre.length : Int))) :: _ = _
        rw [Int.zero_add]
      · exact h2
  have := key rows [] rfl
  rw [List.range_eq_range']
  exact this
theorem ok_l_pins {f : Addr} {fd : FuncData} (F : Fun K "_law_pins" "_law_pins" s_l_pins f fd) (B : Bs mg) : FnOk P w K mg base CX0 1 f fd ["_law_made_here", "_law_level"] (spI K P_l_pins) := by
  refine F.ok sc_l_pins (fun vs H Q E h => spI_len h len_l_pins) (fun cdv A outer s H vs Q E hr h => ?_)
  have hu65 := hu65_of hr
  refine ⟨_, (pss_one (ps_ret (pe_op op_cat (pe_lst (pa_cons pe_int (pa_cons pe_int (pa_cons pe_int (pa_cons pe_int pa_nil))))) (pe_lc (own := [("_law_k", 2)]) (g := gName 2)  rfl sc_l_pins.nd (pi_range1 (by rfl) B.b_range (pa_cons (pe_callB (call_lenK (K := K) rfl) (by rfl) B.b_len (by decide +kernel) (pa_cons (pe_ix (ix_seqK (K := K) rfl) (pv 0) pe_int (fun _ _ => rfl)) pa_nil)) pa_nil)) (blkOk_by (own := [("_law_k", 2)]) (N := N_l_pins) (sc := defScope s_l_pins) (by decide +kernel)) (fun _ _ _ _ _ => (pg_name (i := 2) sc_l_pins.nd rfl (by first | exact Or.inl rfl | exact Or.inr rfl))) (fun _ _ _ _ _ => (pts_one (pt_chain op_le op_le (pe_ix (ix_seqK (K := K) rfl) (pe_ix (ix_seqK (K := K) rfl) (pe_ix (ix_seqK (K := K) rfl) (pv 0) pe_int (fun _ _ => rfl)) (pv 2) (fun _ _ => rfl)) pe_int (fun _ _ => rfl)) (pv 1) (pe_ix (ix_seqK (K := K) rfl) (pe_ix (ix_seqK (K := K) rfl) (pe_ix (ix_seqK (K := K) rfl) (pv 0) pe_int (fun _ _ => rfl)) (pv 2) (fun _ _ => rfl)) pe_int (fun _ _ => rfl))))) (fun _ _ _ _ _ => (pe_op op_add pe_int (pv 2))))))), body_okU h (fun ds μ Φ p => ?_)⟩
  (try dsimp only [cxOf, Cx.nox, Cx.wish, List.map_cons, List.map_nil])
  obtain ⟨w, h, rows, fl, gap, lv, rfl, hl, q⟩ := p
  show AS K _ [some _, some _, none] _ _
  walk_at "go"
  intro l1 hl1
  refine a_lc1 (fun d => .int (4 + ofI d)) (fun d => onL lv (rows.getD (ofI d).toNat (0, 0, 0, 0))) (ai_1 ?_)
  walk_at "go"
  have en : ((((rows.map encR).length : Nat) : Int)).toNat = rows.length := by rw [List.length_map]; omega
  refine ⟨by rw [List.length_map]; omega, by rw [List.length_map]; omega, ?_⟩
  rw [en]
  refine ⟨?_, fun x hx => ?_, fun x hx _ => ?_, fun l2 hl2 => ?_⟩
  · rw [List.length_map, List.length_range]
    have := sizeLine_eq
    omega
  · obtain ⟨i, hi, rfl⟩ := List.mem_map.mp hx
    have hi := List.mem_range.mp hi
    have hr : rows[i]? = some rows[i] := List.getElem?_eq_getElem hi
    have ha : atI (rows.map encR) (0 + (i : Int)) = some (encR rows[i]) := atI_map (by omega) (by
      have : (0 + (i : Int)).toNat = i := by omega
      rw [this]; exact hr)
    have hg : onL lv (rows.getD (ofI (.int (0 + (i : Int)))).toNat (0, 0, 0, 0)) = onL lv rows[i] := by
      have : (ofI (.int (0 + (i : Int)))).toNat = i := by simp [ofI]
      rw [this, List.getD_eq_getElem?_getD, hr]
      rfl
    rw [hg]
    walk_at "nf"
    walk_at "go"
    refine ro_ix rfl ha ?_
    walk_at "go"
    refine ite_d (fun k1 => ?_) (fun k1 => ?_)
    · walk_at "go"
      refine ro_ix rfl ha ?_
      walk_at "go"
      refine ⟨?_, rfl⟩
      unfold onL
      rw [decide_eq_true k1, Bool.true_and]
    · refine ⟨_, rfl, ?_, rfl⟩
      unfold onL
      rw [decide_eq_false k1, Bool.false_and]
  · obtain ⟨i, hi, rfl⟩ := List.mem_map.mp hx
    walk_at "nf"
    walk_at "go"
    exact ⟨rfl, rfl⟩
  · have e1 := from_range rows lv (fun d => onL lv (rows.getD (ofI d).toNat (0, 0, 0, 0))) (fun i r hr => by
      have : (ofI (.int (0 + (i : Int)))).toNat = i := by simp [ofI]
      show onL lv (rows.getD (ofI (.int (0 + (i : Int)))).toNat (0, 0, 0, 0)) = _
      rw [this, List.getD_eq_getElem?_getD, hr]
      rfl)
    rw [e1]
    have n2 := none_ne hl2
    refine ro_cat (by walk_at "mu") (by walk_at "mu") ?_ fun l3 hl3 => ?_
    · have h1 := from_len (lv := lv) rows 4
      have := sizeLine_eq
      rw [List.length_map]
      simp only [List.length_cons, List.length_nil]
      omega
    have n0 : μ l3 = none := none_back (none_back hl3)
    have hl1' : μ l1 = none := hl1
    have hl2' : μ l2 = none := none_back hl2
    refine up_of (μ2 := μ.set l3 (.lst ((pinsOf rows lv).map D.int))) ?_ (q l3 n0)
    intro a m ea
    by_cases na : a = l3
    · subst na
      rw [set_same] at ea ⊢
      exact ea
    · rw [set_ne na] at ea ⊢
      have d1 : a ≠ l1 := fun z => by rw [z, hl1'] at ea; cases ea
      have d2 : a ≠ l2 := fun z => by rw [z, hl2'] at ea; cases ea
      rw [set_ne d2]
      show (μ.set l1 _) a = some m
      rw [set_ne d1]
      exact ea
theorem ab_len {w h fl gap : Int} {rows : List R4} (k : ab (.int w) (.int h) (.tup (rows.map encR)) (.int fl) (.int gap) = true) : rows.length ≤ 16 := by
  simp only [ab, Bool.and_eq_true, decide_eq_true_eq, List.length_map] at k
  exact k.2.1.1
theorem ab_fl {w h p g : D} {fl : Int} (k : ab w h p (.int fl) g = true) : 1 ≤ fl ∧ fl ≤ 3 := by
  simp only [ab, Bool.and_eq_true] at k
  have k2 := k.1.1.2
  simp only [wi, Bool.and_eq_true, decide_eq_true_eq] at k2
  exact k2
theorem ab_in {w h fl gap : Int} {rows : List R4} (k : ab (.int w) (.int h) (.tup (rows.map encR)) (.int fl) (.int gap) = true) (hw : w ≤ 900000) (hh : h ≤ 900000) : ∀ p ∈ spots w h rows, Inn p := by
  simp only [ab, Bool.and_eq_true, decide_eq_true_eq, List.length_map] at k
  obtain ⟨⟨⟨⟨k1, k2⟩, _⟩, _⟩, ⟨_, k5⟩, _⟩ := k
  simp only [wi, Bool.and_eq_true, decide_eq_true_eq] at k1 k2
  intro p hp
  unfold spots at hp
  rcases List.mem_append.mp hp with z | z
  · simp only [List.mem_cons, List.not_mem_nil, or_false] at z
    rcases z with rfl | rfl | rfl | rfl <;> (unfold Inn; dsimp only; omega)
  · obtain ⟨r, hr, rfl⟩ := List.mem_map.mp z
    have h5 := List.all_eq_true.mp k5 _ (List.mem_map.mpr ⟨r, hr, rfl⟩)
    obtain ⟨x, y, f, g, e, a1, a2, _⟩ := pr_int h5
    simp [encR] at e
    unfold Inn
    dsimp only
    omega
theorem bok_of {w h fl gap : Int} {rows : List R4} (k : ab (.int w) (.int h) (.tup (rows.map encR)) (.int fl) (.int gap) = true) (hw : w ≤ 900000) (hh : h ≤ 900000) : BOk w h rows fl :=
  ⟨ab_len k, ab_in k hw hh, (ab_fl k).1, (ab_fl k).2⟩
theorem s2_tab {C : Addr} {μ μ' : M} {bd w h l s : _} {rows : List R4} {sp kg kt a : Addr} {q : Str} (BR : Brd C μ bd w h rows l s sp kg kt) (s2 : Sub2 kg kt μ μ') (e : μ a = some (.tab q)) : μ' a = some (.tab q) := by
  obtain ⟨dx, gl, tl, lvs, hb, hsp, hkg, hkt⟩ := BR
  exact s2 a _ (fun z => by rw [z, hkg] at e; cases e) (fun z => by rw [z, hkt] at e; cases e) e
theorem okn_gates {w h lv : Int} {rows : List R4} : OkN 2 (gatesD w h rows lv) := okn_tup fun x hx => by
  obtain ⟨g, _, rfl⟩ := List.mem_map.mp hx
  exact okn_pt
theorem ok_l_points {f : Addr} {fd : FuncData} (F : Fun K "_law_points" "_law_points" s_l_points f fd) (B : Bs mg) : FnOk P w K mg base CX0 1 f fd ["_law_made_here"] (spI K P_l_points) := by
  refine F.ok sc_l_points (fun vs H Q E h => spI_len h len_l_points) (fun cdv A outer s H vs Q E hr h => ?_)
  have hu65 := hu65_of hr
  refine ⟨_, (pss_cons (ps_asg (pe_slice (sl_tupAK (K := K) rfl) (pv 0) po_none (po_some pe_int)) (pg_tup (by rfl) (pgs_cons (pg_name (i := 1) sc_l_points.nd rfl (by first | exact Or.inl rfl | exact Or.inr rfl)) (pgs_cons (pg_name (i := 2) sc_l_points.nd rfl (by first | exact Or.inl rfl | exact Or.inr rfl)) pgs_nil))))
      (pss_one (ps_ret (pe_op op_cat (pe_lst (pa_cons (pe_tup (pa_cons pe_int (pa_cons pe_int pa_nil))) (pa_cons (pe_tup (pa_cons (pv 1) (pa_cons pe_int pa_nil))) (pa_cons (pe_tup (pa_cons (pv 1) (pa_cons (pv 2) pa_nil))) (pa_cons (pe_tup (pa_cons pe_int (pa_cons (pv 2) pa_nil))) pa_nil))))) (pe_lc (own := [("_law_row", 3)]) (g := gName 3) (tt := tYes) rfl sc_l_points.nd (pi_tupK (K := K) rfl (pe_ix (ix_seqK (K := K) rfl) (pv 0) pe_int (fun _ _ => rfl))) (blkOk_by (own := [("_law_row", 3)]) (N := N_l_points) (sc := defScope s_l_points) (by decide +kernel)) (fun _ _ _ _ _ => (pg_name (i := 3) sc_l_points.nd rfl (by first | exact Or.inl rfl | exact Or.inr rfl))) (fun _ _ _ _ _ => pts_nil) (fun _ _ _ _ _ => (pe_slice (sl_tupAK (K := K) rfl) (pv 3) po_none (po_some pe_int)))))))), body_okU h (fun ds μ Φ p => ?_)⟩
  (try dsimp only [cxOf, Cx.nox, Cx.wish, List.map_cons, List.map_nil])
  obtain ⟨w, h, rows, fl, gap, rfl, hl, q⟩ := p
  show AS K _ [some _, none, none, none] _ _
  walk_at "go"
  have ec : cutD [D.int w, D.int h, D.tup (List.map encR rows), D.int fl, D.int gap] none (some 2) = [.int w, .int h] := rfl
  rw [ec]
  walk_at "go"
  intro l1 hl1
  walk_at "go"
  refine a_lc1 xyOf (fun _ => true) (ai_T ?_)
  walk_at "go"
  refine ⟨by rw [List.length_map]; have := sizeLine_eq; omega, fun x hx => at_yes ⟨rfl, rfl⟩, fun x hx _ => ?_, fun l2 hl2 => ?_⟩
  · obtain ⟨r, _, rfl⟩ := List.mem_map.mp hx
    walk_at "nf"
    walk_at "go"
    exact ⟨rfl, rfl⟩
  walk_at "go"
  have e2 : List.map xyOf (List.filter (fun _ => true) (rows.map encR)) = rows.map fun r => pt r.1 r.2.1 := by
    rw [List.filter_eq_self.mpr (fun _ _ => rfl), List.map_map]; rfl
  rw [e2]
  have ne2 := none_ne hl2
  refine ro_cat (by walk_at "mu") (by walk_at "mu") (by rw [List.length_map]; have := sizeLine_eq; simp only [List.length_cons, List.length_nil]; omega) fun l3 hl3 => ?_
  have e3 : (spots w h rows).map encS = [D.tup [D.int 0, D.int 0], D.tup [D.int w, D.int 0], D.tup [D.int w, D.int h], D.tup [D.int 0, D.int h]] ++ List.map (fun r => pt r.1 r.2.1) rows := by
    unfold spots; rw [List.map_append, List.map_map]; rfl
  rw [← e3]
  have nl3 : μ l3 = none := none_back (none_back hl3)
  refine up_of (μ2 := μ.set l3 (.lst ((spots w h rows).map encS))) ?_ (q l3 nl3)
  intro a m ea
  by_cases na : a = l3
  · subst na
    rw [set_same] at ea ⊢
    exact ea
  · rw [set_ne na] at ea ⊢
    have n1 : a ≠ l1 := fun z => by rw [z, hl1] at ea; cases ea
    have n2 : a ≠ l2 := fun z => by
      have h3 := none_back hl2
      rw [z] at ea
      rw [show μ l2 = none from h3] at ea; cases ea
    rw [set_ne n2]
    show (μ.set l1 _) a = some m
    rw [set_ne n1]
    exact ea
theorem use_gates {C T : Addr} {μ : M} {Φ : D → M → Prop} {Ξ : XW} {b : Addr} {lv w h l s : Int} {rows : List R4} {sp kg kt : Addr} (B : Brd C μ b w h rows l s sp kg kt) (OK : BOk w h rows l) (h0 : 0 ≤ lv) (h1 : lv < l) (hT : μ T = some (.tab Q_g)) (q : ∀ μ', Sub2 kg kt μ μ' → Brd C μ' b w h rows l s sp kg kt → Φ (gatesD w h rows lv) μ') : P_board_gates C T [.ref b, .int lv] μ Φ Ξ :=
  ⟨b, _, w, h, rows, l, s, sp, kg, kt, rfl, B, OK, kd_int, hT, fun lv2 μ' e _ _ s2 _ B' => by cases e; exact q μ' s2 B', fun z => by rw [wi_lv h0 h1] at z; cases z⟩
theorem use_tris {C T : Addr} {μ : M} {Φ : D → M → Prop} {Ξ : XW} {b : Addr} {lv w h l s : Int} {rows : List R4} {sp kg kt : Addr} (B : Brd C μ b w h rows l s sp kg kt) (OK : BOk w h rows l) (h0 : 0 ≤ lv) (h1 : lv < l) (hT : μ T = some (.tab Q_g)) (q : ∀ μ', Sub2 kg kt μ μ' → Brd C μ' b w h rows l s sp kg kt → Φ (trisD w h rows lv) μ') : P_board_triangles C T [.ref b, .int lv] μ Φ Ξ :=
  ⟨b, _, w, h, rows, l, s, sp, kg, kt, rfl, B, OK, kd_int, hT, fun lv2 μ' e _ _ s2 B' => by cases e; exact q μ' s2 B', fun z => by rw [wi_lv h0 h1] at z; cases z⟩
abbrev trisL (w h : Int) (rows : List R4) (lv : Int) : List (Int × Int × Int) := trisOf (spots w h rows) (pinsOf rows lv) (gOf w h rows lv)
theorem tris_len {w h l lv : Int} {rows : List R4} (OK : BOk w h rows l) : (trisL w h rows lv).length ≤ 8000 := by
  have h1 := flat_le (F := triF (spots w h rows) (pinsOf rows lv) (gOf w h rows lv)) (n := 20) (fun g => by
    have h1 := List.length_filter_le (emptyT (spots w h rows) (pinsOf rows lv)) (((pinsOf rows lv).filter fun r => decide (g.2 < r) && (decide ((g.1, r) ∈ gOf w h rows lv) && decide ((g.2, r) ∈ gOf w h rows lv))).map fun r => (g.1, g.2, r))
    have h2 := List.length_filter_le (fun r => decide (g.2 < r) && (decide ((g.1, r) ∈ gOf w h rows lv) && decide ((g.2, r) ∈ gOf w h rows lv))) (pinsOf rows lv)
    have h3 := (pins_ok OK lv).1
    rw [List.length_map] at h1
    unfold triF
    omega) (gOf w h rows lv)
  have h2 := gOf_len OK lv
  have e : trisOf (spots w h rows) (pinsOf rows lv) (gOf w h rows lv) = (gOf w h rows lv).flatMap (triF (spots w h rows) (pinsOf rows lv) (gOf w h rows lv)) := rfl
  rw [trisL, e]
  omega
theorem inD_iff {d : D} {ds : List D} (hd : D.it d = true) (hs : ∀ z ∈ ds, D.it z = true) : inD d ds = true ↔ d ∈ ds := by
  unfold inD
  rw [List.any_eq_true]
  constructor
  · rintro ⟨z, h1, h2⟩
    rw [← (eqv_dec (hs z h1) hd).mp h2]
    exact h1
  · intro h
    exact ⟨d, h, (eqv_dec hd hd).mpr rfl⟩
theorem encG_inj {a b : Pt} (h : encG a = encG b) : a = b := by
  obtain ⟨a1, a2⟩ := a
  obtain ⟨b1, b2⟩ := b
  have h2 : D.tup [.int a1, .int a2] = D.tup [.int b1, .int b2] := h
  simp at h2
  simp [h2]
theorem inD_map {α : Type} {f : α → D} (hi : ∀ a, D.it (f a) = true) (hf : ∀ a b, f a = f b → a = b) {gs : List α} {g : α} : inD (f g) (gs.map f) = true ↔ g ∈ gs := by
  rw [inD_iff (hi g) (fun z hz => by obtain ⟨a, _, rfl⟩ := List.mem_map.mp hz; exact hi a)]
  constructor
  · intro h
    obtain ⟨a, ha, e⟩ := List.mem_map.mp h
    rw [← hf _ _ e]
    exact ha
  · intro h
    exact List.mem_map.mpr ⟨g, h, rfl⟩
theorem inD_gates {gs : List Pt} {g : Pt} : inD (encG g) (gs.map encG) = decide (g ∈ gs) := by
  rw [Bool.eq_iff_iff, decide_eq_true_eq]
  exact inD_map (f := fun g => encG g) (fun _ => rfl) (fun _ _ => encG_inj)
theorem inD_pins {pins : List Int} {p : Int} : inD (.int p) (pins.map D.int) = decide (p ∈ pins) := by
  rw [Bool.eq_iff_iff, decide_eq_true_eq]
  exact inD_map (f := D.int) (fun _ => rfl) (fun _ _ h => by simpa using h)
theorem inD_t3 {p : Int} {t : Int × Int × Int} : inD (.int p) [.int t.1, .int t.2.1, .int t.2.2] = inT3 p t := inD_pins (pins := [t.1, t.2.1, t.2.2])
theorem tab_ne {μ : M} {T a : Addr} {m : MO} (hT : μ T = some (.tab Q_g)) (h : μ a = some m) (hm : ∀ q, m ≠ .tab q) : T ≠ a := fun z => by rw [z, h] at hT; cases hT; exact hm _ rfl
theorem tab_new {μ : M} {T a : Addr} {m : MO} (hT : μ T = some (.tab Q_g)) (h : μ a = none) : (μ.set a m) T = some (.tab Q_g) := by rw [set_ne (fun z => by rw [z, h] at hT; cases hT)]; exact hT
/-- whether a thing is a gate -/
def isG (w h : Int) (rows : List R4) (lv : Int) : D → Bool
  | .tup [.int p, .int q] => decide ((p, q) ∈ gOf w h rows lv)
  | _ => false
theorem isG_true {w h lv : Int} {rows : List R4} {g : D} (e : isG w h rows lv g = true) : ∃ g' : Pt, g = encG g' ∧ g' ∈ gOf w h rows lv := by
  unfold isG at e
  split at e
  · exact ⟨(_, _), rfl, of_decide_eq_true e⟩
  · cases e
theorem aw_two {d : D} (h : aw d 2 = true) : ∃ x y : Int, d = .tup [.int x, .int y] := by
  unfold aw at h
  split at h
  · rename_i xs
    simp only [Bool.and_eq_true, decide_eq_true_eq, List.all_eq_true] at h
    obtain ⟨hl, ha⟩ := h
    match xs, (by omega : xs.length = 2) with
    | [a, b], _ =>
      have h1 := ha a (by simp)
      have h2 := ha b (by simp)
      cases a <;> first | (simp [wh] at h1; done) | skip
      cases b <;> first | (simp [wh] at h2; done) | skip
      exact ⟨_, _, rfl⟩
  · cases h
def P_board_look_gate (C T : Addr) : PT4 := fun ds μ Φ Ξ => ∃ b g d w h rows l s sp kg kt, ds = [.ref b, g, d] ∧ Brd C μ b w h rows l s sp kg kt ∧ BOk w h rows l ∧ Kd μ d ∧ Kx μ g ∧ μ T = some (.tab Q_g) ∧
  (∀ lv μ', d = .int lv → 0 ≤ lv → lv < l → Sub2 kg kt μ μ' → Brd C μ' b w h rows l s sp kg kt → (isG w h rows lv g = true → Φ .non μ') ∧ (isG w h rows lv g = false → ∀ dx, μ' dx = none → Ξ "NoGate" (some dx) (μ'.set dx (.xd [("gate", g)])))) ∧
  (wi d 0 (l - 1) = false → ∀ dx, μ dx = none → Ξ "NoLayer" (some dx) (μ.set dx (.xd [("layer", d)])))
theorem len_board_look_gate (C T : Addr) (ds : List D) (μ : M) (Φ : D → M → Prop) (Ξ : XW) (h : P_board_look_gate C T ds μ Φ Ξ) : ds.length = 3 := by
  obtain ⟨_, _, _, _, _, _, _, _, _, _, _, rfl, _⟩ := h
  rfl
/-- the triangles that have both pins of a gate -/
def besL (w h : Int) (rows : List R4) (lv : Int) (g : Pt) : List (Int × Int × Int) := (trisL w h rows lv).filter fun t => inT3 g.1 t && inT3 g.2 t
def P_board_beside (C T : Addr) : PT4 := fun ds μ Φ Ξ => ∃ b g d w h rows l s sp kg kt, ds = [.ref b, g, d] ∧ Brd C μ b w h rows l s sp kg kt ∧ BOk w h rows l ∧ Kd μ d ∧ Kx μ g ∧ μ T = some (.tab Q_g) ∧
  (∀ lv μ', d = .int lv → 0 ≤ lv → lv < l → Sub2 kg kt μ μ' → Brd C μ' b w h rows l s sp kg kt → (∀ g', g = encG g' → g' ∈ gOf w h rows lv → Φ (.tup ((besL w h rows lv g').map encT)) μ') ∧ (isG w h rows lv g = false → ∀ dx, μ' dx = none → Ξ "NoGate" (some dx) (μ'.set dx (.xd [("gate", g)])))) ∧
  (wi d 0 (l - 1) = false → ∀ dx, μ dx = none → Ξ "NoLayer" (some dx) (μ.set dx (.xd [("layer", d)])))
theorem len_board_beside (C T : Addr) (ds : List D) (μ : M) (Φ : D → M → Prop) (Ξ : XW) (h : P_board_beside C T ds μ Φ Ξ) : ds.length = 3 := by
  obtain ⟨_, _, _, _, _, _, _, _, _, _, _, rfl, _⟩ := h
  rfl
theorem bes_eq {w h lv : Int} {rows : List R4} {g : Pt} : ((List.map (fun t => encT t) (trisL w h rows lv)).filter (fun x => match x with | D.tup xs => inD (D.int g.1) xs && inD (D.int g.2) xs | _ => false)).map id = (besL w h rows lv g).map encT := by
  rw [List.map_id, List.filter_map]
  unfold besL
  congr 1
  refine List.filter_congr fun t ht => ?_
  show (inD (D.int g.1) [D.int t.1, D.int t.2.1, D.int t.2.2] && inD (D.int g.2) [D.int t.1, D.int t.2.1, D.int t.2.2]) = _
  rw [inD_t3, inD_t3]
theorem ok_board_look_gate {f : Addr} {fd : FuncData} (F : Fun K "look_gate" "Board.look_gate" s_board_look_gate f fd) (B : Bs mg) {T_g : Addr} {C_Board : Addr} (K_Board : Cl_Board K C_Board) {C_NoGate : Addr} (E_NoGate : Exc1 P w K mg base "NoGate" "gate" C_NoGate) (G_board_gates : Mth P w K mg base C_Board "gates" ["self", "layer"] 7 (spX K (xn mg) (P_board_gates C_Board T_g))) (G_board_look_layer : Mth P w K mg base C_Board "look_layer" ["self", "number"] 4 (spX K (xn mg) (P_board_look_layer C_Board))) (G_are_whole : Def P w K mg base "are_whole" ["thing", "many"] 2 (spI K P_are_whole)) : FnOk P w K mg base (L2.CX P w) 8 f fd ["self", "gate", "layer"] (spX K (xn mg) (P_board_look_gate C_Board T_g)) := by
  refine F.okX sc_board_look_gate (fun vs H Q E h => spX_len h (len_board_look_gate C_Board T_g)) (fun cdv A outer s H vs Q E hr h => ?_)
  have hu65 := hu65_of hr
  refine ⟨_, (pss_cons (ps_expr (pe_mthX (takes_of rfl rfl rfl rfl) G_board_look_layer (hr.mono (by decide)) (pv 0) (pa_cons (pv 2) pa_nil)))
      (pss_one (ps_if (PW.pt (pw_or (pt_not (pt_val (pe_def G_are_whole (hr.mono (by decide)) (by rfl) (pa_cons (pv 1) (pa_cons pe_int pa_nil))))) (pw_or1 (pt_cmpR (op_notInSK (K := K) rfl hu65) (pv 1) (pe_mthN G_board_gates (hr.mono (by decide)) (pv 0) (pa_cons (pv 2) pa_nil)) (by first | exact nomark _ | rfl))))) (pss_one (ps_raise rfl (takes_of rfl rfl rfl rfl) (pmk_e1 E_NoGate (hr.mono (by decide)) (by rfl) (pa_cons (pv 1) pa_nil)))) pss_nil))), body_okX h (fun ds μ Φ Ξ p => ?_)⟩
  (try dsimp only [cxOf, Cx.nox, Cx.wish, List.map_cons, List.map_nil])
  obtain ⟨b, g, d, w, h, rows, l, s, sp, kg, kt, rfl, BR, OK, kd, kg', hT, qy, qn⟩ := p
  obtain ⟨dx, gl, tl, lvs, hb, hsp, hkg, hkt⟩ := id BR
  show AS K _ [some _, some _, some _] _ _
  walk_at "go"
  refine ⟨b, dx, _, rfl, hb, rfl, ?_⟩
  walk_at "go"
  refine ⟨b, d, w, h, rows, l, s, sp, kg, kt, rfl, BR, kd, fun h1 => ?_, fun h1 dx2 hdx2 => qn h1 dx2 hdx2⟩
  obtain ⟨lv, rfl, l0, l1⟩ := wi_int h1
  walk_at "go"
  refine ⟨g, 2, rfl, kg'.1, kg'.2, ?_⟩
  by_cases hw : aw g 2 = true
  · obtain ⟨x, y, rfl⟩ := aw_two hw
    rw [hw]
    walk_at "go"
    refine ⟨b, dx, _, rfl, hb, rfl, ?_⟩
    walk_at "go"
    refine use_gates BR OK l0 (by omega) hT fun μ' s2 BR' => ?_
    obtain ⟨q1, q2⟩ := qy lv μ' rfl l0 (by omega) s2 BR'
    refine ro_inS rfl (okn_pt.ok (by decide)) (okn_gates.ok (by decide)) ?_
    rw [show inD (D.tup [.int x, .int y]) ((gOf w h rows lv).map encG) = decide ((x, y) ∈ gOf w h rows lv) from inD_gates (g := (x, y))]
    by_cases hm : (x, y) ∈ gOf w h rows lv
    · simp only [hm, decide_true, if_true, Bool.not_true]
      refine ⟨_, rfl, ?_⟩
      walk_at "go"
      exact q1 (by simp [isG, hm])
    · simp only [hm, decide_false, if_true, Bool.not_false]
      refine ⟨_, rfl, ?_⟩
      simp only [if_true]
      refine s_raise1 (xn_at E_NoGate.mg) ?_
      walk_at "go"
      exact fun dx hdx => q2 (by simp [isG, hm]) dx hdx
  · have hf : aw g 2 = false := by simpa using hw
    rw [hf]
    walk_at "go"
    obtain ⟨_, q2⟩ := qy lv μ rfl l0 (by omega) s2_refl BR
    refine s_raise1 (xn_at E_NoGate.mg) ?_
    walk_at "go"
    refine fun dx hdx => q2 ?_ dx hdx
    unfold isG
    split
    · simp [aw, wh] at hf
    · rfl
theorem ok_board_beside {f : Addr} {fd : FuncData} {kws : List (Str × V)} (F : FunD K "beside" "Board.beside" (defArgs s_board_beside) (defBody s_board_beside) (defScope s_board_beside) [] kws f fd) (B : Bs mg) {T_g : Addr} {C_Board : Addr} (K_Board : Cl_Board K C_Board) (G_board_look_gate : Mth P w K mg base C_Board "look_gate" ["self", "gate", "layer"] 8 (spX K (xn mg) (P_board_look_gate C_Board T_g))) (G_board_triangles : Mth P w K mg base C_Board "triangles" ["self", "layer"] 9 (spX K (xn mg) (P_board_triangles C_Board T_g))) : FnOk P w K mg base (L2.CX P w) 10 f fd ["self", "gate", "layer"] (spX K (xn mg) (P_board_beside C_Board T_g)) := by
  refine F.ok (CX := L2.CX P w) sc_board_beside (fun vs H Q E h => spX_len h (len_board_beside C_Board T_g)) (fun cdv A outer s H vs Q E hr h => ?_)
  have hu65 := hu65_of hr
  refine ⟨_, (pss_cons (ps_expr (pe_mthX (takes_of rfl rfl rfl rfl) G_board_look_gate (hr.mono (by decide)) (pv 0) (pa_cons (pv 1) (pa_cons (pv 2) pa_nil))))
      (pss_one (ps_ret (pe_callTy (call_tupleK (K := K) rfl) (by rfl) B.b_tuple (by decide +kernel) (pa_cons (pe_lc (own := [("row", 3)]) (g := gName 3)  rfl sc_board_beside.nd (pi_tupK (K := K) rfl (pe_mthN G_board_triangles (hr.mono (by decide)) (pv 0) (pa_cons (pv 2) pa_nil))) (blkOk_by (own := [("row", 3)]) (N := N_board_beside) (sc := defScope s_board_beside) (by decide +kernel)) (fun _ _ _ _ _ => (pg_name (i := 3) sc_board_beside.nd rfl (by first | exact Or.inl rfl | exact Or.inr rfl))) (fun _ _ _ _ _ => (pts_one (PW.pt (pw_and (pt_cmpR (op_inSK (K := K) rfl hu65) (pe_ix (ix_seqK (K := K) rfl) (pv 1) pe_int (fun _ _ => rfl)) (pv 3) (by first | exact nomark _ | rfl)) (pw_and1 (pt_cmpR (op_inSK (K := K) rfl hu65) (pe_ix (ix_seqK (K := K) rfl) (pv 1) pe_int (fun _ _ => rfl)) (pv 3) (by first | exact nomark _ | rfl))))))) (fun _ _ _ _ _ => (pv 3))) pa_nil))))), body_okXU h (fun ds μ Φ Ξ p => ?_)⟩
  (try dsimp only [cxOf, Cx.nox, Cx.wish, List.map_cons, List.map_nil])
  obtain ⟨b, g, d, w, h, rows, l, s, sp, kg, kt, rfl, BR, OK, kd, kg', hT, qy, qn⟩ := p
  obtain ⟨dx, gl, tl, lvs, hb, hsp, hkg, hkt⟩ := id BR
  show AS K _ [some _, some _, some _, none] _ _
  walk_at "go"
  refine ⟨b, dx, _, rfl, hb, rfl, ?_⟩
  walk_at "go"
  refine ⟨b, g, d, w, h, rows, l, s, sp, kg, kt, rfl, BR, OK, kd, kg', hT, fun lv μ' e l0 l1 s2 BR' => ⟨fun hg => ?_, fun hg dx hdx => ⟨_, Sub.refl, (qy lv μ' e l0 l1 s2 BR').2 hg dx hdx⟩⟩, fun z dx hdx => ⟨_, Sub.refl, qn z dx hdx⟩⟩
  subst e
  obtain ⟨g, rfl, hm⟩ := isG_true hg
  obtain ⟨dx1, gl1, tl1, lvs1, hb1, _⟩ := id BR'
  have hT1 := s2_tab BR s2 hT
  walk_at "go"
  refine a_lc1 id (fun x => match x with | .tup xs => inD (.int g.1) xs && inD (.int g.2) xs | _ => false) (ai_T ?_)
  walk_at "go"
  refine ⟨b, dx1, _, rfl, hb1, rfl, ?_⟩
  walk_at "go"
  refine use_tris BR' OK l0 (by omega) hT1 fun μ2 s3 BR2 => ?_
  have tl := tris_len OK (lv := lv)
  refine ⟨_, rfl, ?_, fun x hx => ?_, fun x hx _ => ?_, fun l2 hl2 => ?_⟩
  · rw [List.length_map]
    exact Nat.lt_of_le_of_lt tl (by have := sizeLine_eq; omega)
  · obtain ⟨t, ht, rfl⟩ := List.mem_map.mp hx
    walk_at "nf"
    walk_at "go"
    cases e1 : inD (D.int g.fst) [D.int t.fst, D.int t.snd.fst, D.int t.snd.snd]
    · simp
    · simp only [if_true, Bool.true_and]
      walk_at "go"
      simp
  · walk_at "nf"
    walk_at "go"
    exact ⟨rfl, rfl⟩
  walk_at "go"
  refine rc_tuple (seq_ref set_same) ?_
  have e9 : ((List.map (fun t => encT t) (trisL w h rows lv)).filter (fun x => match x with | D.tup xs => inD (D.int g.1) xs && inD (D.int g.2) xs | _ => false)).map id = (besL w h rows lv g).map encT := bes_eq
  rw [e9]
  exact up_of (sub_new Sub.refl hl2) ((qy lv μ2 rfl l0 l1 (s2_trans s2 s3) BR2).1 g rfl hm)
open MT
theorem app_len (a b : Str) : (a ++ b).length = a.length + b.length := by
  rw [TL.len_tl, TL.tl_append, List.length_append, ← TL.len_tl, ← TL.len_tl]
theorem sum_le {ws : List Str} {k : Nat} (h : ∀ w ∈ ws, w.length ≤ k) : (ws.map (·.length)).sum ≤ ws.length * k := by
  induction ws with
  | nil => simp
  | cons a r ih =>
    have i := ih fun w hw => h w (List.mem_cons_of_mem _ hw)
    have a1 := h a List.mem_cons_self
    rw [List.map_cons, List.sum_cons, List.length_cons, Nat.succ_mul]
    omega
theorem big_log {n : Int} (h : n.natAbs < 10 ^ 30) : n.natAbs.log2 < 1920 := by
  by_cases z : n.natAbs = 0
  · rw [z]; decide
  · exact Nat.lt_of_lt_of_le ((Nat.log2_lt z).mpr (Nat.lt_of_lt_of_le h (show 10 ^ 30 ≤ 2 ^ 100 by decide))) (by decide)
/-- four numbers that can be written -/
structure Q4Ok (q : Q4) : Prop where
  a : q.1.natAbs < 10 ^ 30
  b : q.2.1.natAbs < 10 ^ 30
  c : q.2.2.1.natAbs < 10 ^ 30
  d : q.2.2.2.natAbs < 10 ^ 30
theorem q4S_len {q : Q4} (k : Q4Ok q) : (q4S q).length ≤ 127 := by
  have h1 := num_len k.a
  have h2 := num_len k.b
  have h3 := num_len k.c
  have h4 := num_len k.d
  rw [q4S_app]
  simp only [app_len]
  rw [show (Str.ofString " ").length = 1 from rfl]
  omega
def ofR : D → Q4
  | .tup [.int a, .int b, .int c, .int d] => (a, b, c, d)
  | _ => (0, 0, 0, 0)
def P_board_len (C : Addr) : PT3 := fun ds μ Φ => ∃ b w h rows l s sp kg kt, ds = [.ref b] ∧ Brd C μ b w h rows l s sp kg kt ∧ Φ (.int ((spots w h rows).length : Nat)) μ
theorem len_board_len (C : Addr) (ds : List D) (μ : M) (Φ : D → M → Prop) (h : P_board_len C ds μ Φ) : ds.length = 1 := by
  obtain ⟨_, _, _, _, _, _, _, _, _, rfl, _⟩ := h
  rfl
def P_board_str (C : Addr) : PT3 := fun ds μ Φ => ∃ b w h rows l s sp kg kt, ds = [.ref b] ∧ Brd C μ b w h rows l s sp kg kt ∧ Q4Ok (w, h, l, s) ∧ (∀ r ∈ rows, Q4Ok r) ∧ rows.length ≤ 16 ∧ Φ (.str (brdS (w, h, l, s) rows)) μ
theorem len_board_str (C : Addr) (ds : List D) (μ : M) (Φ : D → M → Prop) (h : P_board_str C ds μ Φ) : ds.length = 1 := by
  obtain ⟨_, _, _, _, _, _, _, _, _, rfl, _⟩ := h
  rfl
def P_board_made_of (C : Addr) : PT3 := fun ds μ Φ => ∃ b w h rows l s sp kg kt, ds = [.ref b] ∧ Brd C μ b w h rows l s sp kg kt ∧ Φ (.tup [.int w, .int h, .tup (rows.map encR), .int l, .int s]) μ
theorem len_board_made_of (C : Addr) (ds : List D) (μ : M) (Φ : D → M → Prop) (h : P_board_made_of C ds μ Φ) : ds.length = 1 := by
  obtain ⟨_, _, _, _, _, _, _, _, _, rfl, _⟩ := h
  rfl
theorem ok_board_made_of {f : Addr} {fd : FuncData} (F : Fun K "made_of" "Board.made_of" s_board_made_of f fd) (B : Bs mg) {C_Board : Addr} (K_Board : Cl_Board K C_Board) : FnOk P w K mg base CX0 1 f fd ["self"] (spI K (P_board_made_of C_Board)) := by
  refine F.ok sc_board_made_of (fun vs H Q E h => spI_len h (len_board_made_of C_Board)) (fun cdv A outer s H vs Q E hr h => ?_)
  have hu65 := hu65_of hr
  refine ⟨_, (pss_one (ps_ret (pe_tup (pa_cons (pe_fldK (K := K) rfl (pv 0) rfl) (pa_cons (pe_fldK (K := K) rfl (pv 0) rfl) (pa_cons (pe_fldK (K := K) rfl (pv 0) rfl) (pa_cons (pe_fldK (K := K) rfl (pv 0) rfl) (pa_cons (pe_fldK (K := K) rfl (pv 0) rfl) pa_nil)))))))), body_ok h (fun ds μ Φ p => ?_)⟩
  (try dsimp only [cxOf, Cx.nox, Cx.wish, List.map_cons, List.map_nil])
  obtain ⟨b, w, h, rows, l, s, sp, kg, kt, rfl, BR, q⟩ := p
  obtain ⟨dx, gl, tl, lvs, hb, hsp, hkg, hkt⟩ := id BR
  show AS K _ [some _] _ _
  walk_at "go"
  refine a_fld ?_
  walk_at "go"
  refine ⟨b, C_Board, dx, _, rfl, hb, K_Board.cls, K_Board.n_wide, _, rfl, ?_⟩
  walk_at "go"
  refine a_fld ?_
  walk_at "go"
  refine ⟨b, C_Board, dx, _, rfl, hb, K_Board.cls, K_Board.n_high, _, rfl, ?_⟩
  walk_at "go"
  refine a_fld ?_
  walk_at "go"
  refine ⟨b, C_Board, dx, _, rfl, hb, K_Board.cls, K_Board.n_pin_rows, _, rfl, ?_⟩
  walk_at "go"
  refine a_fld ?_
  walk_at "go"
  refine ⟨b, C_Board, dx, _, rfl, hb, K_Board.cls, K_Board.n_layer_count, _, rfl, ?_⟩
  walk_at "go"
  refine a_fld ?_
  walk_at "go"
  refine ⟨b, C_Board, dx, _, rfl, hb, K_Board.cls, K_Board.n_apart_by, _, rfl, ?_⟩
  walk_at "go"
  exact q
/-- what a board is made of -/
abbrev mkD (w h : Int) (rows : List R4) (fl gap : Int) : D := .tup [.int w, .int h, .tup (rows.map encR), .int fl, .int gap]
theorem okn_mk {w h : Int} {rows : List R4} {fl gap : Int} : OkN 4 (mkD w h rows fl gap) := okn_tup fun z hz => by
  simp only [List.mem_cons, List.not_mem_nil, or_false] at hz
  rcases hz with rfl | rfl | rfl | rfl | rfl
  · exact okn_int.mono (by decide)
  · exact okn_int.mono (by decide)
  · refine OkN.mono (n := 2) (okn_tup fun r hr => ?_) (by decide)
    obtain ⟨q, _, rfl⟩ := List.mem_map.mp hr
    exact okn_tup fun x hx => by
      simp only [List.mem_cons, List.not_mem_nil, or_false] at hx
      rcases hx with rfl | rfl | rfl | rfl <;> exact okn_int
  · exact okn_int.mono (by decide)
  · exact okn_int.mono (by decide)
theorem its_map {α : Type} {f : α → D} (h : ∀ a, D.it (f a) = true) : ∀ l : List α, D.its (l.map f) = true
  | [] => rfl
  | a :: l => by
    show (D.it (f a) && D.its (l.map f)) = true
    rw [h a, its_map h l]
    rfl
theorem it_mk {w h : Int} {rows : List R4} {fl gap : Int} : D.it (mkD w h rows fl gap) = true := by
  show (true && (true && (D.its (rows.map encR) && (true && (true && true))))) = true
  rw [its_map fun _ => rfl]
  rfl
theorem mk_inj {w h w' h' : Int} {rows rows' : List R4} {fl gap fl' gap' : Int} (e : mkD w h rows fl gap = mkD w' h' rows' fl' gap') : w = w' ∧ h = h' ∧ rows = rows' ∧ fl = fl' ∧ gap = gap' := by
  have inj : ∀ {l m : List R4}, l.map encR = m.map encR → l = m := by
    intro l
    induction l with
    | nil => intro m e; cases m <;> simp at e ⊢
    | cons a l ih =>
      intro m e
      cases m with
      | nil => simp at e
      | cons c m =>
        rw [List.map_cons, List.map_cons, List.cons.injEq] at e
        rw [ih e.2]
        have e1 := e.1
        simp only [encR, D.tup.injEq, List.cons.injEq, D.int.injEq, and_true] at e1
        rw [show a = c from Prod.ext e1.1 (Prod.ext e1.2.1 (Prod.ext e1.2.2.1 e1.2.2.2))]
  simp only [mkD, D.tup.injEq, List.cons.injEq, D.int.injEq, and_true] at e
  exact ⟨e.1, e.2.1, inj e.2.2.1, e.2.2.2.1, e.2.2.2.2⟩
/-- made of the same -/
def sameB (w h : Int) (rows : List R4) (fl gap w' h' : Int) (rows' : List R4) (fl' gap' : Int) : Bool := decide (w = w' ∧ h = h') && decide (rows = rows') && decide (fl = fl' ∧ gap = gap')
theorem same_iff {w h w' h' : Int} {rows rows' : List R4} {fl gap fl' gap' : Int} : sameB w h rows fl gap w' h' rows' fl' gap' = true ↔ mkD w h rows fl gap = mkD w' h' rows' fl' gap' := by
  unfold sameB
  rw [Bool.and_eq_true, Bool.and_eq_true, decide_eq_true_eq, decide_eq_true_eq, decide_eq_true_eq]
  refine ⟨fun ⟨⟨⟨a, b⟩, c⟩, d, e⟩ => by rw [a, b, c, d, e], fun e => ?_⟩
  obtain ⟨a, b, c, d, e⟩ := mk_inj e
  exact ⟨⟨⟨a, b⟩, c⟩, d, e⟩
theorem same_self {w h : Int} {rows : List R4} {fl gap : Int} : sameB w h rows fl gap w h rows fl gap = true := same_iff.mpr rfl
theorem eqv_mk {w h w' h' : Int} {rows rows' : List R4} {fl gap fl' gap' : Int} : D.eqv (mkD w h rows fl gap) (mkD w' h' rows' fl' gap') = sameB w h rows fl gap w' h' rows' fl' gap' := by
  rw [Bool.eq_iff_iff, same_iff]
  exact eqv_dec it_mk it_mk
def P_board_eq (C : Addr) : PT3 := fun ds μ Φ => ∃ a d w h rows l s sp kg kt, ds = [.ref a, d] ∧ Brd C μ a w h rows l s sp kg kt ∧
  ((∃ b w' h' rows' l' s' sp' kg' kt', d = .ref b ∧ Brd C μ b w' h' rows' l' s' sp' kg' kt' ∧ Φ (.bl (sameB w h rows l s w' h' rows' l' s')) μ) ∨
   (∃ n, tyn μ d = some n ∧ n ∈ (["NoneType", "int", "bool", "tuple", "str", "list"] : List String) ∧ Φ (.bl false) μ))
theorem len_board_eq (C : Addr) (ds : List D) (μ : M) (Φ : D → M → Prop) (h : P_board_eq C ds μ Φ) : ds.length = 2 := by
  obtain ⟨_, _, _, _, _, _, _, _, _, _, rfl, _⟩ := h
  rfl
theorem ok_board_eq {f : Addr} {fd : FuncData} (F : Fun K "__eq__" "Board.__eq__" s_board_eq f fd) (B : Bs mg) {C_Board : Addr} (K_Board : Cl_Board K C_Board) (O_Board : OwnC K C_Board) (V_Board : Cst mg "Board" (.ref C_Board)) (G_board_made_of : Mth P w K mg base C_Board "made_of" ["self"] 1 (spI K (P_board_made_of C_Board))) : FnOk P w K mg base CX0 2 f fd ["self", "other"] (spI K (P_board_eq C_Board)) := by
  refine F.ok sc_board_eq (fun vs H Q E h => spI_len h (len_board_eq C_Board)) (fun cdv A outer s H vs Q E hr h => ?_)
  have hu65 := hu65_of hr
  refine ⟨_, (pss_one (ps_ret (pe_and (pe_callB (call_isiK1 (K := K) rfl) (by rfl) B.b_isinstance (by decide +kernel) (pa_cons (pv 1) (pa_cons (pe_cst V_Board (by rfl)) pa_nil))) (pe_one (pe_cmpR (op_eqDK (K := K) rfl hr.units) (pe_mthN0 G_board_made_of (hr.mono (by decide)) (pv 0)) (pe_mthN0 G_board_made_of (hr.mono (by decide)) (pv 1)) (by first | exact nomark _ | rfl)))))), body_ok h (fun ds μ Φ p => ?_)⟩
  (try dsimp only [cxOf, Cx.nox, Cx.wish, List.map_cons, List.map_nil])
  obtain ⟨a, d, w, h, rows, l, s, sp, kg, kt, rfl, BR, o⟩ := p
  obtain ⟨dx, gl, tl, lvs, hb, hsp, hkg, hkt⟩ := id BR
  show AS K _ [some _, some _] _ _
  walk_at "go"
  rcases o with ⟨b, w', h', rows', l', s', sp', kg', kt', rfl, BR', q⟩ | ⟨n, hn, hm, q⟩
  · obtain ⟨dx', gl', tl', lvs', hb', hsp', hkg', hkt'⟩ := id BR'
    refine rc_isiO hb' K_Board.cls O_Board.isi (.inr ⟨_, rfl, rfl⟩) O_Board.self ?_
    walk_at "go"
    refine ⟨a, dx, _, rfl, hb, rfl, ?_⟩
    walk_at "go"
    refine ⟨a, w, h, rows, l, s, sp, kg, kt, rfl, BR, ?_⟩
    walk_at "go"
    refine ⟨b, dx', _, rfl, hb', rfl, ?_⟩
    walk_at "go"
    refine ⟨b, w', h', rows', l', s', sp', kg', kt', rfl, BR', ?_⟩
    refine ro_eqD (okn_mk.ok (by decide)) (okn_mk.ok (by decide)) ?_
    rw [eqv_mk]
    exact q
  · refine rc_isiD hn (O_Board.kitD hm) ?_
    walk_at "go"
    exact q
theorem ok_board_len {f : Addr} {fd : FuncData} (F : Fun K "__len__" "Board.__len__" s_board_len f fd) (B : Bs mg) {C_Board : Addr} (K_Board : Cl_Board K C_Board) : FnOk P w K mg base CX0 1 f fd ["self"] (spI K (P_board_len C_Board)) := by
  refine F.ok sc_board_len (fun vs H Q E h => spI_len h (len_board_len C_Board)) (fun cdv A outer s H vs Q E hr h => ?_)
  have hu65 := hu65_of hr
  refine ⟨_, (pss_one (ps_ret (pe_callB (call_lenK (K := K) rfl) (by rfl) B.b_len (by decide +kernel) (pa_cons (pe_fldK (K := K) rfl (pv 0) rfl) pa_nil)))), body_ok h (fun ds μ Φ p => ?_)⟩
  (try dsimp only [cxOf, Cx.nox, Cx.wish, List.map_cons, List.map_nil])
  obtain ⟨b, w, h, rows, l, s, sp, kg, kt, rfl, ⟨dx, gl, tl, lvs, hb, hsp, hkg, hkt⟩, q⟩ := p
  show AS K _ [some _] _ _
  walk_at "go"
  refine a_fld ?_
  walk_at "go"
  refine ⟨b, C_Board, dx, _, rfl, hb, K_Board.cls, K_Board.n_spots, _, rfl, ?_⟩
  walk_at "go"
  rw [List.length_map]
  exact q
theorem ok_board_str {f : Addr} {fd : FuncData} (F : Fun K "__str__" "Board.__str__" s_board_str f fd) (B : Bs mg) {C_Board : Addr} (K_Board : Cl_Board K C_Board) : FnOk P w K mg base CX0 1 f fd ["self"] (spI K (P_board_str C_Board)) := by
  refine F.ok sc_board_str (fun vs H Q E h => spI_len h (len_board_str C_Board)) (fun cdv A outer s H vs Q E hr h => ?_)
  have hu65 := hu65_of hr
  refine ⟨_, (pss_cons (ps_set (i := 1) sc_board_str.nd rfl (by first | exact Or.inl rfl | exact Or.inr rfl) (pe_lst (pa_cons (pe_joined (.cons (pe_fmt (pe_fldK (K := K) rfl (pv 0) rfl)) (.cons pe_str (.cons (pe_fmt (pe_fldK (K := K) rfl (pv 0) rfl)) (.cons pe_str (.cons (pe_fmt (pe_fldK (K := K) rfl (pv 0) rfl)) (.cons pe_str (.cons (pe_fmt (pe_fldK (K := K) rfl (pv 0) rfl)) .nil)))))))) pa_nil)))
      (pss_one (ps_ret (pe_joinK (K := K) rfl pe_str (pe_op op_cat (pv 1) (pe_lc (own := [("x", 2), ("y", 3), ("first", 4), ("last", 5)]) (g := gTup K 4 (gCons (gName 2) (gCons (gName 3) (gCons (gName 4) (gCons (gName 5) gNil))))) (tt := tYes) rfl sc_board_str.nd (pi_tupK (K := K) rfl (pe_fldK (K := K) rfl (pv 0) rfl)) (blkOk_by (own := [("x", 2), ("y", 3), ("first", 4), ("last", 5)]) (N := N_board_str) (sc := defScope s_board_str) (by decide +kernel)) (fun _ _ _ _ _ => (pg_tup (by rfl) (pgs_cons (pg_name (i := 2) sc_board_str.nd rfl (by first | exact Or.inl rfl | exact Or.inr rfl)) (pgs_cons (pg_name (i := 3) sc_board_str.nd rfl (by first | exact Or.inl rfl | exact Or.inr rfl)) (pgs_cons (pg_name (i := 4) sc_board_str.nd rfl (by first | exact Or.inl rfl | exact Or.inr rfl)) (pgs_cons (pg_name (i := 5) sc_board_str.nd rfl (by first | exact Or.inl rfl | exact Or.inr rfl)) pgs_nil)))))) (fun _ _ _ _ _ => pts_nil) (fun _ _ _ _ _ => (pe_joined (.cons (pe_fmt (pv 2)) (.cons pe_str (.cons (pe_fmt (pv 3)) (.cons pe_str (.cons (pe_fmt (pv 4)) (.cons pe_str (.cons (pe_fmt (pv 5)) .nil))))))))))))))), body_okU h (fun ds μ Φ p => ?_)⟩
  (try dsimp only [cxOf, Cx.nox, Cx.wish, List.map_cons, List.map_nil])
  obtain ⟨b, w, h, rows, l, s, sp, kg, kt, rfl, ⟨dx, gl, tl, lvs, hb, hsp, hkg, hkt⟩, ok, oks, few, q⟩ := p
  show AS K _ [some _, none, none, none, none, none] _ _
  have n1 : (Str.ofString (toString w)).length ≤ 31 := num_len ok.a
  have n2 : (Str.ofString (toString h)).length ≤ 31 := num_len ok.b
  have n3 : (Str.ofString (toString l)).length ≤ 31 := num_len ok.c
  have n4 : (Str.ofString (toString s)).length ≤ 31 := num_len ok.d
  walk_at "go"
  have look : ∀ (f : Str) (d : D), ([("wide", .int w), ("high", .int h), ("pin_rows", .tup (rows.map encR)), ("layer_count", .int l), ("apart_by", .int s), ("spots", .ref sp), ("kept_gates", .ref kg), ("kept_triangles", .ref kt)] : List (Str × D)).lookup f = some d → NoAttr K C_Board f → ∀ (i : Int) (Ψ : D → M → Prop), d = .int i → Ψ (.int i) μ → AE K (tFld K (tVar 0) f) [some (.ref b), none, none, none, none, none] μ Ψ := fun f d e no i Ψ ed q => by
    subst ed
    refine a_fld ?_
    walk_at "go"
    exact ⟨b, C_Board, dx, _, rfl, hb, K_Board.cls, no, _, e, q⟩
  have s1 : (Str.ofString " ").length = 1 := rfl
  have big : 1000 ≤ sizeLine := by have := sizeLine_eq; omega
  have fits : ∀ {y : Str}, y.length ≤ 1000 → y.length ≤ sizeLine := fun k => Nat.le_trans k big
  have em : ∀ y : Str, Str.empty ++ y = y := fun y => TL.ext_tl (by rw [TL.tl_append]; rfl)
  refine aj_cons (a_fmtI (big_log ok.a) (look "wide" _ rfl K_Board.n_wide w _ rfl ⟨rfl, ⟨_, rfl, ?_, ?_⟩⟩))
  · exact fits (by simp only [em, app_len, s1]; omega)
  rw [em]
  refine aj_cons (a_str ⟨_, rfl, ?_, ?_⟩)
  · exact fits (by simp only [em, app_len, s1]; omega)
  refine aj_cons (a_fmtI (big_log ok.b) (look "high" _ rfl K_Board.n_high h _ rfl ⟨rfl, _, rfl, ?_, ?_⟩))
  · exact fits (by simp only [em, app_len, s1]; omega)
  refine aj_cons (a_str ⟨_, rfl, ?_, ?_⟩)
  · exact fits (by simp only [em, app_len, s1]; omega)
  refine aj_cons (a_fmtI (big_log ok.c) (look "layer_count" _ rfl K_Board.n_layer_count l _ rfl ⟨rfl, _, rfl, ?_, ?_⟩))
  · exact fits (by simp only [em, app_len, s1]; omega)
  refine aj_cons (a_str ⟨_, rfl, ?_, ?_⟩)
  · exact fits (by simp only [em, app_len, s1]; omega)
  refine aj_cons (a_fmtI (big_log ok.d) (look "apart_by" _ rfl K_Board.n_apart_by s _ rfl ⟨rfl, _, rfl, ?_, ?_⟩))
  · exact fits (by simp only [em, app_len, s1]; omega)
  refine aj_nil ?_
  have e0 := q4S_app (w, h, l, s)
  rw [← show q4S (w, h, l, s) = _ from e0]
  walk_at "go"
  intro l1 hl1
  walk_at "go"
  refine m_joinV (a := " ; ") ?_
  walk_at "go"
  refine ⟨rfl, ?_⟩
  walk_at "go"
  refine a_lcp tg_4 (fun d => .str (q4S (ofR d))) (fun _ => true) (ai_T ?_)
  refine a_fld ?_
  walk_at "go"
  have nb : l1 ≠ b := ne_of_some hl1 hb
  refine ⟨b, C_Board, dx, _, rfl, by rw [set_ne (Ne.symm nb)]; exact hb, K_Board.cls, K_Board.n_pin_rows, _, rfl, _, rfl, by rw [List.length_map]; exact Nat.lt_of_le_of_lt few (by decide), fun x hx => ?_, fun l2 hl2 => ?_⟩
  · obtain ⟨r, hr, rfl⟩ := List.mem_map.mp hx
    have k := oks r hr
    have m1 : (Str.ofString (toString r.1)).length ≤ 31 := num_len k.a
    have m2 : (Str.ofString (toString r.2.1)).length ≤ 31 := num_len k.b
    have m3 : (Str.ofString (toString r.2.2.1)).length ≤ 31 := num_len k.c
    have m4 : (Str.ofString (toString r.2.2.2)).length ≤ 31 := num_len k.d
    refine ⟨_, ⟨rfl, rfl⟩, rfl, at_yes ⟨rfl, rfl⟩, fun _ => ?_⟩
    walk_at "nf"
    walk_at "go"
    refine aj_cons (a_fmtI (big_log k.a) (a_var rfl ⟨rfl, _, rfl, ?_, ?_⟩))
    · exact fits (by simp only [em, app_len, s1]; omega)
    rw [em]
    refine aj_cons (a_str ⟨_, rfl, ?_, ?_⟩)
    · exact fits (by simp only [em, app_len, s1]; omega)
    refine aj_cons (a_fmtI (big_log k.b) (a_var rfl ⟨rfl, _, rfl, ?_, ?_⟩))
    · exact fits (by simp only [em, app_len, s1]; omega)
    refine aj_cons (a_str ⟨_, rfl, ?_, ?_⟩)
    · exact fits (by simp only [em, app_len, s1]; omega)
    refine aj_cons (a_fmtI (big_log k.c) (a_var rfl ⟨rfl, _, rfl, ?_, ?_⟩))
    · exact fits (by simp only [em, app_len, s1]; omega)
    refine aj_cons (a_str ⟨_, rfl, ?_, ?_⟩)
    · exact fits (by simp only [em, app_len, s1]; omega)
    refine aj_cons (a_fmtI (big_log k.d) (a_var rfl ⟨rfl, _, rfl, ?_, ?_⟩))
    · exact fits (by simp only [em, app_len, s1]; omega)
    refine aj_nil ⟨?_, rfl⟩
    have e0 := q4S_app r
    rw [← show q4S r = _ from e0]
    rfl
  rw [List.filter_eq_self.mpr (fun _ _ => rfl), List.map_map, show rows.map ((fun d => D.str (q4S (ofR d))) ∘ encR) = (rows.map q4S).map D.str from by rw [List.map_map]; rfl]
  have n2' := none_ne hl2
  refine ro_cat (by rw [set_ne (Ne.symm n2')]; exact set_same) set_same (by rw [List.length_map, List.length_map]; simp only [List.length_cons, List.length_nil]; have := sizeLine_eq; omega) fun l3 hl3 => ?_
  refine ⟨q4S (w, h, l, s) :: rows.map q4S, seq_ref set_same, ?_, up_of ?_ q⟩
  · have := sum_le (ws := q4S (w, h, l, s) :: rows.map q4S) (k := 127) fun y hy => by
      rcases List.mem_cons.mp hy with rfl | hy
      · exact q4S_len ok
      · obtain ⟨r, hr, rfl⟩ := List.mem_map.mp hy
        exact q4S_len (oks r hr)
    rw [List.length_cons, List.length_map] at this ⊢
    rw [show (Str.ofString " ; ").length = 3 from rfl]
    omega
  · exact sub_new (sub_new (sub_new Sub.refl hl1) hl2) hl3
def P_board_point (C : Addr) : PT4 := fun ds μ Φ Ξ => ∃ b d w h rows l s sp kg kt, ds = [.ref b, d] ∧ Brd C μ b w h rows l s sp kg kt ∧ Kd μ d ∧
  (∀ i p, d = .int i → 0 ≤ i → (spots w h rows)[i.toNat]? = some p → Φ (encS p) μ) ∧ (wi d 0 (rows.length + 3) = false → ∀ dx, μ dx = none → Ξ "NoPin" (some dx) (μ.set dx (.xd [("pin", d)])))
theorem len_board_point (C : Addr) (ds : List D) (μ : M) (Φ : D → M → Prop) (Ξ : XW) (h : P_board_point C ds μ Φ Ξ) : ds.length = 2 := by
  obtain ⟨_, _, _, _, _, _, _, _, _, _, rfl, _⟩ := h
  rfl
theorem ok_board_point {f : Addr} {fd : FuncData} (F : Fun K "point" "Board.point" s_board_point f fd) (B : Bs mg) {C_Board : Addr} (K_Board : Cl_Board K C_Board) (G_board_look_pin : Mth P w K mg base C_Board "look_pin" ["self", "number"] 4 (spX K (xn mg) (P_board_look_pin C_Board))) : FnOk P w K mg base (L2.CX P w) 5 f fd ["self", "pin"] (spX K (xn mg) (P_board_point C_Board)) := by
  refine F.okX sc_board_point (fun vs H Q E h => spX_len h (len_board_point C_Board)) (fun cdv A outer s H vs Q E hr h => ?_)
  have hu65 := hu65_of hr
  refine ⟨_, (pss_cons (ps_expr (pe_mthX (takes_of rfl rfl rfl rfl) G_board_look_pin (hr.mono (by decide)) (pv 0) (pa_cons (pv 1) pa_nil)))
      (pss_one (ps_ret (pe_ix (ix_seqK (K := K) rfl) (pe_fldK (K := K) rfl (pv 0) rfl) (pv 1) (fun _ _ => rfl))))), body_okX h (fun ds μ Φ Ξ p => ?_)⟩
  (try dsimp only [cxOf, Cx.nox, Cx.wish, List.map_cons, List.map_nil])
  obtain ⟨b, d, w, h, rows, l, s, sp, kg, kt, rfl, BR, kd, qy, qn⟩ := p
  obtain ⟨dx, gl, tl, lvs, hb, hsp, hkg, hkt⟩ := id BR
  show AS K _ [some _, some _] _ _
  walk_at "go"
  refine ⟨b, dx, _, rfl, hb, rfl, ?_⟩
  walk_at "go"
  refine ⟨b, d, w, h, rows, l, s, sp, kg, kt, rfl, BR, kd, fun h1 => ?_, fun h1 => qn h1⟩
  obtain ⟨i, rfl, i0, i1⟩ := wi_int h1
  have hi : i.toNat < (spots w h rows).length := by rw [spots_len]; omega
  have at_ : (spots w h rows)[i.toNat]? = some (spots w h rows)[i.toNat] := List.getElem?_eq_getElem hi
  walk_at "go"
  refine a_fld ?_
  walk_at "go"
  refine ⟨b, C_Board, dx, _, rfl, hb, K_Board.cls, K_Board.n_spots, _, rfl, ?_⟩
  walk_at "go"
  refine ro_ix (seq_ref hsp) (atI_map i0 at_) ?_
  exact qy i _ rfl i0 at_
def P_l_whole : PT3 := fun ds μ Φ => ∃ n : Int, ds = [.int n] ∧ Φ (.bl true) μ
theorem len_l_whole (ds : List D) (μ : M) (Φ : D → M → Prop) (h : P_l_whole ds μ Φ) : ds.length = 1 := by
  obtain ⟨_, rfl, _⟩ := h
  rfl
theorem ok_l_whole {f : Addr} {fd : FuncData} (F : Fun K "_law_whole" "_law_whole" s_l_whole f fd) (B : Bs mg) : FnOk P w K mg base CX0 1 f fd ["_law_thing"] (spI K P_l_whole) := by
  refine F.ok sc_l_whole (fun vs H Q E h => spI_len h len_l_whole) (fun cdv A outer s H vs Q E hr h => ?_)
  have hu65 := hu65_of hr
  refine ⟨_, (pss_one (ps_ret (pe_and (pe_callB (call_isiK1 (K := K) rfl) (by rfl) B.b_isinstance (by decide +kernel) (pa_cons (pv 0) (pa_cons (pe_bltn (v := .ty "int") (by rfl) B.b_int (by decide +kernel) rfl) pa_nil))) (pe_one (pe_not (pe_callB (call_isiK1 (K := K) rfl) (by rfl) B.b_isinstance (by decide +kernel) (pa_cons (pv 0) (pa_cons (pe_bltn (v := .ty "bool") (by rfl) B.b_bool (by decide +kernel) rfl) pa_nil)))))))), body_ok h (fun ds μ Φ p => ?_)⟩
  (try dsimp only [cxOf, Cx.nox, Cx.wish, List.map_cons, List.map_nil])
  obtain ⟨n, rfl, q⟩ := p
  show AS K _ [some _] _ _
  walk_at "go"
  exact q
/-- what is no number from 0 to a most one -/
structure Odd5 (d : D) (most : Int) : Prop where
  kd : ∀ μ, Kd μ d
  ok : OkN 1 d
  no : wi d 0 most = false
theorem eqv_same {n : Nat} {d : D} (h : OkN n d) : D.eqv d d = true := SeqAt.eqv_refl _ h.l
def P_l_odd : PT3 := fun ds μ Φ => ∃ (b : Addr) (most c m : Int), ds = [.ref b, .int most] ∧ μ b = some (.lst [.int c, .int m]) ∧ BgOk m ∧ 0 ≤ most ∧ most ≤ 100 ∧ ∀ d c' m', Odd5 d most → BgOk m' → Φ d (μ.set b (.lst [.int c', .int m']))
theorem len_l_odd (ds : List D) (μ : M) (Φ : D → M → Prop) (h : P_l_odd ds μ Φ) : ds.length = 2 := by
  obtain ⟨_, _, _, _, rfl, _⟩ := h
  rfl
theorem odd_int {i most : Int} (h : i < 0 ∨ most < i) : Odd5 (.int i) most := ⟨fun _ => kd_int, okn_int.mono (by decide), by
  simp only [wi, Bool.and_eq_false_iff, decide_eq_false_iff_not]
  omega⟩
theorem ok_l_odd {f : Addr} {fd : FuncData} (F : Fun K "_law_odd" "_law_odd" s_l_odd f fd) (B : Bs mg) (G_l_take : Def P w K mg base "_law_take" ["_law_bag_here", "_law_many"] 1 (spI K P_l_take)) : FnOk P w K mg base CX0 3 f fd ["_law_bag_here", "_law_most"] (spI K P_l_odd) := by
  refine F.ok sc_l_odd (fun vs H Q E h => spI_len h len_l_odd) (fun cdv A outer s H vs Q E hr h => ?_)
  have hu65 := hu65_of hr
  refine ⟨_, (pss_cons (ps_set (i := 2) sc_l_odd.nd rfl (by first | exact Or.inl rfl | exact Or.inr rfl) (pe_op op_sub (pe_op op_pow pe_int pe_int) (pe_def G_l_take (hr.mono (by decide)) (by rfl) (pa_cons (pv 0) (pa_cons (pe_op op_pow pe_int pe_int) pa_nil)))))
      (pss_cons (ps_set (i := 3) sc_l_odd.nd rfl (by first | exact Or.inl rfl | exact Or.inr rfl) (pe_lst (pa_cons (pe_op op_add (pv 1) pe_int) (pa_cons (pe_un un_neg pe_int) (pa_cons (pe_op op_add (pe_op op_add (pv 1) pe_int) (pe_def G_l_take (hr.mono (by decide)) (by rfl) (pa_cons (pv 0) (pa_cons pe_int pa_nil)))) (pa_cons (pv 2) (pa_cons (pe_op op_sub pe_int (pv 2)) (pa_cons pe_bl (pa_cons pe_bl pa_nil)))))))))
      (pss_one (ps_ret (pe_ix (ix_seqK (K := K) rfl) (pe_op op_cat (pv 3) (pe_lst (pa_cons pe_non (pa_cons pe_str (pa_cons (pe_tup (pa_cons pe_int pa_nil)) (pa_cons (pe_tup pa_nil) pa_nil)))))) (pe_def G_l_take (hr.mono (by decide)) (by rfl) (pa_cons (pv 0) (pa_cons pe_int pa_nil))) (fun _ _ => rfl)))))), body_okU h (fun ds μ Φ p => ?_)⟩
  (try dsimp only [cxOf, Cx.nox, Cx.wish, List.map_cons, List.map_nil])
  obtain ⟨b, most, c, m, rfl, hb, hm, m0, m1, q⟩ := p
  show AS K _ [some _, some _, none, none] _ _
  walk_at "go"
  refine use_take hb hm (by decide) (by walk_at "szN") fun d1 c1 m1' a1 a2 s1 hm1 => ?_
  walk_at "go"
  refine use_take set_same hm1 (by decide) (by walk_at "szN") fun d2 c2 m2 b1 b2 s2 hm2 => ?_
  walk_at "go"
  rw [set_set]
  intro l1 hl1
  have n1 : l1 ≠ b := none_ne hl1
  walk_at "go"
  intro l2 hl2
  have n2 : l2 ≠ b := none_ne (none_back hl2)
  have n12 : l2 ≠ l1 := none_ne hl2
  walk_at "go"
  intro l3 hl3
  have n3 : l3 ≠ b := none_ne (none_back (none_back hl3))
  have n31 : l3 ≠ l1 := none_ne (none_back hl3)
  have n32 : l3 ≠ l2 := none_ne hl3
  walk_at "go"
  walk_at "go"
  refine use_take (by walk_at "mu") hm2 (by decide) (by walk_at "szN") fun d3 c3 m3 e1 e2 s3 hm3 => ?_
  obtain ⟨x, hx, odd⟩ : ∃ x : D, atI ([D.int (most + 1), D.int (-1), D.int (most + 2 + d2), D.int (100000000000000000000000000000 - d1), D.int (0 - (100000000000000000000000000000 - d1)), D.bl true, D.bl false] ++ [D.non, D.str (Str.ofString "0"), D.tup [D.int 0], D.tup []]) d3 = some x ∧ Odd5 x most := by
    have cases11 : d3 = 0 ∨ d3 = 1 ∨ d3 = 2 ∨ d3 = 3 ∨ d3 = 4 ∨ d3 = 5 ∨ d3 = 6 ∨ d3 = 7 ∨ d3 = 8 ∨ d3 = 9 ∨ d3 = 10 := by omega
    rcases cases11 with e | e | e | e | e | e | e | e | e | e | e <;> subst e
    · exact ⟨_, rfl, odd_int (by omega)⟩
    · exact ⟨_, rfl, odd_int (by omega)⟩
    · exact ⟨_, rfl, odd_int (by omega)⟩
    · exact ⟨_, rfl, odd_int (by omega)⟩
    · exact ⟨_, rfl, odd_int (by omega)⟩
    · exact ⟨_, rfl, fun _ => kd_bl, okn_bl.mono (by decide), rfl⟩
    · exact ⟨_, rfl, fun _ => kd_bl, okn_bl.mono (by decide), rfl⟩
    · exact ⟨_, rfl, fun _ => kd_non, okn_non.mono (by decide), rfl⟩
    · exact ⟨_, rfl, fun _ => kd_str, (okn_str (by decide +kernel)).mono (by decide), rfl⟩
    · exact ⟨_, rfl, fun _ => kd_tup, okn_tup (n := 0) (fun z hz => by rw [List.mem_singleton.mp hz]; exact okn_int), rfl⟩
    · exact ⟨_, rfl, fun _ => kd_tup, okn_tup (n := 0) (fun z hz => by cases hz), rfl⟩
  refine ro_ix (seq_ref (by walk_at "mu")) hx ?_
  refine up_of ?_ (q x c3 m3 odd hm3)
  intro a m ea
  by_cases na : a = b
  · subst na
    rw [set_same] at ea ⊢
    exact ea
  · rw [set_ne na] at ea
    have d1' : a ≠ l1 := fun z => by
      rw [← z, set_ne na] at hl1
      rw [hl1] at ea; cases ea
    have d2' : a ≠ l2 := fun z => by
      have := none_back (none_back hl2)
      rw [← z] at this
      rw [this] at ea; cases ea
    have d3' : a ≠ l3 := fun z => by
      have := none_back (none_back (none_back hl3))
      rw [← z] at this
      rw [this] at ea; cases ea
    rw [set_ne na, set_ne d3', set_ne d2', set_ne d1', set_ne na]
    exact ea
def P_l_no_pin (C : Addr) : PT3 := fun ds μ Φ => ∃ b d w h rows l s sp kg kt, ds = [.ref b, d] ∧ Brd C μ b w h rows l s sp kg kt ∧ Odd5 d (rows.length + 3) ∧ Φ (.bl true) μ
theorem len_l_no_pin (C : Addr) (ds : List D) (μ : M) (Φ : D → M → Prop) (h : P_l_no_pin C ds μ Φ) : ds.length = 2 := by
  obtain ⟨_, _, _, _, _, _, _, _, _, _, rfl, _⟩ := h
  rfl
theorem ok_l_no_pin {f : Addr} {fd : FuncData} (F : Fun K "_law_no_pin" "_law_no_pin" s_l_no_pin f fd) (B : Bs mg) {C_Board : Addr} (K_Board : Cl_Board K C_Board) {C_NoBoard : Addr} (E_NoBoard : Exc0 K mg "NoBoard" C_NoBoard) {C_NoGate : Addr} (E_NoGate : Exc1 P w K mg base "NoGate" "gate" C_NoGate) {C_NoLayer : Addr} (E_NoLayer : Exc1 P w K mg base "NoLayer" "layer" C_NoLayer) {C_NoPin : Addr} (E_NoPin : Exc1 P w K mg base "NoPin" "pin" C_NoPin) (H_NoBoard_NoPin : PySem.W.exmOne K (.ref C_NoBoard) (.ref C_NoPin) = some false) (H_NoGate_NoPin : PySem.W.exmOne K (.ref C_NoGate) (.ref C_NoPin) = some false) (H_NoLayer_NoPin : PySem.W.exmOne K (.ref C_NoLayer) (.ref C_NoPin) = some false) (H_NoPin_NoPin : PySem.W.exmOne K (.ref C_NoPin) (.ref C_NoPin) = some true) (X_NoPin : ExcC K C_NoPin) {C_BoardError : Addr} (V_BoardError : Cst mg "BoardError" (.ref C_BoardError)) (V_NoGate : Cst mg "NoGate" (.ref C_NoGate)) (V_NoLayer : Cst mg "NoLayer" (.ref C_NoLayer)) {C_NoNet : Addr} (V_NoNet : Cst mg "NoNet" (.ref C_NoNet)) (Q_NoPin_BoardError : PySem.W.kitOne K (.ref C_NoPin) (.ref C_BoardError) = some false) (Q_NoPin_IndexError : PySem.W.kitOne K (.ref C_NoPin) (.type "IndexError") = some true) (Q_NoPin_NoGate : PySem.W.kitOne K (.ref C_NoPin) (.ref C_NoGate) = some false) (Q_NoPin_NoLayer : PySem.W.kitOne K (.ref C_NoPin) (.ref C_NoLayer) = some false) (Q_NoPin_NoNet : PySem.W.kitOne K (.ref C_NoPin) (.ref C_NoNet) = some false) (G_board_point : Mth P w K mg base C_Board "point" ["self", "pin"] 5 (spX K (xn mg) (P_board_point C_Board))) : FnOk P w K mg base CX0 6 f fd ["_law_board_here", "_law_number"] (spI K (P_l_no_pin C_Board)) := by
  refine F.ok sc_l_no_pin (fun vs H Q E h => spI_len h (len_l_no_pin C_Board)) (fun cdv A outer s H vs Q E hr h => ?_)
  have hu65 := hu65_of hr
  refine ⟨_, (pss_cons (ps_try_as (i := 2) rfl rfl sc_l_no_pin.nd rfl rfl ⟨by rfl, by decide, Or.inl E_NoPin.mg⟩ takes0 (fun W pn xe tk po => (pss_one (ps_expr (pe_mthX tk G_board_point (hr.mono (by decide)) (pv 0) (pa_cons (pv 1) pa_nil))))) (fun a oe cls d pn hz hf => (pss_cons (ps_set (i := 3) sc_l_no_pin.nd rfl (by first | exact Or.inl rfl | exact Or.inr rfl) (pe_callB (call_isY (K := K) rfl hz hf) (by rfl) B.b_isinstance (by decide +kernel) (pa_cons (pv 2) (pa_cons (pe_tup (pa_cons (pe_cst V_BoardError (by rfl)) (pa_cons (pe_cst V_NoGate (by rfl)) (pa_cons (pe_cst V_NoLayer (by rfl)) (pa_cons (pe_cst V_NoNet (by rfl)) pa_nil))))) pa_nil))))
      (pss_one (ps_ret (pe_and (pe_cmpR (op_eqDK (K := K) rfl hr.units) (pe_xf E_NoPin.xf E_NoPin.no hz hf (pv 2)) (pv 1) (by first | exact nomark _ | rfl)) (pe_and (pe_callB (call_isY (K := K) rfl hz hf) (by rfl) B.b_isinstance (by decide +kernel) (pa_cons (pv 2) (pa_cons (pe_bltn (v := .ty "IndexError") (by rfl) B.b_IndexError (by decide +kernel) rfl) pa_nil))) (pe_one (pe_not (pv 3))))))))))
      (pss_one (ps_ret pe_bl))), body_okU h (fun ds μ Φ p => ?_)⟩
  (try dsimp only [cxOf, Cx.nox, Cx.wish, List.map_cons, List.map_nil])
  obtain ⟨b, d, w, h, rows, l, s, sp, kg, kt, rfl, BR, odd, q⟩ := p
  obtain ⟨dx, gl, tl, lvs, hb, hsp, hkg, hkt⟩ := id BR
  show AS K _ [some _, some _, none, none] _ _
  refine s_seq ?_
  refine s_tryAs (xn mg) (tb := fun W => tDrop (tMethX C_Board "point" (spX K (xn mg) (P_board_point C_Board)) (WE W) (tVar 0) (tCons (tVar 1) tNil))) (fun x => x == "NoPin") (fun x cls hx => ?_) fun W => ?_
  · rcases xn_or hx with ⟨rfl, e⟩ | ⟨rfl, e⟩ | ⟨rfl, e⟩ | ⟨rfl, e⟩ <;> first | (cases E_NoBoard.mg.symm.trans e; exact H_NoBoard_NoPin) | (cases E_NoPin.mg.symm.trans e; exact H_NoPin_NoPin) | (cases E_NoLayer.mg.symm.trans e; exact H_NoLayer_NoPin) | (cases E_NoGate.mg.symm.trans e; exact H_NoGate_NoPin)
  refine s_dropX (x_meth ?_)
  walk_at "go"
  refine ⟨b, dx, _, rfl, hb, rfl, ?_⟩
  walk_at "go"
  refine ⟨b, d, w, h, rows, l, s, sp, kg, kt, rfl, BR, odd.kd μ, fun i p e i0 at_ => ?_, fun h1 dx2 hdx2 => .inl ⟨rfl, fun a cls hc => ?_⟩⟩
  · exfalso
    subst e
    have lt := (List.getElem?_eq_some_iff.mp at_).1
    rw [spots_len] at lt
    have := odd.no
    simp only [wi, Bool.and_eq_false_iff, decide_eq_false_iff_not] at this
    omega
  have ec : cls = .ref C_NoPin := (Option.some.inj (E_NoPin.mg.symm.trans (show mg "NoPin" = some _ from by rcases xn_or hc with ⟨z, e⟩ | ⟨z, e⟩ | ⟨z, e⟩ | ⟨z, e⟩ <;> first | exact e | exact absurd z (by decide)))).symm
  subst ec
  show AS K _ [some _, some _, some _, none] _ _
  walk_at "go"
  refine rc_isYt [C_BoardError, C_NoGate, C_NoLayer, C_NoNet] rfl (xdk_some set_same) X_NoPin (b := false) ?_ ?_
  · refine kitAny_cons Q_NoPin_BoardError (fun _ => kitAny_cons Q_NoPin_NoGate (fun _ => kitAny_cons Q_NoPin_NoLayer (fun _ => kitAny_cons Q_NoPin_NoNet (fun _ => kitAny_nil) ?_) ?_) ?_) ?_ <;> exact fun z => nomatch z
  walk_at "go"
  refine a_xf rfl ?_
  walk_at "go"
  refine ⟨rfl, dx2, _, _, rfl, set_same, rfl, ?_⟩
  walk_at "go"
  refine ro_eqD (odd.ok.ok (by decide)) (odd.ok.ok (by decide)) ?_
  rw [eqv_same odd.ok]
  refine ⟨_, rfl, ?_⟩
  simp only [if_true]
  walk_at "go"
  refine rc_isYb rfl (xdk_some set_same) X_NoPin Q_NoPin_IndexError ?_
  refine ⟨_, rfl, ?_⟩
  simp only [if_true]
  walk_at "go"
  exact up_of (sub_new Sub.refl hdx2) q
theorem s_tryAs0 {K : PySem.W.Frag} {τ : T} {μ : M} (cn : Str → Option Value) {tb : WX → TS} {tu : Addr → Value → Option Addr → TS} {c : Value} {i : Nat} {nx : T → M → Prop} {rt : D → M → Prop} (hit : Str → Bool) (hm : ∀ x cls, cn x = some cls → PySem.W.exmOne K cls c = some (hit x))
    (hb : ∀ W, AS K (tb W) τ μ { nx := nx, rt := rt, W := W, cn := cn, xs := fun x dx τ' μ' => (hit x = true ∧ ∀ a cls, cn x = some cls → AS K (tu a cls dx) (τ'.set i (some (.ref a))) μ' { nx := fun τ2 μ2 => nx (τ2.set i none) μ2, rt := rt }) ∨ (hit x = false ∧ False) }) :
    AS K (fun D σ H => tb (wAs K c i tu (fun _ _ _ _ => False) D) D σ H) τ μ { nx := nx, rt := rt } := fun σ H s c E k =>
  s_tryAs cn (N := { nx := nx, rt := rt }) hit hm (fun W σ H s c E k => hb W σ H s c E ⟨k.nx, k.rt, k.bk, k.ct, fun x dx τ' μ' cls σ' H' e f c' s' q => k.wx x dx τ' μ' cls σ' H' e f c' s' (by
    rcases q with ⟨h1, h2⟩ | ⟨_, z⟩
    · refine .inl ⟨h1, fun a cls hc σ2 H2 s2 c2 E2 k2 => h2 a cls hc σ2 H2 s2 c2 E2 ⟨k2.nx, k2.rt, k2.bk, k2.ct, fun _ _ _ _ _ _ _ z => by cases z⟩⟩
    · exact z.elim)⟩) σ H s c E k
def P_l_no_layer (C T : Addr) : PT3 := fun ds μ Φ => ∃ b d way w h rows l s sp kg kt, ds = [.ref b, d, .int way] ∧ Brd C μ b w h rows l s sp kg kt ∧ BOk w h rows l ∧ μ T = some (.tab Q_g) ∧ Odd5 d (l - 1) ∧ Φ (.bl true) μ
theorem len_l_no_layer (C T : Addr) (ds : List D) (μ : M) (Φ : D → M → Prop) (h : P_l_no_layer C T ds μ Φ) : ds.length = 3 := by
  obtain ⟨_, _, _, _, _, _, _, _, _, _, _, rfl, _⟩ := h
  rfl
theorem ok_l_no_layer {f : Addr} {fd : FuncData} (F : Fun K "_law_no_layer" "_law_no_layer" s_l_no_layer f fd) (B : Bs mg) {T_g : Addr} {C_Board : Addr} (K_Board : Cl_Board K C_Board) {C_NoBoard : Addr} (E_NoBoard : Exc0 K mg "NoBoard" C_NoBoard) {C_NoGate : Addr} (E_NoGate : Exc1 P w K mg base "NoGate" "gate" C_NoGate) {C_NoLayer : Addr} (E_NoLayer : Exc1 P w K mg base "NoLayer" "layer" C_NoLayer) {C_NoPin : Addr} (E_NoPin : Exc1 P w K mg base "NoPin" "pin" C_NoPin) (H_NoBoard_NoLayer : PySem.W.exmOne K (.ref C_NoBoard) (.ref C_NoLayer) = some false) (H_NoGate_NoLayer : PySem.W.exmOne K (.ref C_NoGate) (.ref C_NoLayer) = some false) (H_NoLayer_NoLayer : PySem.W.exmOne K (.ref C_NoLayer) (.ref C_NoLayer) = some true) (H_NoPin_NoLayer : PySem.W.exmOne K (.ref C_NoPin) (.ref C_NoLayer) = some false) (X_NoLayer : ExcC K C_NoLayer) {C_BoardError : Addr} (V_BoardError : Cst mg "BoardError" (.ref C_BoardError)) (V_NoGate : Cst mg "NoGate" (.ref C_NoGate)) {C_NoNet : Addr} (V_NoNet : Cst mg "NoNet" (.ref C_NoNet)) (V_NoPin : Cst mg "NoPin" (.ref C_NoPin)) (Q_NoLayer_BoardError : PySem.W.kitOne K (.ref C_NoLayer) (.ref C_BoardError) = some false) (Q_NoLayer_IndexError : PySem.W.kitOne K (.ref C_NoLayer) (.type "IndexError") = some true) (Q_NoLayer_NoGate : PySem.W.kitOne K (.ref C_NoLayer) (.ref C_NoGate) = some false) (Q_NoLayer_NoNet : PySem.W.kitOne K (.ref C_NoLayer) (.ref C_NoNet) = some false) (Q_NoLayer_NoPin : PySem.W.kitOne K (.ref C_NoLayer) (.ref C_NoPin) = some false) (G_board_gates : Mth P w K mg base C_Board "gates" ["self", "layer"] 7 (spX K (xn mg) (P_board_gates C_Board T_g))) (G_board_pins_on : Mth P w K mg base C_Board "pins_on" ["self", "layer"] 5 (spX K (xn mg) (P_board_pins_on C_Board))) (G_board_triangles : Mth P w K mg base C_Board "triangles" ["self", "layer"] 9 (spX K (xn mg) (P_board_triangles C_Board T_g))) (N_board_beside_1_layer : MthN P w K mg base C_Board "beside" ["self", "gate", "layer"] 1 ["layer"] [(true, 0)] [] 10 (spX K (xn mg) (P_board_beside C_Board T_g))) : FnOk P w K mg base CX0 11 f fd ["_law_board_here", "_law_number", "_law_way"] (spI K (P_l_no_layer C_Board T_g)) := by
  refine F.ok sc_l_no_layer (fun vs H Q E h => spI_len h (len_l_no_layer C_Board T_g)) (fun cdv A outer s H vs Q E hr h => ?_)
  have hu65 := hu65_of hr
  refine ⟨_, (pss_cons (ps_try_as (i := 3) rfl rfl sc_l_no_layer.nd rfl rfl ⟨by rfl, by decide, Or.inl E_NoLayer.mg⟩ takes0 (fun W pn xe tk po => (pss_one (ps_if (pt_cmpR op_eq (pv 2) pe_int (by first | exact nomark _ | rfl)) (pss_one (ps_expr (pe_mthX tk G_board_pins_on (hr.mono (by decide)) (pv 0) (pa_cons (pv 1) pa_nil)))) (pss_one (ps_if (pt_cmpR op_eq (pv 2) pe_int (by first | exact nomark _ | rfl)) (pss_one (ps_expr (pe_mthX tk G_board_gates (hr.mono (by decide)) (pv 0) (pa_cons (pv 1) pa_nil)))) (pss_one (ps_if (pt_cmpR op_eq (pv 2) pe_int (by first | exact nomark _ | rfl)) (pss_one (ps_expr (pe_mthX tk G_board_triangles (hr.mono (by decide)) (pv 0) (pa_cons (pv 1) pa_nil)))) (pss_one (ps_expr (pe_mthKX tk N_board_beside_1_layer (hr.mono (by decide)) (pv 0) (pa_cons (pe_tup (pa_cons pe_int (pa_cons pe_int pa_nil))) pa_nil) (pk_cons (pv 1) pk_nil))))))))))) (fun a oe cls d pn hz hf => (pss_cons (ps_set (i := 4) sc_l_no_layer.nd rfl (by first | exact Or.inl rfl | exact Or.inr rfl) (pe_callB (call_isY (K := K) rfl hz hf) (by rfl) B.b_isinstance (by decide +kernel) (pa_cons (pv 3) (pa_cons (pe_tup (pa_cons (pe_cst V_BoardError (by rfl)) (pa_cons (pe_cst V_NoGate (by rfl)) (pa_cons (pe_cst V_NoPin (by rfl)) (pa_cons (pe_cst V_NoNet (by rfl)) pa_nil))))) pa_nil))))
      (pss_one (ps_ret (pe_and (pe_cmpR (op_eqDK (K := K) rfl hr.units) (pe_xf E_NoLayer.xf E_NoLayer.no hz hf (pv 3)) (pv 1) (by first | exact nomark _ | rfl)) (pe_and (pe_callB (call_isY (K := K) rfl hz hf) (by rfl) B.b_isinstance (by decide +kernel) (pa_cons (pv 3) (pa_cons (pe_bltn (v := .ty "IndexError") (by rfl) B.b_IndexError (by decide +kernel) rfl) pa_nil))) (pe_one (pe_not (pv 4))))))))))
      (pss_one (ps_ret pe_bl))), body_okU h (fun ds μ Φ p => ?_)⟩
  (try dsimp only [cxOf, Cx.nox, Cx.wish, List.map_cons, List.map_nil])
  obtain ⟨b, d, way, w, h, rows, l, s, sp, kg, kt, rfl, BR, OK, hT, odd, q⟩ := p
  obtain ⟨dx, gl, tl, lvs, hb, hsp, hkg, hkt⟩ := id BR
  show AS K _ [some _, some _, some _, none, none] _ _
  refine s_seq ?_
  refine s_tryAs0 (xn mg) (tb := fun W => tIfS (tTest (tOp rEq (tVar 2) (tC (V.int 0)))) (tDrop (tMethX C_Board "pins_on" (spX K (xn mg) (P_board_pins_on C_Board)) (WE W) (tVar 0) (tCons (tVar 1) tNil)))
    (tIfS (tTest (tOp rEq (tVar 2) (tC (V.int 1)))) (tDrop (tMethX C_Board "gates" (spX K (xn mg) (P_board_gates C_Board T_g)) (WE W) (tVar 0) (tCons (tVar 1) tNil)))
      (tIfS (tTest (tOp rEq (tVar 2) (tC (V.int 2)))) (tDrop (tMethX C_Board "triangles" (spX K (xn mg) (P_board_triangles C_Board T_g)) (WE W) (tVar 0) (tCons (tVar 1) tNil)))
        (tDrop (tMethN C_Board "beside" 1 1 (spX K (xn mg) (P_board_beside C_Board T_g)) (fun vs zs => gK [(true, 0)] vs [] zs) (WE W) (tVar 0) (tCons (tTup (tCons (tC (V.int 0)) (tCons (tC (V.int 1)) tNil))) tNil) (tCons (tVar 1) tNil)))))) (fun x => x == "NoLayer") (fun x cls hx => ?_) fun W => ?_
  · rcases xn_or hx with ⟨rfl, e⟩ | ⟨rfl, e⟩ | ⟨rfl, e⟩ | ⟨rfl, e⟩ <;> first | (cases E_NoBoard.mg.symm.trans e; exact H_NoBoard_NoLayer) | (cases E_NoPin.mg.symm.trans e; exact H_NoPin_NoLayer) | (cases E_NoLayer.mg.symm.trans e; exact H_NoLayer_NoLayer) | (cases E_NoGate.mg.symm.trans e; exact H_NoGate_NoLayer)
  have no : ∀ lv : Int, d = .int lv → 0 ≤ lv → lv < l → False := fun lv e h0 h1 => by
    have := odd.no
    rw [e, wi_lv h0 h1] at this
    cases this
  have caught : ∀ (dx2 : Addr), μ dx2 = none → ∀ a cls, xn mg "NoLayer" = some cls → AS K (tSeq (tAsg (tCB (rIsY K cls (some dx2) a) (tCons (tVar 3) (tCons (tTup (tCons (tC (V.ref C_BoardError)) (tCons (tC (V.ref C_NoGate)) (tCons (tC (V.ref C_NoPin)) (tCons (tC (V.ref C_NoNet)) tNil))))) tNil))) (gName 4))
      (tRet (tAndV (tOp (rEqD K) (tXf a cls (some dx2) C_NoLayer "layer" (tVar 3)) (tVar 1)) (tAndV (tCB (rIsY K cls (some dx2) a) (tCons (tVar 3) (tCons (tC (V.ty "IndexError")) tNil))) (tNotV (tVar 4))))))
      [some (.ref b), some d, some (.int way), some (.ref a), none] (μ.set dx2 (.xd [("layer", d)])) { nx := fun _ _ => False, rt := Up Φ } := fun dx2 hdx2 a cls hc => by
    have ec : cls = .ref C_NoLayer := (Option.some.inj (E_NoLayer.mg.symm.trans (show mg "NoLayer" = some _ from by rcases xn_or hc with ⟨z, e⟩ | ⟨z, e⟩ | ⟨z, e⟩ | ⟨z, e⟩ <;> first | exact e | exact absurd z (by decide)))).symm
    subst ec
    walk_at "go"
    refine rc_isYt [C_BoardError, C_NoGate, C_NoPin, C_NoNet] rfl (xdk_some set_same) X_NoLayer (b := false) ?_ ?_
    · refine kitAny_cons Q_NoLayer_BoardError (fun _ => kitAny_cons Q_NoLayer_NoGate (fun _ => kitAny_cons Q_NoLayer_NoPin (fun _ => kitAny_cons Q_NoLayer_NoNet (fun _ => kitAny_nil) ?_) ?_) ?_) ?_ <;> exact fun z => nomatch z
    walk_at "go"
    refine a_xf rfl ?_
    walk_at "go"
    refine ⟨rfl, dx2, _, _, rfl, set_same, rfl, ?_⟩
    walk_at "go"
    refine ro_eqD (odd.ok.ok (by decide)) (odd.ok.ok (by decide)) ?_
    rw [eqv_same odd.ok]
    refine ⟨_, rfl, ?_⟩
    simp only [if_true]
    walk_at "go"
    refine rc_isYb rfl (xdk_some set_same) X_NoLayer Q_NoLayer_IndexError ?_
    refine ⟨_, rfl, ?_⟩
    simp only [if_true]
    walk_at "go"
    exact up_of (sub_new Sub.refl hdx2) q
  have weak : ∀ {t : TS} {τ : T} {μ1 : M} {N : AEnds}, AS K t τ μ1 { nx := fun _ _ => False, rt := Up Φ } → N.rt = Up Φ → AS K t τ μ1 N := fun {t τ μ1 N} h e σ H s c E k => h σ H s c E ⟨fun _ _ _ _ _ _ _ z => z.elim, fun d m v H' f c' r z => k.rt d m v H' f c' r (e ▸ z), fun _ _ _ _ _ _ _ z => z.elim, fun _ _ _ _ _ _ _ z => z.elim, fun _ _ _ _ _ _ _ z => by cases z⟩
  walk_at "go"
  refine ite_d (fun h0 => ?_) (fun h0 => ?_)
  · refine s_dropX (x_meth ?_)
    walk_at "go"
    refine ⟨b, dx, _, rfl, hb, rfl, ?_⟩
    walk_at "go"
    exact ⟨b, d, w, h, rows, l, s, sp, kg, kt, rfl, BR, OK, odd.kd μ, fun lv e a0 a1 => (no lv e a0 a1).elim, fun _ dx2 hdx2 => .inl ⟨rfl, fun a cls hc => weak (caught dx2 hdx2 a cls hc) rfl⟩⟩
  walk_at "go"
  refine ite_d (fun h1 => ?_) (fun h1 => ?_)
  · refine s_dropX (x_meth ?_)
    walk_at "go"
    refine ⟨b, dx, _, rfl, hb, rfl, ?_⟩
    walk_at "go"
    exact ⟨b, d, w, h, rows, l, s, sp, kg, kt, rfl, BR, OK, odd.kd μ, hT, fun lv _ e a0 a1 => (no lv e a0 a1).elim, fun _ dx2 hdx2 => .inl ⟨rfl, fun a cls hc => weak (caught dx2 hdx2 a cls hc) rfl⟩⟩
  walk_at "go"
  refine ite_d (fun h2 => ?_) (fun h2 => ?_)
  · refine s_dropX (x_meth ?_)
    walk_at "go"
    refine ⟨b, dx, _, rfl, hb, rfl, ?_⟩
    walk_at "go"
    exact ⟨b, d, w, h, rows, l, s, sp, kg, kt, rfl, BR, OK, odd.kd μ, hT, fun lv _ e a0 a1 => (no lv e a0 a1).elim, fun _ dx2 hdx2 => .inl ⟨rfl, fun a cls hc => weak (caught dx2 hdx2 a cls hc) rfl⟩⟩
  refine s_dropX (x_mthK [] (fun H => .nil) ?_)
  walk_at "go"
  refine ⟨b, dx, _, rfl, hb, rfl, ?_⟩
  walk_at "go"
  refine ⟨rfl, rfl, ?_⟩
  have kx : Kx μ (.tup [.int 0, .int 1]) := ⟨kd_tup, fun xs e => by
    cases e
    refine ⟨by decide, fun x hx => ?_⟩
    simp only [List.mem_cons, List.not_mem_nil, or_false] at hx
    rcases hx with rfl | rfl <;> exact kd_int⟩
  exact ⟨b, _, d, w, h, rows, l, s, sp, kg, kt, rfl, BR, OK, odd.kd μ, kx, hT, fun lv _ e a0 a1 => (no lv e a0 a1).elim, fun _ dx2 hdx2 => .inl ⟨rfl, fun a cls hc => weak (caught dx2 hdx2 a cls hc) rfl⟩⟩
theorem ab_q4 {q : Q4} {rows : List R4} (k : ab (.int q.1) (.int q.2.1) (.tup (rows.map encR)) (.int q.2.2.1) (.int q.2.2.2) = true) : Q4Ok q ∧ (∀ r ∈ rows, Q4Ok r) ∧ rows.length ≤ 16 := by
  simp only [ab, Bool.and_eq_true, decide_eq_true_eq, List.length_map] at k
  obtain ⟨⟨⟨⟨k1, k2⟩, k3⟩, k4⟩, ⟨k6, k5⟩, _⟩ := k
  simp only [wi, Bool.and_eq_true, decide_eq_true_eq] at k1 k2 k3 k4
  refine ⟨⟨by omega, by omega, by omega, by omega⟩, fun r hr => ?_, k6⟩
  have h5 := List.all_eq_true.mp k5 _ (List.mem_map.mpr ⟨r, hr, rfl⟩)
  obtain ⟨x, y, f, g, e, a1, a2, a3, a4⟩ := pr_int h5
  simp only [encR, D.tup.injEq, List.cons.injEq, D.int.injEq, and_true] at e
  obtain ⟨e1, e2, e3, e4⟩ := e
  exact ⟨by omega, by omega, by omega, by omega⟩
def P_l_text : PT3 := fun ds μ Φ => ∃ w h rows fl gap, ds = [mdD w h rows fl gap] ∧ Q4Ok (w, h, fl, gap) ∧ (∀ r ∈ rows, Q4Ok r) ∧ rows.length ≤ 16 ∧ Φ (.str (brdS (w, h, fl, gap) rows)) μ
theorem len_l_text (ds : List D) (μ : M) (Φ : D → M → Prop) (h : P_l_text ds μ Φ) : ds.length = 1 := by
  obtain ⟨_, _, _, _, _, rfl, _⟩ := h
  rfl
def ofI5 : D → Int
  | .int i => i
  | _ => 0
theorem ok_l_text {f : Addr} {fd : FuncData} (F : Fun K "_law_text" "_law_text" s_l_text f fd) (B : Bs mg) : FnOk P w K mg base CX0 1 f fd ["_law_made_here"] (spI K P_l_text) := by
  refine F.ok sc_l_text (fun vs H Q E h => spI_len h len_l_text) (fun cdv A outer s H vs Q E hr h => ?_)
  have hu65 := hu65_of hr
  refine ⟨_, (pss_cons (ps_set (i := 1) sc_l_text.nd rfl (by first | exact Or.inl rfl | exact Or.inr rfl) (pe_op op_cat (pe_lst (pa_cons (pe_tup (pa_cons (pe_ix (ix_seqK (K := K) rfl) (pv 0) pe_int (fun _ _ => rfl)) (pa_cons (pe_ix (ix_seqK (K := K) rfl) (pv 0) pe_int (fun _ _ => rfl)) (pa_cons (pe_ix (ix_seqK (K := K) rfl) (pv 0) pe_int (fun _ _ => rfl)) (pa_cons (pe_ix (ix_seqK (K := K) rfl) (pv 0) pe_int (fun _ _ => rfl)) pa_nil))))) pa_nil)) (pe_callTy (call_listK (K := K) rfl) (by rfl) B.b_list (by decide +kernel) (pa_cons (pe_ix (ix_seqK (K := K) rfl) (pv 0) pe_int (fun _ _ => rfl)) pa_nil))))
      (pss_one (ps_ret (pe_joinK (K := K) rfl pe_str (pe_lc (own := [("_law_row", 2)]) (g := gName 2) (tt := tYes) rfl sc_l_text.nd (pi_listK (K := K) rfl (pv 1)) (blkOk_by (own := [("_law_row", 2)]) (N := N_l_text) (sc := defScope s_l_text) (by decide +kernel)) (fun _ _ _ _ _ => (pg_name (i := 2) sc_l_text.nd rfl (by first | exact Or.inl rfl | exact Or.inr rfl))) (fun _ _ _ _ _ => pts_nil) (fun _ _ _ _ _ => (pe_joinK (K := K) rfl pe_str (pe_lc (own := [("_law_number", 3)]) (g := gName 3) (tt := tYes) rfl sc_l_text.nd (pi_tupK (K := K) rfl (pv 2)) (blkOk_by (own := [("_law_number", 3)]) (N := N_l_text) (by rfl)) (fun _ _ _ _ _ => (pg_name (i := 3) sc_l_text.nd rfl (by first | exact Or.inl rfl | exact Or.inr rfl))) (fun _ _ _ _ _ => pts_nil) (fun _ _ _ _ _ => (pe_callTy call_str_int (by rfl) B.b_str (by decide +kernel) (pa_cons (pv 3) pa_nil))))))))))), body_okU h (fun ds μ Φ p => ?_)⟩
  (try dsimp only [cxOf, Cx.nox, Cx.wish, List.map_cons, List.map_nil])
  obtain ⟨w, h, rows, fl, gap, rfl, ok, oks, few, q⟩ := p
  show AS K _ [some _, none, none, none] _ _
  walk_at "go"
  intro l1 hl1
  walk_at "go"
  refine rc_list (ds := rows.map encR) rfl fun l2 hl2 => ?_
  have n12 : l1 ≠ l2 := Ne.symm (none_ne hl2)
  refine ro_cat (by rw [set_ne n12]; exact set_same) set_same (by rw [List.length_map]; simp only [List.length_cons, List.length_nil]; have := sizeLine_eq; omega) fun l3 hl3 => ?_
  have er : ([D.tup [D.int w, D.int h, D.int fl, D.int gap]] : List D) ++ rows.map encR = ((w, h, fl, gap) :: rows).map encR := rfl
  rw [er]
  have okq : ∀ r ∈ ((w, h, fl, gap) :: rows), Q4Ok r := fun r hr => by
    rcases List.mem_cons.mp hr with rfl | hr
    · exact ok
    · exact oks r hr
  have s3 : Sub μ (((μ.set l1 (.lst [D.tup [D.int w, D.int h, D.int fl, D.int gap]])).set l2 (.lst (rows.map encR))).set l3 (.lst (((w, h, fl, gap) :: rows).map encR))) := sub_new (sub_new (sub_new Sub.refl hl1) hl2) hl3
  have few1 : ((w, h, fl, gap) :: rows).length ≤ 17 := by rw [List.length_cons]; omega
  have e1 : brdS (w, h, fl, gap) rows = Txt.join " ; " (((w, h, fl, gap) :: rows).map q4S) := rfl
  rw [e1] at q
  have hl3' : (((μ.set l1 (.lst [D.tup [D.int w, D.int h, D.int fl, D.int gap]])).set l2 (.lst (rows.map encR))).set l3 (.lst (((w, h, fl, gap) :: rows).map encR))) l3 = some (.lst (((w, h, fl, gap) :: rows).map encR)) := set_same
  generalize (((μ.set l1 (.lst [D.tup [D.int w, D.int h, D.int fl, D.int gap]])).set l2 (.lst (rows.map encR))).set l3 (.lst (((w, h, fl, gap) :: rows).map encR))) = μ3 at s3 hl3' ⊢
  generalize (w, h, fl, gap) :: rows = rs at okq few1 q hl3' s3
  clear hl3 hl2 hl1 er e1 ok oks
  walk_at "go"
  refine m_joinV (a := " ; ") ?_
  walk_at "go"
  refine ⟨rfl, ?_⟩
  refine a_lc1 (fun d => .str (q4S (ofR d))) (fun _ => true) (ai_L ?_)
  walk_at "go"
  refine ⟨l3, _, rfl, hl3', by rw [List.length_map]; exact Nat.lt_of_le_of_lt few1 (by decide), fun x hx => at_yes ⟨rfl, rfl⟩, fun x hx _ => ?_, fun l4 hl4 => ?_⟩
  · obtain ⟨r, hr, rfl⟩ := List.mem_map.mp hx
    have k := okq r hr
    walk_at "nf"
    refine AE.forget ?_
    refine m_joinV (a := " ") ?_
    walk_at "go"
    refine ⟨rfl, ?_⟩
    refine a_lc1 (fun d => .str (numS (ofI5 d))) (fun _ => true) (ai_T ?_)
    walk_at "go"
    refine ⟨fun x hx => at_yes ⟨rfl, rfl⟩, fun x hx _ => ?_, fun l5 hl5 => ?_⟩
    · simp only [List.mem_cons, List.not_mem_nil, or_false] at hx
      walk_at "nf"
      rcases hx with rfl | rfl | rfl | rfl
      · walk_at "go"; refine rc_strI (big_log k.a) ?_; exact ⟨rfl, rfl⟩
      · walk_at "go"; refine rc_strI (big_log k.b) ?_; exact ⟨rfl, rfl⟩
      · walk_at "go"; refine rc_strI (big_log k.c) ?_; exact ⟨rfl, rfl⟩
      · walk_at "go"; refine rc_strI (big_log k.d) ?_; exact ⟨rfl, rfl⟩
    rw [List.filter_eq_self.mpr (fun _ _ => rfl)]
    have m1 := num_len k.a
    have m2 := num_len k.b
    have m3 := num_len k.c
    have m4 := num_len k.d
    refine ⟨[numS r.1, numS r.2.1, numS r.2.2.1, numS r.2.2.2], seq_ref set_same, ?_, _, sub_new Sub.refl hl5, rfl, rfl⟩
    simp only [List.map_cons, List.map_nil, List.sum_cons, List.sum_nil, List.length_cons, List.length_nil]
    rw [show (Str.ofString " ").length = 1 from rfl]
    omega
  rw [List.filter_eq_self.mpr (fun _ _ => rfl), List.map_map, show rs.map ((fun d => D.str (q4S (ofR d))) ∘ encR) = (rs.map q4S).map D.str from by rw [List.map_map]; rfl]
  refine ⟨rs.map q4S, seq_ref set_same, ?_, up_of ?_ q⟩
  · have := sum_le (ws := rs.map q4S) (k := 127) fun y hy => by
      obtain ⟨r, hr, rfl⟩ := List.mem_map.mp hy
      exact q4S_len (okq r hr)
    rw [List.length_map] at this ⊢
    rw [show (Str.ofString " ; ").length = 3 from rfl]
    omega
  · have e4 : (μ3.del l3).set l3 (.lst (rs.map encR)) = μ3 := by
      funext a
      by_cases na : a = l3
      · rw [na, set_same, hl3']
      · rw [set_ne na, Z.del_ne na]
    have hl4' : μ3 l4 = none := by
      have := hl4
      dsimp only at this
      rw [e4] at this
      exact this
    dsimp only
    rw [e4]
    exact sub_new s3 hl4'
abbrev Mk5 := Int × Int × List R4 × Int × Int
abbrev m5D (o : Mk5) : D := mkD o.1 o.2.1 o.2.2.1 o.2.2.2.1 o.2.2.2.2
/-- what a board is made of, or is not -/
structure Mk5Ok (o : Mk5) : Prop where
  ok : ab (.int o.1) (.int o.2.1) (.tup (o.2.2.1.map encR)) (.int o.2.2.2.1) (.int o.2.2.2.2) = true
def unl (a o : Mk5) : Bool := sameB a.1 a.2.1 a.2.2.1 a.2.2.2.1 a.2.2.2.2 o.1 o.2.1 o.2.2.1 o.2.2.2.1 o.2.2.2.2
/-- boards that are made of something else -/
def unlikes (o : Mk5) : List Mk5 := [(o.1 + 1, o.2.1, o.2.2.1, o.2.2.2.1, o.2.2.2.2), (o.1, o.2.1 + 1, o.2.2.1, o.2.2.2.1, o.2.2.2.2), (o.1, o.2.1, o.2.2.1, o.2.2.2.1, o.2.2.2.2 + 1)] ++
  (if o.2.2.2.1 < 3 then [(o.1, o.2.1, o.2.2.1, o.2.2.2.1 + 1, o.2.2.2.2)] else []) ++ (if o.2.2.1 ≠ [] then [(o.1, o.2.1, o.2.2.1.drop 1, o.2.2.2.1, o.2.2.2.2)] else []) ++
  (if 1 < o.2.2.1.length then [(o.1, o.2.1, o.2.2.1.drop 1 ++ o.2.2.1.take 1, o.2.2.2.1, o.2.2.2.2)] else [])
theorem cut_drop1 (xs : List D) : cutD xs (some 1) none = xs.drop 1 := by
  cases xs with
  | nil => rfl
  | cons a r =>
    unfold cutD
    simp [HT.sIx]
theorem cut_take1 (xs : List D) : cutD xs none (some 1) = xs.take 1 := by
  cases xs with
  | nil => rfl
  | cons a r =>
    unfold cutD
    simp [HT.sIx]
def P_l_unlike : PT3 := fun ds μ Φ => ∃ o : Mk5, ds = [m5D o] ∧ o.2.2.1.length ≤ 16 ∧ ∀ p, μ p = none → Φ (.ref p) (μ.set p (.lst ((unlikes o).map m5D)))
theorem len_l_unlike (ds : List D) (μ : M) (Φ : D → M → Prop) (h : P_l_unlike ds μ Φ) : ds.length = 1 := by
  obtain ⟨_, rfl, _⟩ := h
  rfl
theorem ok_l_unlike {f : Addr} {fd : FuncData} (F : Fun K "_law_unlike" "_law_unlike" s_l_unlike f fd) (B : Bs mg) : FnOk P w K mg base CX0 1 f fd ["_law_made_here"] (spI K P_l_unlike) := by
  refine F.ok sc_l_unlike (fun vs H Q E h => spI_len h len_l_unlike) (fun cdv A outer s H vs Q E hr h => ?_)
  have hu65 := hu65_of hr
  refine ⟨_, (pss_cons (ps_asg (pv 0) (pg_tup (by rfl) (pgs_cons (pg_name (i := 1) sc_l_unlike.nd rfl (by first | exact Or.inl rfl | exact Or.inr rfl)) (pgs_cons (pg_name (i := 2) sc_l_unlike.nd rfl (by first | exact Or.inl rfl | exact Or.inr rfl)) (pgs_cons (pg_name (i := 3) sc_l_unlike.nd rfl (by first | exact Or.inl rfl | exact Or.inr rfl)) (pgs_cons (pg_name (i := 4) sc_l_unlike.nd rfl (by first | exact Or.inl rfl | exact Or.inr rfl)) (pgs_cons (pg_name (i := 5) sc_l_unlike.nd rfl (by first | exact Or.inl rfl | exact Or.inr rfl)) pgs_nil)))))))
      (pss_cons (ps_set (i := 6) sc_l_unlike.nd rfl (by first | exact Or.inl rfl | exact Or.inr rfl) (pe_lst (pa_cons (pe_tup (pa_cons (pe_op op_add (pv 1) pe_int) (pa_cons (pv 2) (pa_cons (pv 3) (pa_cons (pv 4) (pa_cons (pv 5) pa_nil)))))) (pa_cons (pe_tup (pa_cons (pv 1) (pa_cons (pe_op op_add (pv 2) pe_int) (pa_cons (pv 3) (pa_cons (pv 4) (pa_cons (pv 5) pa_nil)))))) pa_nil))))
      (pss_cons (ps_expr (pe_bm PySem.F.plainAttrs_list PySem.F.slot_list_append PySem.F.type_list_append mt_append (pv 6) (pa_cons (pe_tup (pa_cons (pv 1) (pa_cons (pv 2) (pa_cons (pv 3) (pa_cons (pv 4) (pa_cons (pe_op op_add (pv 5) pe_int) pa_nil)))))) pa_nil)))
      (pss_cons (ps_if (pt_cmpR op_lt (pv 4) pe_int (by first | exact nomark _ | rfl)) (pss_one (ps_expr (pe_bm PySem.F.plainAttrs_list PySem.F.slot_list_append PySem.F.type_list_append mt_append (pv 6) (pa_cons (pe_tup (pa_cons (pv 1) (pa_cons (pv 2) (pa_cons (pv 3) (pa_cons (pe_op op_add (pv 4) pe_int) (pa_cons (pv 5) pa_nil)))))) pa_nil)))) pss_nil)
      (pss_cons (ps_if (pt_cmpR (op_neDK (K := K) rfl hr.units) (pv 3) (pe_tup pa_nil) (by first | exact nomark _ | rfl)) (pss_one (ps_expr (pe_bm PySem.F.plainAttrs_list PySem.F.slot_list_append PySem.F.type_list_append mt_append (pv 6) (pa_cons (pe_tup (pa_cons (pv 1) (pa_cons (pv 2) (pa_cons (pe_slice (sl_tupAK (K := K) rfl) (pv 3) (po_some pe_int) po_none) (pa_cons (pv 4) (pa_cons (pv 5) pa_nil)))))) pa_nil)))) pss_nil)
      (pss_cons (ps_if (pt_cmpR op_gt (pe_callB (call_lenK (K := K) rfl) (by rfl) B.b_len (by decide +kernel) (pa_cons (pv 3) pa_nil)) pe_int (by first | exact nomark _ | rfl)) (pss_one (ps_expr (pe_bm PySem.F.plainAttrs_list PySem.F.slot_list_append PySem.F.type_list_append mt_append (pv 6) (pa_cons (pe_tup (pa_cons (pv 1) (pa_cons (pv 2) (pa_cons (pe_op (op_catAK (K := K) rfl) (pe_slice (sl_tupAK (K := K) rfl) (pv 3) (po_some pe_int) po_none) (pe_slice (sl_tupAK (K := K) rfl) (pv 3) po_none (po_some pe_int))) (pa_cons (pv 4) (pa_cons (pv 5) pa_nil)))))) pa_nil)))) pss_nil)
      (pss_one (ps_ret (pv 6))))))))), body_okU h (fun ds μ Φ p => ?_)⟩
  (try dsimp only [cxOf, Cx.nox, Cx.wish, List.map_cons, List.map_nil])
  obtain ⟨o, rfl, few, q⟩ := p
  obtain ⟨w, h, rows, fl, gap⟩ := o
  show AS K _ [some _, none, none, none, none, none, none] _ _
  have add : ∀ {μ1 : M} {l : Addr} {te : TE} {τ : T} {X : List Mk5} {o : Mk5} {Ψ : D → M → Prop}, μ1 l = some (.lst (X.map m5D)) → τ[6]? = some (some (.ref l)) → X.length ≤ 10 → AE K te τ μ1 (fun d μ2 => d = m5D o ∧ μ2 = μ1) → Ψ .non (μ1.set l (.lst ((X ++ [o]).map m5D))) → AE K (tBM K "list" rAppend (tVar 6) (tCons te tNil)) τ μ1 Ψ := fun {μ1 l te τ X o Ψ} h1 h2 h3 h4 h5 => by
    refine m_append (a := l) (ds := X.map m5D) (a_var h2 ⟨rfl, ⟨_, h1⟩, ?_⟩)
    refine AE.imp h4 fun d μ2 ⟨e1, e2⟩ => ?_
    subst e1 e2
    refine ⟨h1, by rw [List.length_map]; exact Nat.lt_of_le_of_lt h3 (by decide), ?_⟩
    rw [List.map_append] at h5
    exact h5
  walk_at "go"
  intro l hl
  walk_at "go"
  let Y : List Mk5 := [(w + 1, h, rows, fl, gap), (w, h + 1, rows, fl, gap), (w, h, rows, fl, gap + 1)]
  refine add (X := [(w + 1, h, rows, fl, gap), (w, h + 1, rows, fl, gap)]) (o := (w, h, rows, fl, gap + 1)) set_same ?_ (by simp) ?_ ?_
  · rfl
  · walk_at "go"
    exact ⟨rfl, rfl⟩
  rw [set_set]
  walk_at "go"
  have base : ([(w + 1, h, rows, fl, gap), (w, h + 1, rows, fl, gap)] ++ [(w, h, rows, fl, gap + 1)] : List Mk5) = Y := rfl
  rw [base]
  have ey : Y.length = 3 := rfl
  refine if_cut (fun τ' μ' => τ' = [some (m5D (w, h, rows, fl, gap)), some (D.int w), some (D.int h), some (D.tup (List.map encR rows)), some (D.int fl), some (D.int gap), some (.ref l)] ∧ μ' = μ.set l (.lst ((Y ++ (if fl < 3 then [(w, h, rows, fl + 1, gap)] else [])).map m5D))) (fun k1 => ?_) (fun k1 => ?_) ?_
  · have k2 : fl < 3 := of_decide_eq_true k1
    refine s_drop (add (o := (w, h, rows, fl + 1, gap)) set_same ?_ (by rw [ey]; decide) ?_ ?_)
    · rfl
    · walk_at "go"
      exact ⟨rfl, rfl⟩
    · rw [if_pos k2, set_set]
      exact ⟨rfl, rfl⟩
  · have k2 : ¬ fl < 3 := of_decide_eq_false k1
    walk_at "go"
    rw [if_neg k2, List.append_nil]
    exact ⟨rfl, rfl⟩
  rintro τ' μ' ⟨rfl, rfl⟩
  have ey2 : (Y ++ (if fl < 3 then [(w, h, rows, fl + 1, gap)] else [])).length ≤ 4 := by
    rw [List.length_append, ey]
    split <;> simp
  generalize hY2 : Y ++ (if fl < 3 then [(w, h, rows, fl + 1, gap)] else []) = Y2 at ey2 ⊢
  walk_at "go"
  refine ro_neD (OkN.ok (n := 2) (okn_tup fun r hr => by
    obtain ⟨q, _, rfl⟩ := List.mem_map.mp hr
    exact okn_tup fun x hx => by
      simp only [List.mem_cons, List.not_mem_nil, or_false] at hx
      rcases hx with rfl | rfl | rfl | rfl <;> exact okn_int) (by decide)) rfl ?_
  rw [eqv_nil]
  refine ⟨_, rfl, ?_⟩
  have en : (!(rows.map encR).isEmpty) = decide (rows ≠ []) := by cases rows <;> rfl
  rw [en]
  refine if_cut (fun τ' μ' => τ' = [some (m5D (w, h, rows, fl, gap)), some (D.int w), some (D.int h), some (D.tup (List.map encR rows)), some (D.int fl), some (D.int gap), some (.ref l)] ∧ μ' = μ.set l (.lst ((Y2 ++ (if rows ≠ [] then [(w, h, rows.drop 1, fl, gap)] else [])).map m5D))) (fun k1 => ?_) (fun k1 => ?_) ?_
  · have k2 : rows ≠ [] := of_decide_eq_true k1
    refine s_drop (add (o := (w, h, rows.drop 1, fl, gap)) set_same ?_ (by omega) ?_ ?_)
    · rfl
    · walk_at "go"
      refine ⟨?_, rfl⟩
      rw [cut_drop1, ← List.map_drop]
    · rw [if_pos k2, set_set]
      exact ⟨rfl, rfl⟩
  · have k2 : ¬ rows ≠ [] := of_decide_eq_false k1
    walk_at "go"
    rw [if_neg k2, List.append_nil]
    exact ⟨rfl, rfl⟩
  rintro τ' μ' ⟨rfl, rfl⟩
  have ey3 : (Y2 ++ (if rows ≠ [] then [(w, h, rows.drop 1, fl, gap)] else [])).length ≤ 5 := by
    rw [List.length_append]
    split <;> simp <;> omega
  generalize hY3 : Y2 ++ (if rows ≠ [] then [(w, h, rows.drop 1, fl, gap)] else []) = Y3 at ey3 ⊢
  walk_at "go"
  refine if_cut (fun τ' μ' => τ' = [some (m5D (w, h, rows, fl, gap)), some (D.int w), some (D.int h), some (D.tup (List.map encR rows)), some (D.int fl), some (D.int gap), some (.ref l)] ∧ μ' = μ.set l (.lst ((Y3 ++ (if 1 < rows.length then [(w, h, rows.drop 1 ++ rows.take 1, fl, gap)] else [])).map m5D))) (fun k1 => ?_) (fun k1 => ?_) ?_
  · have k2 : 1 < rows.length := by
      have := of_decide_eq_true k1
      rw [List.length_map] at this
      omega
    refine s_drop (add (o := (w, h, rows.drop 1 ++ rows.take 1, fl, gap)) set_same ?_ (by omega) ?_ ?_)
    · rfl
    · walk_at "go"
      refine ro_catA ?_ ?_
      · rw [cut_drop1, cut_take1, List.length_drop, List.length_take, List.length_map]; have := sizeLine_eq; have : rows.length ≤ 16 := few; omega
      walk_at "go"
      refine ⟨?_, rfl⟩
      rw [cut_drop1, cut_take1, ← List.map_drop, ← List.map_take, ← List.map_append]
    · rw [if_pos k2, set_set]
      exact ⟨rfl, rfl⟩
  · have k2 : ¬ 1 < rows.length := by
      have := of_decide_eq_false k1
      rw [List.length_map] at this
      omega
    walk_at "go"
    rw [if_neg k2, List.append_nil]
    exact ⟨rfl, rfl⟩
  rintro τ' μ' ⟨rfl, rfl⟩
  have eu : Y3 ++ (if 1 < rows.length then [(w, h, rows.drop 1 ++ rows.take 1, fl, gap)] else []) = unlikes (w, h, rows, fl, gap) := by
    rw [← hY3, ← hY2]
    rfl
  rw [eu]
  walk_at "go"
  exact up_of Sub.refl (q l hl)
theorem range_get {α : Type} (f : α → D) (z : α) (l : List α) : (((List.range l.length).map fun (i : Nat) => D.int (0 + i)).map fun d => f (l.getD (ofI5 d).toNat z)) = l.map f := by
  apply List.ext_getElem
  · simp
  · intro i h1 h2
    have hi : i < l.length := by simpa using h2
    simp only [List.getElem_map, List.getElem_range]
    show f (l.getD (0 + (i : Int)).toNat z) = f l[i]
    rw [show (0 + (i : Int)).toNat = i by omega, List.getD_eq_getElem?_getD, List.getElem?_eq_getElem hi]
    rfl
def P_l_told (C : Addr) : PT3 := fun ds μ Φ => ∃ b w h rows fl gap sp kg kt, ds = [.ref b, mdD w h rows fl gap] ∧ Brd C μ b w h rows fl gap sp kg kt ∧ BOk w h rows fl ∧ Mk5Ok (w, h, rows, fl, gap) ∧ Φ (.bl true) μ
theorem len_l_told (C : Addr) (ds : List D) (μ : M) (Φ : D → M → Prop) (h : P_l_told C ds μ Φ) : ds.length = 2 := by
  obtain ⟨_, _, _, _, _, _, _, _, _, rfl, _⟩ := h
  rfl
theorem ok_l_told {f : Addr} {fd : FuncData} (F : Fun K "_law_told" "_law_told" s_l_told f fd) (B : Bs mg) {C_Board : Addr} (K_Board : Cl_Board K C_Board) (G_board_len : Mth P w K mg base C_Board "__len__" ["self"] 1 (spI K (P_board_len C_Board))) (G_board_str : Mth P w K mg base C_Board "__str__" ["self"] 1 (spI K (P_board_str C_Board))) (G_board_made_of : Mth P w K mg base C_Board "made_of" ["self"] 1 (spI K (P_board_made_of C_Board))) (G_board_pins_on : Mth P w K mg base C_Board "pins_on" ["self", "layer"] 5 (spX K (xn mg) (P_board_pins_on C_Board))) (G_board_point : Mth P w K mg base C_Board "point" ["self", "pin"] 5 (spX K (xn mg) (P_board_point C_Board))) (G_l_pins : Def P w K mg base "_law_pins" ["_law_made_here", "_law_level"] 1 (spI K P_l_pins)) (G_l_points : Def P w K mg base "_law_points" ["_law_made_here"] 1 (spI K P_l_points)) (G_l_text : Def P w K mg base "_law_text" ["_law_made_here"] 1 (spI K P_l_text)) : FnOk P w K mg base CX0 7 f fd ["_law_board_here", "_law_made_here"] (spI K (P_l_told C_Board)) := by
  refine F.ok sc_l_told (fun vs H Q E h => spI_len h (len_l_told C_Board)) (fun cdv A outer s H vs Q E hr h => ?_)
  have hu65 := hu65_of hr
  refine ⟨_, (pss_cons (ps_set (i := 2) sc_l_told.nd rfl (by first | exact Or.inl rfl | exact Or.inr rfl) (pe_def G_l_points (hr.mono (by decide)) (by rfl) (pa_cons (pv 1) pa_nil)))
      (pss_cons (ps_if (PW.pt (pw_or (pt_cmpR op_ne (pe_callB (OWN.cr_lenO G_board_len (hr.mono (by decide))) (by rfl) B.b_len (by decide +kernel) (pa_cons (pv 0) pa_nil)) (pe_callB (call_lenK (K := K) rfl) (by rfl) B.b_len (by decide +kernel) (pa_cons (pv 2) pa_nil)) (by first | exact nomark _ | rfl)) (pw_or (pt_cmpR (op_neDK (K := K) rfl hr.units) (pe_mthN0 G_board_made_of (hr.mono (by decide)) (pv 0)) (pv 1) (by first | exact nomark _ | rfl)) (pw_or1 (pt_cmpR op_ne (pe_callTy (OWN.cr_strO G_board_str (hr.mono (by decide))) (by rfl) B.b_str (by decide +kernel) (pa_cons (pv 0) pa_nil)) (pe_def G_l_text (hr.mono (by decide)) (by rfl) (pa_cons (pv 1) pa_nil)) (by first | exact nomark _ | rfl)))))) (pss_one (ps_ret pe_bl)) pss_nil)
      (pss_cons (ps_if (pt_cmpR (op_neDK (K := K) rfl hr.units) (pe_lc (own := [("_law_pin", 4)]) (g := gName 4) (tt := tYes) rfl sc_l_told.nd (pi_range1 (by rfl) B.b_range (pa_cons (pe_callB (call_lenK (K := K) rfl) (by rfl) B.b_len (by decide +kernel) (pa_cons (pv 2) pa_nil)) pa_nil)) (blkOk_by (own := [("_law_pin", 4)]) (N := N_l_told) (sc := defScope s_l_told) (by decide +kernel)) (fun _ _ _ _ _ => (pg_name (i := 4) sc_l_told.nd rfl (by first | exact Or.inl rfl | exact Or.inr rfl))) (fun _ _ _ _ _ => pts_nil) (fun _ _ _ _ _ => (pe_mthN G_board_point (hr.mono (by decide)) (pv 0) (pa_cons (pv 4) pa_nil)))) (pv 2) (by first | exact nomark _ | rfl)) (pss_one (ps_ret pe_bl)) pss_nil)
      (pss_cons (ps_setLc (i := 3) (own := [("_law_level", 5)]) (g := gName 5) (tt := tYes) rfl sc_l_told.nd rfl rfl (sw_true rfl rfl rfl (by decide +kernel)) (pi_range1 (by rfl) B.b_range (pa_cons (pe_ix (ix_seqK (K := K) rfl) (pv 1) pe_int (fun _ _ => rfl)) pa_nil)) (blkOk_by (own := [("_law_level", 5)]) (N := N_l_told) (sc := defScope s_l_told) (by decide +kernel)) (fun _ _ _ _ _ => (pg_name (i := 5) sc_l_told.nd rfl (by first | exact Or.inl rfl | exact Or.inr rfl))) (fun _ _ _ _ _ => pts_nil) (fun _ _ _ _ _ => (pe_callTy (call_tupleK (K := K) rfl) (by rfl) B.b_tuple (by decide +kernel) (pa_cons (pe_def G_l_pins (hr.mono (by decide)) (by rfl) (pa_cons (pv 1) (pa_cons (pv 5) pa_nil))) pa_nil))))
      (pss_one (ps_ret (pe_cmpR (op_eqDK (K := K) rfl hr.units) (pe_lc (own := [("_law_level", 5)]) (g := gName 5) (tt := tYes) rfl sc_l_told.nd (pi_range1 (by rfl) B.b_range (pa_cons (pe_ix (ix_seqK (K := K) rfl) (pv 1) pe_int (fun _ _ => rfl)) pa_nil)) (blkOk_by (own := [("_law_level", 5)]) (N := N_l_told) (sc := defScope s_l_told) (by decide +kernel)) (fun _ _ _ _ _ => (pg_name (i := 5) sc_l_told.nd rfl (by first | exact Or.inl rfl | exact Or.inr rfl))) (fun _ _ _ _ _ => pts_nil) (fun _ _ _ _ _ => (pe_mthN G_board_pins_on (hr.mono (by decide)) (pv 0) (pa_cons (pv 5) pa_nil)))) (pv 3) (by first | exact nomark _ | rfl)))))))), body_okU h (fun ds μ Φ p => ?_)⟩
  (try dsimp only [cxOf, Cx.nox, Cx.wish, List.map_cons, List.map_nil])
  obtain ⟨b, w, h, rows, fl, gap, sp, kg, kt, rfl, BR, OK, ⟨mk⟩, q⟩ := p
  obtain ⟨dx, gl, tl, lvs, hb, hsp, hkg, hkt⟩ := id BR
  obtain ⟨qok, qoks, few⟩ := ab_q4 (q := (w, h, fl, gap)) mk
  show AS K _ [some _, some _, none, none, none, none] _ _
  walk_at "go"
  refine ⟨w, h, rows, fl, gap, rfl, few, fun l hl => ?_⟩
  have s1 : Sub μ (μ.set l (.lst ((spots w h rows).map encS))) := sub_new Sub.refl hl
  have BR1 := BR.sub s1
  have hb1 := s1 b _ hb
  have hl1 : (μ.set l (.lst ((spots w h rows).map encS))) l = some (.lst ((spots w h rows).map encS)) := set_same
  generalize μ.set l (.lst ((spots w h rows).map encS)) = μ1 at s1 BR1 hb1 hl1 ⊢
  walk_at "go"
  have few16 : rows.length ≤ 16 := few
  refine rc_lenO hb1 ⟨b, w, h, rows, fl, gap, sp, kg, kt, rfl, BR1, _, rfl, by omega, by rw [spots_len]; omega, ?_⟩
  walk_at "go"
  refine ite_nd (fun h => absurd (by rw [List.length_map]) h) (fun _ => ?_)
  walk_at "go"
  refine ⟨b, dx, _, rfl, hb1, rfl, ?_⟩
  walk_at "go"
  refine ⟨b, w, h, rows, fl, gap, sp, kg, kt, rfl, BR1, ?_⟩
  walk_at "go"
  refine ro_neD (okn_mk.ok (by decide)) (okn_mk.ok (by decide)) ?_
  rw [eqv_mk, same_self]
  refine ⟨_, rfl, ?_⟩
  simp only [Bool.not_true, Bool.false_eq_true, if_false]
  walk_at "go"
  refine rc_strO hb1 ⟨b, w, h, rows, fl, gap, sp, kg, kt, rfl, BR1, qok, qoks, few, _, rfl, ?_⟩
  walk_at "go"
  refine ⟨w, h, rows, fl, gap, rfl, qok, qoks, few, ?_⟩
  walk_at "go"
  refine ite_nd (fun h => absurd rfl h) (fun _ => ?_)
  walk_at "go"
  refine a_lc1 (fun d => encS ((spots w h rows).getD (ofI5 d).toNat (0, 0))) (fun _ => true) (ai_1 ?_)
  walk_at "go"
  have sl := spots_len (w := w) (h := h) (rows := rows)
  have en : (((((spots w h rows).map encS).length : Nat) : Int)).toNat = (spots w h rows).length := by rw [List.length_map]; omega
  refine ⟨by rw [List.length_map]; omega, by rw [List.length_map]; omega, ?_⟩
  rw [en]
  refine ⟨by rw [List.length_map, List.length_range]; have := sizeLine_eq; omega, fun x hx => at_yes ⟨rfl, rfl⟩, fun x hx _ => ?_, fun l2 hl2 => ?_⟩
  · obtain ⟨i, hi, rfl⟩ := List.mem_map.mp hx
    have hi := List.mem_range.mp hi
    walk_at "nf"
    walk_at "go"
    refine ⟨b, dx, _, rfl, hb1, rfl, ?_⟩
    walk_at "go"
    refine ⟨b, _, w, h, rows, fl, gap, sp, kg, kt, rfl, BR1, kd_int, fun i2 p e i0 at_ => ?_, fun z => ?_⟩
    · cases e
      refine ⟨?_, rfl⟩
      show encS p = encS ((spots w h rows).getD (0 + (i : Int)).toNat (0, 0))
      rw [List.getD_eq_getElem?_getD, at_]
      rfl
    · simp only [wi, Bool.and_eq_false_iff, decide_eq_false_iff_not] at z
      omega
  rw [List.filter_eq_self.mpr (fun _ _ => rfl), range_get encS (0, 0) (spots w h rows)]
  have hl2 : μ1 l2 = none := hl2
  have n2 : l2 ≠ l := ne_of_some hl2 hl1
  walk_at "go"
  refine ro_neLL (n := 1) set_same (by rw [id, set_ne (Ne.symm n2)]; exact hl1) (fun x hx => ?_) (by decide) ?_
  · obtain ⟨p, _, rfl⟩ := List.mem_map.mp hx
    exact okn_pt
  walk_at "go"
  have BR2 := BR1.sub (sub_new (Y := .lst ((spots w h rows).map encS)) Sub.refl hl2)
  have s2 := (s1.trans (sub_new (Y := .lst ((spots w h rows).map encS)) Sub.refl hl2))
  dsimp only [id]
  generalize μ1.set l2 (.lst ((spots w h rows).map encS)) = μ2 at BR2 s2 ⊢
  clear hl2 hl1 BR1 hb1
  have hb2 := s2 b _ hb
  have fl0 := OK.l0
  have fl1 := OK.l1
  refine a_lc1 (fun d => .tup ((pinsOf rows (ofI5 d)).map D.int)) (fun _ => true) (ai_1 ?_)
  walk_at "go"
  refine ⟨by omega, by omega, ?_, fun x hx => at_yes ⟨rfl, rfl⟩, fun x hx _ => ?_, fun l3 hl3 => ?_⟩
  · rw [List.length_map, List.length_range]; have := sizeLine_eq; omega
  · obtain ⟨i, hi, rfl⟩ := List.mem_map.mp hx
    walk_at "nf"
    refine AE.forget ?_
    walk_at "go"
    refine use_l_pins few16 fun pp hpp => ?_
    walk_at "go"
    refine rc_tuple (seq_ref set_same) ?_
    exact ⟨μ2, sub_new Sub.refl hpp, rfl, rfl⟩
  rw [List.filter_eq_self.mpr (fun _ _ => rfl)]
  have hl3 : μ2 l3 = none := hl3
  show AG K _ _ _ (μ2.set l3 _) _
  have BR3 := BR2.sub (sub_new (Y := .lst (((List.range fl.toNat).map fun (i : Nat) => D.int (0 + i)).map fun d => .tup ((pinsOf rows (ofI5 d)).map D.int))) Sub.refl hl3)
  have s3 := (s2.trans (sub_new (Y := .lst (((List.range fl.toNat).map fun (i : Nat) => D.int (0 + i)).map fun d => .tup ((pinsOf rows (ofI5 d)).map D.int))) Sub.refl hl3))
  have hb3 := s3 b _ hb
  walk_at "go"
  refine a_lc1 (fun d => .tup ((pinsOf rows (ofI5 d)).map D.int)) (fun _ => true) (ai_1 ?_)
  walk_at "go"
  refine ⟨by omega, by omega, ?_, fun x hx => at_yes ⟨rfl, rfl⟩, fun x hx _ => ?_, fun l4 hl4 => ?_⟩
  · rw [List.length_map, List.length_range]; have := sizeLine_eq; omega
  · obtain ⟨i, hi, rfl⟩ := List.mem_map.mp hx
    have hi := List.mem_range.mp hi
    walk_at "nf"
    walk_at "go"
    refine ⟨b, dx, _, rfl, hb3, rfl, ?_⟩
    walk_at "go"
    refine ⟨b, _, w, h, rows, fl, gap, sp, kg, kt, rfl, BR3, OK, kd_int, fun lv e i0 i1 => ?_, fun z => ?_⟩
    · cases e
      exact ⟨rfl, rfl⟩
    · rw [wi_lv (by omega) (by omega)] at z
      cases z
  rw [List.filter_eq_self.mpr (fun _ _ => rfl)]
  have hl4 : (μ2.set l3 (.lst (((List.range fl.toNat).map fun (i : Nat) => D.int (0 + i)).map fun d => .tup ((pinsOf rows (ofI5 d)).map D.int)))) l4 = none := hl4
  have n34 := none_ne hl4
  walk_at "go"
  have okl : ∀ x ∈ (((List.range fl.toNat).map fun (i : Nat) => D.int (0 + i)).map fun d => D.tup ((pinsOf rows (ofI5 d)).map D.int)), OkN 1 x := fun x hx => by
    obtain ⟨d, _, rfl⟩ := List.mem_map.mp hx
    exact okn_tup fun z hz => by
      obtain ⟨k, _, rfl⟩ := List.mem_map.mp hz
      exact okn_int
  refine ro_eqL set_same (by rw [id, set_ne (Ne.symm n34)]; exact set_same) okl okl (by decide) ?_
  rw [eqv_same (okn_tup okl)]
  exact up_of (s3.trans (sub_new Sub.refl hl4)) q
/-- a pin's row fits -/
def RowIn (w h l : Int) (r : R4) : Prop := ((0 < r.1 ∧ r.1 < w) ∧ (0 < r.2.1 ∧ r.2.1 < h)) ∧ (0 ≤ r.2.2.1 ∧ r.2.2.1 ≤ r.2.2.2) ∧ r.2.2.2 < l
theorem ab_parts {w h l g : Int} {rows : List R4} : ab (.int w) (.int h) (.tup (rows.map encR)) (.int l) (.int g) = true ↔ ((2 ≤ w ∧ w ≤ 1000000) ∧ (2 ≤ h ∧ h ≤ 1000000) ∧ (1 ≤ l ∧ l ≤ 3) ∧ (1 ≤ g ∧ g ≤ 1000000)) ∧ rows.length ≤ 16 ∧ (∀ r ∈ rows, RowIn w h l r) ∧ (rows.map fun r => [r.1, r.2.1]).Nodup := by
  simp only [ab, wi, Bool.and_eq_true, decide_eq_true_eq, List.length_map, List.all_map, List.all_eq_true, List.map_map]
  constructor
  · rintro ⟨⟨⟨⟨a, b⟩, c⟩, d⟩, ⟨e, f⟩, g⟩
    refine ⟨⟨a, b, c, d⟩, e, fun r hr => ?_, g⟩
    have := f r hr
    simp only [Function.comp, encR, pr, Bool.and_eq_true, decide_eq_true_eq] at this
    exact ⟨this.1, this.2⟩
  · rintro ⟨⟨a, b, c, d⟩, e, f, g⟩
    refine ⟨⟨⟨⟨a, b⟩, c⟩, d⟩, ⟨e, fun r hr => ?_⟩, g⟩
    have := f r hr
    simp only [Function.comp, encR, pr, Bool.and_eq_true, decide_eq_true_eq]
    exact ⟨this.1, this.2⟩
theorem unl_ne {a o : Mk5} (h : a ≠ o) : unl a o = false := by
  cases e : unl a o with
  | false => rfl
  | true =>
    obtain ⟨e1, e2, e3, e4, e5⟩ := mk_inj (same_iff.mp e)
    exact absurd (Prod.ext e1 (Prod.ext e2 (Prod.ext e3 (Prod.ext e4 e5)))) h
theorem rot_ne {rows : List R4} (h : 1 < rows.length) (nd : (rows.map fun r => [r.1, r.2.1]).Nodup) : rows.drop 1 ++ rows.take 1 ≠ rows := by
  match rows, h with
  | r :: s :: t, _ =>
    intro e
    have e1 : s = r := (List.cons.inj e).1
    rw [e1, List.map_cons, List.map_cons] at nd
    exact (List.nodup_cons.mp nd).1 List.mem_cons_self
theorem unlikes_ok {o : Mk5} (k : Mk5Ok o) (w1 : o.1 ≤ 900000) (h1 : o.2.1 ≤ 900000) (g1 : o.2.2.2.2 ≤ 900000) : ∀ x ∈ unlikes o, Mk5Ok x ∧ x ≠ o := by
  obtain ⟨w, h, rows, fl, gap⟩ := o
  obtain ⟨⟨⟨a1, a2⟩, ⟨b1, b2⟩, ⟨c1, c2⟩, d1, d2⟩, few, rin, nd⟩ := ab_parts.mp k.ok
  dsimp only at w1 h1 g1 a1 a2 b1 b2 c1 c2 d1 d2 few rin nd
  have mk : ∀ (w' h' fl' gap' : Int) (rows' : List R4), ((2 ≤ w' ∧ w' ≤ 1000000) ∧ (2 ≤ h' ∧ h' ≤ 1000000) ∧ (1 ≤ fl' ∧ fl' ≤ 3) ∧ (1 ≤ gap' ∧ gap' ≤ 1000000)) → rows'.length ≤ 16 → (∀ r ∈ rows', RowIn w' h' fl' r) → (rows'.map fun r => [r.1, r.2.1]).Nodup → Mk5Ok (w', h', rows', fl', gap') := fun w' h' fl' gap' rows' a b c d => ⟨ab_parts.mpr ⟨a, b, c, d⟩⟩
  intro x hx
  unfold unlikes at hx
  simp only [List.mem_append] at hx
  rcases hx with ((hx | hx) | hx) | hx
  · simp only [List.mem_cons, List.not_mem_nil, or_false] at hx
    rcases hx with rfl | rfl | rfl
    · exact ⟨mk _ _ _ _ _ ⟨by omega, by omega, by omega, by omega⟩ few (fun r hr => by have := rin r hr; unfold RowIn at *; omega) nd, fun e => by have := congrArg Prod.fst e; dsimp only at this; omega⟩
    · exact ⟨mk _ _ _ _ _ ⟨by omega, by omega, by omega, by omega⟩ few (fun r hr => by have := rin r hr; unfold RowIn at *; omega) nd, fun e => by have := congrArg (fun z => z.2.1) e; dsimp only at this; omega⟩
    · exact ⟨mk _ _ _ _ _ ⟨by omega, by omega, by omega, by omega⟩ few (fun r hr => by have := rin r hr; unfold RowIn at *; omega) nd, fun e => by have := congrArg (fun z => z.2.2.2.2) e; dsimp only at this; omega⟩
  · split at hx
    · rename_i hf
      try dsimp only at hf
      rw [List.mem_singleton.mp hx]
      exact ⟨mk _ _ _ _ _ ⟨by omega, by omega, by omega, by omega⟩ few (fun r hr => by have := rin r hr; unfold RowIn at *; omega) nd, fun e => by have := congrArg (fun z => z.2.2.2.1) e; dsimp only at this; omega⟩
    · cases hx
  · split at hx
    · rename_i hf
      try dsimp only at hf
      rw [List.mem_singleton.mp hx]
      refine ⟨mk _ _ _ _ _ ⟨by omega, by omega, by omega, by omega⟩ (by rw [List.length_drop]; omega) (fun r hr => rin r (List.mem_of_mem_drop hr)) (by rw [List.map_drop]; exact nd.sublist (List.drop_sublist 1 _)), fun e => ?_⟩
      have := congrArg (fun z => z.2.2.1.length) e
      dsimp only at this
      rw [List.length_drop] at this
      have := List.length_pos_iff.mpr hf
      omega
    · cases hx
  · split at hx
    · rename_i hf
      try dsimp only at hf
      rw [List.mem_singleton.mp hx]
      have perm : (rows.drop 1 ++ rows.take 1).Perm rows := (List.perm_append_comm).trans (by rw [List.take_append_drop])
      exact ⟨mk _ _ _ _ _ ⟨by omega, by omega, by omega, by omega⟩ (by rw [perm.length_eq]; exact few) (fun r hr => rin r (perm.mem_iff.mp hr)) ((perm.map _).nodup_iff.mpr nd), fun e => rot_ne hf nd (congrArg (fun z => z.2.2.1) e)⟩
    · cases hx
/-- what the law has at hand of its board -/
structure L5 (C T : Addr) (μ : M) (b bd sp kg kt : Addr) (o : Mk5) : Prop where
  tab : μ T = some (.tab Q_g)
  bag : ∃ c m, BgOk m ∧ μ b = some (.lst [.int c, .int m])
  brd : Brd C μ bd o.1 o.2.1 o.2.2.1 o.2.2.2.1 o.2.2.2.2 sp kg kt
  nbp : b ≠ sp
theorem L5.sub {C T : Addr} {μ μ' : M} {b bd sp kg kt : Addr} {o : Mk5} (L : L5 C T μ b bd sp kg kt o) (s : Sub μ μ') : L5 C T μ' b bd sp kg kt o :=
  ⟨s _ _ L.tab, let ⟨c, m, hm, h⟩ := L.bag; ⟨c, m, hm, s _ _ h⟩, L.brd.sub s, L.nbp⟩
theorem L5.draw {C T : Addr} {μ : M} {b bd sp kg kt : Addr} {o : Mk5} (L : L5 C T μ b bd sp kg kt o) {c m : Int} (hm : BgOk m) : L5 C T (μ.set b (.lst [.int c, .int m])) b bd sp kg kt o := by
  obtain ⟨h1, ⟨c0, m0, _, h2⟩, ⟨dx, gl, tl, lvs, g1, g2, g3, g4⟩, h4⟩ := L
  refine ⟨by rw [set_ne (tab_ne h1 h2 fun q z => by cases z)]; exact h1, ⟨c, m, hm, set_same⟩, ⟨dx, gl, tl, lvs, ?_, ?_, ?_, ?_⟩, h4⟩
  · rw [set_ne (fun z => by rw [z, h2] at g1; cases g1)]; exact g1
  · rw [set_ne (Ne.symm h4)]; exact g2
  · rw [set_ne (fun z => by rw [z, h2] at g3; cases g3)]; exact g3
  · rw [set_ne (fun z => by rw [z, h2] at g4; cases g4)]; exact g4
theorem ok_law {f : Addr} {fd : FuncData} (F : Fun K "law" "law" s_law f fd) (B : Bs mg) {T_g : Addr} {C_Board : Addr} (K_Board : Cl_Board K C_Board) (O_Board : OwnC K C_Board) (V_SPACING : Cst mg "SPACING" (.int 1)) (G_board_eq : Mth P w K mg base C_Board "__eq__" ["self", "other"] 2 (spI K (P_board_eq C_Board))) (G_board_made_of : Mth P w K mg base C_Board "made_of" ["self"] 1 (spI K (P_board_made_of C_Board))) (G_l_bag : Def P w K mg base "_law_bag" ["_law_script", "_law_at"] 2 (spI K P_l_bag)) (G_l_board : Def P w K mg base "_law_board" ["_law_made_here"] 8 (spI K (P_l_board C_Board))) (G_l_made : Def P w K mg base "_law_made" ["_law_bag_here", "_law_most"] 3 (spI K P_l_made)) (G_l_no_layer : Def P w K mg base "_law_no_layer" ["_law_board_here", "_law_number", "_law_way"] 11 (spI K (P_l_no_layer C_Board T_g))) (G_l_no_pin : Def P w K mg base "_law_no_pin" ["_law_board_here", "_law_number"] 6 (spI K (P_l_no_pin C_Board))) (G_l_odd : Def P w K mg base "_law_odd" ["_law_bag_here", "_law_most"] 3 (spI K P_l_odd)) (G_l_told : Def P w K mg base "_law_told" ["_law_board_here", "_law_made_here"] 7 (spI K (P_l_told C_Board))) (G_l_unlike : Def P w K mg base "_law_unlike" ["_law_made_here"] 1 (spI K P_l_unlike)) (G_l_whole : Def P w K mg base "_law_whole" ["_law_thing"] 1 (spI K P_l_whole)) (M_Board_1 : MkK P w K mg base "Board" C_Board ["self", "width", "height", "pins", "layers", "spacing"] 3 [] [(false, 0), (false, 1)] [.int 1, .int 1] 6 (spX K (xn mg) (P_board_init C_Board))) : FnOk P w K mg base CX0 12 f fd ["_law_script"] (spI K (P_law T_g)) := by
  refine F.ok sc_law (fun vs H Q E h => spI_len h (len_law T_g)) (fun cdv A outer s H vs Q E hr h => ?_)
  have hu65 := hu65_of hr
  refine ⟨_, (pss_cons (ps_for PassesOwn.never rfl (pi_range1 (by rfl) B.b_range (pa_cons (pe_op op_add pe_int (pe_callB (call_min2 rfl) (by rfl) B.b_min (by decide +kernel) (pa_cons pe_int (pa_cons (pe_callB (call_lenK (K := K) rfl) (by rfl) B.b_len (by decide +kernel) (pa_cons (pv 0) pa_nil)) pa_nil)))) pa_nil)) (pg_name (i := 1) sc_law.nd rfl (by first | exact Or.inl rfl | exact Or.inr rfl))
      (pss_cons (ps_set (i := 2) sc_law.nd rfl (by first | exact Or.inl rfl | exact Or.inr rfl) (pe_def G_l_bag (hr.mono (by decide)) (by rfl) (pa_cons (pv 0) (pa_cons (pv 1) pa_nil))))
      (pss_cons (ps_set (i := 3) sc_law.nd rfl (by first | exact Or.inl rfl | exact Or.inr rfl) (pe_def G_l_made (hr.mono (by decide)) (by rfl) (pa_cons (pv 2) (pa_cons pe_int pa_nil))))
      (pss_cons (ps_set (i := 4) sc_law.nd rfl (by first | exact Or.inl rfl | exact Or.inr rfl) (pe_def G_l_board (hr.mono (by decide)) (by rfl) (pa_cons (pv 3) pa_nil)))
      (pss_cons (ps_if (PW.pt (pw_or (pt_not (pt_val (pe_def G_l_told (hr.mono (by decide)) (by rfl) (pa_cons (pv 4) (pa_cons (pv 3) pa_nil))))) (pw_or (pt_cmpR op_ne (pe_cst V_SPACING (by rfl)) pe_int (by first | exact nomark _ | rfl)) (pw_or1 (pt_not (pt_val (pe_def G_l_whole (hr.mono (by decide)) (by rfl) (pa_cons (pe_cst V_SPACING (by rfl)) pa_nil)))))))) (pss_one (ps_ret pe_bl)) pss_nil)
      (pss_cons (ps_if (pt_not (pt_val (pe_def G_l_no_pin (hr.mono (by decide)) (by rfl) (pa_cons (pv 4) (pa_cons (pe_def G_l_odd (hr.mono (by decide)) (by rfl) (pa_cons (pv 2) (pa_cons (pe_op op_add (pe_callB (call_lenK (K := K) rfl) (by rfl) B.b_len (by decide +kernel) (pa_cons (pe_ix (ix_seqK (K := K) rfl) (pv 3) pe_int (fun _ _ => rfl)) pa_nil)) pe_int) pa_nil))) pa_nil))))) (pss_one (ps_ret pe_bl)) pss_nil)
      (pss_cons (ps_if (pt_not (pt_val (pe_callB (cr_allK (K := K) rfl rfl) (by rfl) B.b_all (by decide +kernel) (pa_cons (pe_lc (own := [("_law_way", 9)]) (g := gName 9) (tt := tYes) rfl sc_law.nd (pi_range1 (by rfl) B.b_range (pa_cons pe_int pa_nil)) (blkOk_by (own := [("_law_way", 9)]) (N := N_law) (sc := defScope s_law) (by decide +kernel)) (fun _ _ _ _ _ => (pg_name (i := 9) sc_law.nd rfl (by first | exact Or.inl rfl | exact Or.inr rfl))) (fun _ _ _ _ _ => pts_nil) (fun _ _ _ _ _ => (pe_def G_l_no_layer (hr.mono (by decide)) (by rfl) (pa_cons (pv 4) (pa_cons (pe_def G_l_odd (hr.mono (by decide)) (by rfl) (pa_cons (pv 2) (pa_cons (pe_op op_sub (pe_ix (ix_seqK (K := K) rfl) (pv 3) pe_int (fun _ _ => rfl)) pe_int) pa_nil))) (pa_cons (pv 9) pa_nil)))))) pa_nil)))) (pss_one (ps_ret pe_bl)) pss_nil)
      (pss_cons (ps_set (i := 5) sc_law.nd rfl (by first | exact Or.inl rfl | exact Or.inr rfl) (pe_def G_l_board (hr.mono (by decide)) (by rfl) (pa_cons (pv 3) pa_nil)))
      (pss_cons (ps_if (PW.pt (pw_or (pt_not (pt_cmpR (OWN.op_eqO G_board_eq (hr.mono (by decide))) (pv 4) (pv 5) (by first | exact nomark _ | rfl))) (pw_or1 (pt_cmpR (OWN.op_neOK (K := K) rfl G_board_eq O_Board.ne O_Board.isi.cm (hr.mono (by decide))) (pv 4) (pv 5) (by first | exact nomark _ | rfl))))) (pss_one (ps_ret pe_bl)) pss_nil)
      (pss_cons (ps_if (PW.pt (pw_or (pt_cmpR (OWN.op_eqXK (K := K) rfl G_board_eq (hr.mono (by decide))) (pv 4) (pv 3) (by first | exact nomark _ | rfl)) (pw_or1 (pt_cmpR (OWN.op_inOK (K := K) rfl G_board_eq (hr.mono (by decide))) (pv 4) (pe_lst (pa_cons pe_non (pa_cons (pe_ix (ix_seqK (K := K) rfl) (pv 3) pe_int (fun _ _ => rfl)) (pa_cons pe_int pa_nil)))) (by first | exact nomark _ | rfl))))) (pss_one (ps_ret pe_bl)) pss_nil)
      (pss_cons (ps_setLc (i := 6) (own := [("_law_other", 10)]) (g := gName 10) (tt := tYes) rfl sc_law.nd rfl rfl (sw_true rfl rfl rfl (by decide +kernel)) (pi_listK (K := K) rfl (pe_def G_l_unlike (hr.mono (by decide)) (by rfl) (pa_cons (pv 3) pa_nil))) (blkOk_by (own := [("_law_other", 10)]) (N := N_law) (sc := defScope s_law) (by decide +kernel)) (fun _ _ _ _ _ => (pg_name (i := 10) sc_law.nd rfl (by first | exact Or.inl rfl | exact Or.inr rfl))) (fun _ _ _ _ _ => pts_nil) (fun _ _ _ _ _ => (pe_def G_l_board (hr.mono (by decide)) (by rfl) (pa_cons (pv 10) pa_nil))))
      (pss_cons (ps_if (PW.pt (pw_or (pt_cmpR (OWN.op_inOK (K := K) rfl G_board_eq (hr.mono (by decide))) (pv 4) (pv 6) (by first | exact nomark _ | rfl)) (pw_or1 (pt_not (pt_val (pe_callB (cr_allK (K := K) rfl rfl) (by rfl) B.b_all (by decide +kernel) (pa_cons (pe_lc (own := [("_law_other", 10)]) (g := gName 10) (tt := tYes) rfl sc_law.nd (pi_listK (K := K) rfl (pv 6)) (blkOk_by (own := [("_law_other", 10)]) (N := N_law) (sc := defScope s_law) (by decide +kernel)) (fun _ _ _ _ _ => (pg_name (i := 10) sc_law.nd rfl (by first | exact Or.inl rfl | exact Or.inr rfl))) (fun _ _ _ _ _ => pts_nil) (fun _ _ _ _ _ => (pe_cmpR (OWN.op_neOK (K := K) rfl G_board_eq O_Board.ne O_Board.isi.cm (hr.mono (by decide))) (pv 4) (pv 10) (by first | exact nomark _ | rfl)))) pa_nil))))))) (pss_one (ps_ret pe_bl)) pss_nil)
      (pss_cons (ps_set (i := 7) sc_law.nd rfl (by first | exact Or.inl rfl | exact Or.inr rfl) (pe_callTy (call_tupleK (K := K) rfl) (by rfl) B.b_tuple (by decide +kernel) (pa_cons (pe_lc (own := [("_law_row", 11)]) (g := gName 11) (tt := tYes) rfl sc_law.nd (pi_tupK (K := K) rfl (pe_ix (ix_seqK (K := K) rfl) (pv 3) pe_int (fun _ _ => rfl))) (blkOk_by (own := [("_law_row", 11)]) (N := N_law) (sc := defScope s_law) (by decide +kernel)) (fun _ _ _ _ _ => (pg_name (i := 11) sc_law.nd rfl (by first | exact Or.inl rfl | exact Or.inr rfl))) (fun _ _ _ _ _ => pts_nil) (fun _ _ _ _ _ => (pe_op (op_catAK (K := K) rfl) (pe_slice (sl_tupAK (K := K) rfl) (pv 11) po_none (po_some pe_int)) (pe_tup (pa_cons pe_int (pa_cons pe_int pa_nil)))))) pa_nil)))
      (pss_cons (ps_set (i := 8) sc_law.nd rfl (by first | exact Or.inl rfl | exact Or.inr rfl) (pe_tup (pa_cons (pe_ix (ix_seqK (K := K) rfl) (pv 3) pe_int (fun _ _ => rfl)) (pa_cons (pe_ix (ix_seqK (K := K) rfl) (pv 3) pe_int (fun _ _ => rfl)) (pa_cons (pv 7) (pa_cons pe_int (pa_cons pe_int pa_nil)))))))
      (pss_cons (ps_if (pt_cmpR (op_neDK (K := K) rfl hr.units) (pe_mthN0 G_board_made_of (hr.mono (by decide)) (pe_mkK M_Board_1 (hr.mono (by decide)) (by rfl) (pa_cons (pe_ix (ix_seqK (K := K) rfl) (pv 3) pe_int (fun _ _ => rfl)) (pa_cons (pe_ix (ix_seqK (K := K) rfl) (pv 3) pe_int (fun _ _ => rfl)) (pa_cons (pv 7) pa_nil))) pk_nil)) (pv 8) (by first | exact nomark _ | rfl)) (pss_one (ps_ret pe_bl)) pss_nil)
      (pss_one (ps_if (pt_not (pt_val (pe_def G_l_told (hr.mono (by decide)) (by rfl) (pa_cons (pv 4) (pa_cons (pv 3) pa_nil))))) (pss_one (ps_ret pe_bl)) pss_nil)))))))))))))))))
      (pss_one (ps_ret pe_bl))), body_ok h (fun ds μ Φ p => ?_)⟩
  (try dsimp only [cxOf, Cx.nox, Cx.wish, List.map_cons, List.map_nil])
  obtain ⟨ns, rfl, hl, hT, q⟩ := p
  show AS K _ [some _, none, none, none, none, none, none, none, none, none, none, none] _ _
  walk_at "go"
  refine s_for1 (1 + if ((ns.map D.int).length : Int) < 4 then ((ns.map D.int).length : Int) else 4) (fun i τ' μ' => μ' T_g = some (.tab Q_g) ∧ ∃ o1 o2 o3 o4 o5 o6 o7 o8 o9 o10 o11 : Option D, τ' = [some (.rol (ns.map D.int)), o1, o2, o3, o4, o5, o6, o7, o8, o9, o10, o11]) ?h ?hs ?hd
  case h =>
    walk_at "go"
    refine ⟨rfl, ?_, ?_, hT, ?_⟩
    · split <;> omega
    · split <;> omega
    · exact ⟨_, _, _, _, _, _, _, _, _, _, _, rfl⟩
  case hd =>
    rintro τ' μ' ⟨_, o1, o2, o3, o4, o5, o6, o7, o8, o9, o10, o11, rfl⟩
    walk_at "go"
    exact q _
  case hs =>
    rintro i τ' μ' hi ⟨hT, o1, o2, o3, o4, o5, o6, o7, o8, o9, o10, o11, rfl⟩
    have hi6 : (i : Int) ≤ 6 := by split at hi <;> omega
    walk_at "go"
    refine use_bag (by omega) (by omega) fun b c m hb hm => ?_
    walk_at "go"
    refine use_made (by walk_at "mu") hm (by decide) (by decide) fun w h rows fl gap c3 m3 hmd hm3 => ?_
    obtain ⟨hok, hw1, hh1, hg1⟩ := hmd
    have OK := bok_of hok hw1 hh1
    have hbn : μ' b = none := hb
    have hT2 : ((μ'.set b (.lst [.int c, .int m])).set b (.lst [.int c3, .int m3])) T_g = some (.tab Q_g) := by
      rw [set_set]
      exact tab_new hT hbn
    have hb2 : ((μ'.set b (.lst [.int c, .int m])).set b (.lst [.int c3, .int m3])) b = some (.lst [.int c3, .int m3]) := set_same
    generalize ((μ'.set b (.lst [.int c, .int m])).set b (.lst [.int c3, .int m3])) = μ4 at hT2 hb2 ⊢
    clear hb hm
    walk_at "go"
    refine ⟨w, h, rows, fl, gap, rfl, hok, fun μ5 bd sp kg kt sb5 _ f1 _ _ BR => ?_⟩
    have L : L5 C_Board T_g μ5 b bd sp kg kt (w, h, rows, fl, gap) := ⟨sb5 _ _ hT2, ⟨c3, m3, hm3, sb5 _ _ hb2⟩, BR, Ne.symm (ne_of_some f1 hb2)⟩
    clear hT2 sb5 hb2 BR
    have MK : Mk5Ok (w, h, rows, fl, gap) := ⟨hok⟩
    have few : rows.length ≤ 16 := OK.len
    walk_at "go"
    refine ⟨bd, w, h, rows, fl, gap, sp, kg, kt, rfl, L.brd, OK, MK, ?_⟩
    walk_at "go"
    refine ite_nd (fun z => absurd rfl z) (fun _ => ?_)
    walk_at "go"
    refine ⟨1, rfl, ?_⟩
    refine ⟨_, rfl, ?_⟩
    rw [if_neg (by decide)]
    obtain ⟨c5, m5, hm5, hb5⟩ := L.bag
    walk_at "go"
    refine ⟨b, _, c5, m5, rfl, hb5, hm5, ?_, ?_, fun d c6 m6 odd hm6 => ?_⟩
    · rw [List.length_map]; omega
    · rw [List.length_map]; omega
    rw [List.length_map] at odd
    have L6 := L.draw (c := c6) hm6
    generalize μ5.set b (.lst [.int c6, .int m6]) = μ6 at L6 ⊢
    clear L hb5
    walk_at "go"
    refine ⟨bd, d, w, h, rows, fl, gap, sp, kg, kt, rfl, L6.brd, odd, ?_⟩
    refine ⟨_, rfl, ?_⟩
    rw [if_neg (by decide)]
    walk_at "go"
    refine a_lc tg_name (ai_1 ?_)
    walk_at "go"
    refine ⟨by decide, by decide, fun j acc μ' => acc = (List.replicate j true).map D.bl ∧ j ≤ 4 ∧ L5 C_Board T_g μ' b bd sp kg kt (w, h, rows, fl, gap), ⟨rfl, Nat.zero_le _, L6⟩, ?_, ?_⟩
    · rintro j x acc μ' hx ⟨rfl, hj, L⟩
      have hj4 : j < 4 := by
        have := (List.getElem?_eq_some_iff.mp hx).1
        simpa using this
      obtain ⟨way, rfl⟩ : ∃ way : Int, x = .int way := by
        obtain ⟨t, _, rfl⟩ := List.mem_map.mp (List.mem_of_getElem? hx)
        exact ⟨_, rfl⟩
      refine ⟨_, rfl, rfl, ?_⟩
      walk_at "nf"
      obtain ⟨c5, m5, hm5, hb5⟩ := L.bag
      have f0 := OK.l0
      have f1 := OK.l1
      have zf : Sz 8 fl := by unfold Sz; omega
      walk_at "go"
      refine ⟨b, _, c5, m5, rfl, hb5, hm5, by omega, by omega, fun d c6 m6 odd hm6 => ?_⟩
      have L6 := L.draw (c := c6) hm6
      generalize μ'.set b (.lst [.int c6, .int m6]) = μ6 at L6 ⊢
      walk_at "go"
      refine ⟨bd, d, way, w, h, rows, fl, gap, sp, kg, kt, rfl, L6.brd, OK, L6.tab, odd, ?_⟩
      refine ⟨?_, ?_, by omega, L6⟩
      · rw [List.length_map, List.length_replicate]; have := sizeLine_eq; omega
      · rw [List.replicate_succ', List.map_append]; rfl
    rintro acc μ7 ⟨rfl, _, L7⟩ l8 hl8
    rw [List.length_map, List.length_range]
    dsimp only [id] at hl8 ⊢
    have L8 := L7.sub (sub_new (Y := .lst ((List.replicate (Int.toNat 4) true).map D.bl)) Sub.refl hl8)
    have h8 : (μ7.set l8 (.lst ((List.replicate (Int.toNat 4) true).map D.bl))) l8 = some (.lst ((List.replicate (Int.toNat 4) true).map D.bl)) := set_same
    generalize (μ7.set l8 (.lst ((List.replicate (Int.toNat 4) true).map D.bl))) = μ8 at L8 h8 ⊢
    clear L6 L7 hl8
    walk_at "go"
    refine rc_all h8 ?_
    refine ⟨_, rfl, ?_⟩
    rw [if_neg (by decide)]
    walk_at "go"
    clear h8
    refine ⟨w, h, rows, fl, gap, rfl, hok, fun μ9 b2 sp2 kg2 kt2 sb9 e1 e2 e3 e4 BR2 => ?_⟩
    have L9 := L8.sub sb9
    clear L8 sb9 e1 e2 e3 e4
    walk_at "go"
    obtain ⟨dx, gl, tl, lvs, hb9, _⟩ := id L9.brd
    obtain ⟨dx2, gl2, tl2, lvs2, hb29, _⟩ := id BR2
    have same : ∀ {μ' : M} {Φ' : D → M → Prop}, Brd C_Board μ' bd w h rows fl gap sp kg kt → Brd C_Board μ' b2 w h rows fl gap sp2 kg2 kt2 → Φ' (.bl true) μ' → P_board_eq C_Board [.ref bd, .ref b2] μ' Φ' := fun {μ' Φ'} B1 B2 k => by
      refine ⟨bd, _, w, h, rows, fl, gap, sp, kg, kt, rfl, B1, .inl ⟨b2, w, h, rows, fl, gap, sp2, kg2, kt2, rfl, B2, ?_⟩⟩
      rw [same_self]
      exact k
    refine ro_eqO hb9 hb29 (same L9.brd BR2 ?_)
    refine ⟨_, rfl, ?_⟩
    rw [if_neg (by decide)]
    walk_at "go"
    refine ro_neO hb9 hb29 (same L9.brd BR2 ?_)
    refine ⟨true, rfl, ?_⟩
    refine ⟨_, rfl, ?_⟩
    rw [if_neg (by decide)]
    walk_at "go"
    refine ro_eqX hb9 (n := "tuple") rfl (O_Board.nf (by decide)) ?_
    refine ⟨bd, _, w, h, rows, fl, gap, sp, kg, kt, rfl, L9.brd, .inr ⟨"tuple", rfl, by decide, ?_⟩⟩
    refine ⟨_, rfl, ?_⟩
    rw [if_neg (by decide)]
    walk_at "go"
    have meek : ∀ {μ' : M} {d : D} {n : String} {Φ' : Bool → M → Prop}, Brd C_Board μ' bd w h rows fl gap sp kg kt → tyn μ' d = some n → n ∈ (["NoneType", "int", "bool", "tuple", "str", "list"] : List String) → ((d = .non ∧ PySem.W.subIn K (.ref C_Board) (.type "NoneType") = some false) ∨ (∃ i, d = .int i ∧ PySem.W.subIn K (.ref C_Board) (.type "int") = some false) ∨ ∃ ds, d = .tup ds ∧ PySem.W.subIn K (.ref C_Board) (.type "tuple") = some false) → Φ' false μ' → TellsD K C_Board (P_board_eq C_Board) d bd μ' Φ' := fun {μ' d n Φ'} B hn hm kind k => by
      obtain ⟨dx, gl, tl, lvs, h1, _⟩ := id B
      exact ⟨⟨dx, _, h1⟩, .inr (.inr ⟨kind, bd, d, w, h, rows, fl, gap, sp, kg, kt, rfl, B, .inr ⟨n, hn, hm, false, rfl, k⟩⟩)⟩
    intro l10 hl10
    have L10 := L9.sub (sub_new (Y := .lst [D.non, D.tup (List.map encR rows), D.int 0]) Sub.refl hl10)
    have h10 : (μ9.set l10 (.lst [D.non, D.tup (List.map encR rows), D.int 0])) l10 = some (.lst [D.non, D.tup (List.map encR rows), D.int 0]) := set_same
    generalize μ9.set l10 (.lst [D.non, D.tup (List.map encR rows), D.int 0]) = μ10 at L10 h10 ⊢
    clear L9 hl10 hb9 hb29 BR2
    refine ro_inO (ds := [D.non, D.tup (List.map encR rows), D.int 0]) ?_
    refine ⟨h10, meek L10.brd (n := "NoneType") rfl (by decide) (.inl ⟨rfl, O_Board.upN⟩) ?_⟩
    rw [if_neg (by decide)]
    refine ⟨h10, meek L10.brd (n := "tuple") rfl (by decide) (.inr (.inr ⟨_, rfl, O_Board.upT⟩)) ?_⟩
    rw [if_neg (by decide)]
    refine ⟨h10, meek L10.brd (n := "int") rfl (by decide) (.inr (.inl ⟨_, rfl, O_Board.upI⟩)) ?_⟩
    rw [if_neg (by decide)]
    refine ⟨h10, ?_⟩
    refine ⟨_, rfl, ?_⟩
    rw [if_neg (by decide)]
    clear h10
    have UN := unlikes_ok MK (by exact hw1) (by exact hh1) (by exact hg1)
    walk_at "go"
    refine a_lcLn tg_name ?_
    walk_at "go"
    refine ⟨(w, h, rows, fl, gap), rfl, few, fun lu hlu => ?_⟩
    have L11 := (L10.sub (sub_new (Y := .lst ((unlikes (w, h, rows, fl, gap)).map m5D)) Sub.refl hlu))
    have ul : (unlikes (w, h, rows, fl, gap)).length ≤ 6 := by
      unfold unlikes
      simp only [List.length_append, List.length_cons, List.length_nil]
      split <;> split <;> split <;> simp
    let Oth : Addr → M → Prop := fun r μ' => r ≠ bd ∧ ∃ (o : Mk5) (sp3 kg3 kt3 : Addr), o ≠ (w, h, rows, fl, gap) ∧ Brd C_Board μ' r o.1 o.2.1 o.2.2.1 o.2.2.2.1 o.2.2.2.2 sp3 kg3 kt3
    have OS : ∀ {r : Addr} {μ1 μ2 : M}, Sub μ1 μ2 → Oth r μ1 → Oth r μ2 := fun {r μ1 μ2} s ⟨h1, o, s3, g3, t3, h2, B⟩ => ⟨h1, o, s3, g3, t3, h2, B.sub s⟩
    have ed : (μ10.set lu (.lst ((unlikes (w, h, rows, fl, gap)).map m5D))).del lu = μ10 := by
      funext a
      by_cases na : a = lu
      · rw [na, Z.del_same, hlu]
      · rw [Z.del_ne na, set_ne na]
    refine ⟨fun k acc μ' => ∃ rs : List Addr, acc = rs.map D.ref ∧ rs.length = k ∧ k ≤ 6 ∧ (∀ r ∈ rs, Oth r μ') ∧ L5 C_Board T_g μ' b bd sp kg kt (w, h, rows, fl, gap), lu, _, rfl, set_same, ⟨[], rfl, rfl, Nat.zero_le _, (fun r hr => by cases hr), by rw [ed]; exact L10⟩, ?_, ?_⟩
    · rintro k x acc μ' hx hlu' ⟨rs, rfl, hk, hk6, hrs, L⟩
      have hlt := (List.getElem?_eq_some_iff.mp hx).1
      rw [List.length_map] at hlt
      obtain ⟨⟨w3, h3, rows3, fl3, gap3⟩, ho, rfl⟩ := List.mem_map.mp (List.mem_of_getElem? hx)
      obtain ⟨ok3, ne3⟩ := UN _ ho
      refine ⟨_, rfl, rfl, ?_⟩
      walk_at "nf"
      walk_at "go"
      refine ⟨w3, h3, rows3, fl3, gap3, rfl, ok3.ok, fun μ12 b3 sp3 kg3 kt3 sb12 e1 e2 e3 e4 BR3 => ?_⟩
      have L12 := L.sub sb12
      refine ⟨?_, rs ++ [b3], by rw [List.map_append]; rfl, by rw [List.length_append, List.length_singleton, hk], by omega, ?_, L12⟩
      · rw [List.length_map, hk]; have := sizeLine_eq; omega
      · intro r hr
        rcases List.mem_append.mp hr with z | z
        · exact OS sb12 (hrs r z)
        · rw [List.mem_singleton.mp z]
          refine ⟨?_, (w3, h3, rows3, fl3, gap3), sp3, kg3, kt3, ne3, BR3⟩
          rintro rfl
          obtain ⟨_, _, _, _, z1, _⟩ := id L.brd
          rw [e1] at z1
          cases z1
    rintro acc μ13 hlu13 ⟨rs, rfl, hk, hk6, hrs, L13⟩ lo hlo1 hlo2
    have e14 : Sub μ13 ((μ13.set lu (.lst ((unlikes (w, h, rows, fl, gap)).map m5D))).set lo (.lst (rs.map D.ref))) := sub_new (sub_new Sub.refl hlu13) (by rw [set_ne hlo1]; exact hlo2)
    have L14 := L13.sub e14
    have hrs14 : ∀ r ∈ rs, Oth r _ := fun r hr => OS e14 (hrs r hr)
    have h14 : ((μ13.set lu (.lst ((unlikes (w, h, rows, fl, gap)).map m5D))).set lo (.lst (rs.map D.ref))) lo = some (.lst (rs.map D.ref)) := set_same
    generalize ((μ13.set lu (.lst ((unlikes (w, h, rows, fl, gap)).map m5D))).set lo (.lst (rs.map D.ref))) = μ14 at L14 hrs14 h14 ⊢
    clear L13 hrs e14 hlo2 hlo1 hlu13 L10 L11 hlu ed
    walk_at "go"
    refine ro_inO (ds := rs.map D.ref) ?_
    have un1 : ∀ {o : Mk5}, o ≠ (w, h, rows, fl, gap) → sameB o.1 o.2.1 o.2.2.1 o.2.2.2.1 o.2.2.2.2 w h rows fl gap = false := fun {o} e => unl_ne e
    have un2 : ∀ {o : Mk5}, o ≠ (w, h, rows, fl, gap) → sameB w h rows fl gap o.1 o.2.1 o.2.2.1 o.2.2.2.1 o.2.2.2.2 = false := fun {o} e => unl_ne (a := (w, h, rows, fl, gap)) (Ne.symm e)
    have inAll : ∀ {Φ' : D → M → Prop} (es : List Addr), (∀ r ∈ es, Oth r μ14) → Φ' (.bl false) μ14 → InD K C_Board (P_board_eq C_Board) lo bd (rs.map D.ref) Φ' (es.map D.ref) μ14 := fun {Φ'} es => by
      induction es with
      | nil => exact fun _ k => ⟨h14, k⟩
      | cons r es ih =>
        intro hr k
        obtain ⟨nr, o, s3, g3, t3, no, B3⟩ := hr r List.mem_cons_self
        obtain ⟨dx3, gl3, tl3, lvs3, hb3, _⟩ := id B3
        obtain ⟨dx, gl, tl, lvs, hb9, _⟩ := id L14.brd
        refine ⟨h14, ⟨dx, _, hb9⟩, .inr (.inl ⟨fun z => nr (D.ref.inj z), ⟨r, dx3, _, rfl, hb3⟩, r, _, _, _, _, _, _, s3, g3, t3, rfl, B3, .inl ⟨bd, w, h, rows, fl, gap, sp, kg, kt, rfl, L14.brd, false, ?_, ?_⟩⟩)⟩
        · rw [un1 no]
        · show if false = true then _ else _
          rw [if_neg (by decide)]
          exact ih (fun r' hr' => hr r' (List.mem_cons_of_mem _ hr')) k
    refine inAll rs hrs14 ?_
    refine ⟨_, rfl, ?_⟩
    rw [if_neg (by decide)]
    walk_at "go"
    refine a_lc1 (fun _ => .bl true) (fun _ => true) (ai_L ?_)
    walk_at "go"
    have delB : ∀ {r s3 g3 t3 : Addr} {w3 h3 l3 q3 : Int} {rows3 : List R4}, Brd C_Board μ14 r w3 h3 rows3 l3 q3 s3 g3 t3 → Brd C_Board (μ14.del lo) r w3 h3 rows3 l3 q3 s3 g3 t3 := fun {r s3 g3 t3 w3 h3 l3 q3 rows3} B => by
      obtain ⟨dx, gl, tl, lvs, h1, h2, h3, h4⟩ := B
      refine ⟨dx, gl, tl, lvs, ?_, ?_, ?_, ?_⟩
      · rw [Z.del_ne (fun z => by rw [z, h14] at h1; cases h1)]; exact h1
      · rw [Z.del_ne (fun z => by
          rw [z, h14] at h2
          have e := MO.lst.inj (Option.some.inj h2)
          unfold spots at e
          cases rs <;> simp at e)]; exact h2
      · rw [Z.del_ne (fun z => by rw [z, h14] at h3; cases h3)]; exact h3
      · rw [Z.del_ne (fun z => by rw [z, h14] at h4; cases h4)]; exact h4
    refine ⟨lo, _, rfl, h14, by rw [List.length_map]; have := sizeLine_eq; omega, fun x hx => at_yes ⟨rfl, rfl⟩, fun x hx _ => ?_, fun l4 hl4 => ?_⟩
    · obtain ⟨r, hr, rfl⟩ := List.mem_map.mp hx
      obtain ⟨nr, o, s3, g3, t3, no, B3⟩ := hrs14 r hr
      obtain ⟨dx3, gl3, tl3, lvs3, hb3, _⟩ := id (delB B3)
      obtain ⟨dx, gl, tl, lvs, hb9, _⟩ := id (delB L14.brd)
      walk_at "nf"
      walk_at "go"
      refine ro_neO hb9 hb3 ?_
      refine ⟨bd, _, w, h, rows, fl, gap, sp, kg, kt, rfl, delB L14.brd, .inl ⟨r, _, _, _, _, _, s3, g3, t3, rfl, delB B3, false, ?_, rfl, rfl⟩⟩
      rw [un2 no]
    have e15 : (μ14.del lo).set lo (.lst (rs.map D.ref)) = μ14 := by
      funext a
      by_cases na : a = lo
      · rw [na, set_same, h14]
      · rw [set_ne na, Z.del_ne na]
    dsimp only at hl4 ⊢
    rw [e15] at hl4 ⊢
    rw [List.filter_eq_self.mpr (fun _ _ => rfl), List.map_const', List.length_map]
    have L15 := L14.sub (sub_new (Y := .lst (List.replicate rs.length (D.bl true))) Sub.refl hl4)
    have h15 : (μ14.set l4 (.lst (List.replicate rs.length (D.bl true)))) l4 = some (.lst ((List.replicate rs.length true).map D.bl)) := by rw [set_same, List.map_replicate]
    generalize (μ14.set l4 (.lst (List.replicate rs.length (D.bl true)))) = μ15 at L15 h15 ⊢
    clear L14 hl4 e15 hrs14 h14 delB inAll
    walk_at "go"
    refine rc_all h15 ?_
    refine ⟨_, rfl, ?_⟩
    rw [if_neg (by simp)]
    walk_at "go"
    refine a_lc1 (fun d => match d with | .tup (x :: y :: _) => .tup [x, y, .int 0, .int 0] | _ => .non) (fun _ => true) (ai_T ?_)
    walk_at "go"
    refine ⟨by rw [List.length_map]; have := sizeLine_eq; omega, fun x hx => at_yes ⟨rfl, rfl⟩, fun x hx _ => ?_, fun l5 hl5 => ?_⟩
    · obtain ⟨r, hr, rfl⟩ := List.mem_map.mp hx
      walk_at "nf"
      walk_at "go"
      exact ⟨rfl, rfl⟩
    rw [List.filter_eq_self.mpr (fun _ _ => rfl), List.map_map]
    rw [show (List.map ((fun d => match d with | D.tup (x :: y :: tail) => D.tup [x, y, D.int 0, D.int 0] | x => D.non) ∘ encR) rows) = (rows.map fun r => ((r.1, r.2.1, 0, 0) : R4)).map encR from by rw [List.map_map]; rfl]
    have FL : ab (.int w) (.int h) (.tup ((rows.map fun r => ((r.1, r.2.1, 0, 0) : R4)).map encR)) (.int 1) (.int 1) = true := by
      obtain ⟨⟨a1, a2, a3, a4⟩, few2, rin, nd⟩ := ab_parts.mp hok
      refine ab_parts.mpr ⟨⟨a1, a2, ⟨by decide, by decide⟩, by decide, by decide⟩, by rw [List.length_map]; exact few2, fun r hr => ?_, by rw [List.map_map]; exact nd⟩
      obtain ⟨r', hr', rfl⟩ := List.mem_map.mp hr
      exact ⟨(rin r' hr').1, ⟨Int.le_refl 0, Int.le_refl 0⟩, Int.zero_lt_one⟩
    have L16 := L15.sub (sub_new (Y := .lst ((rows.map fun r => ((r.1, r.2.1, 0, 0) : R4)).map encR)) Sub.refl (show μ15 l5 = none from hl5))
    have h16 : (μ15.set l5 (.lst ((rows.map fun r => ((r.1, r.2.1, 0, 0) : R4)).map encR))) l5 = some (.lst ((rows.map fun r => ((r.1, r.2.1, 0, 0) : R4)).map encR)) := set_same
    dsimp only [id]
    generalize (μ15.set l5 (.lst ((rows.map fun r => ((r.1, r.2.1, 0, 0) : R4)).map encR))) = μ16 at L16 h16 ⊢
    clear L15 h15 hl5
    walk_at "go"
    refine rc_tuple (seq_ref h16) ?_
    walk_at "go"
    refine a_mkK [.int 1, .int 1] (fun _ => .cons (.int _) (.cons (.int _) .nil)) ?_
    walk_at "go"
    refine ⟨rfl, rfl, fun b3 dx3 hb3 => ?_⟩
    refine ⟨b3, dx3, .int w, .int h, .tup ((rows.map fun r => ((r.1, r.2.1, 0, 0) : R4)).map encR), .int 1, .int 1, rfl, set_same, kd_int, kd_int, kd_tup, kd_int, kd_int, fun rs e => ?_, fun wn hn rows2 ln sn _ e1 e2 e3 e4 e5 μ' sp3 kg3 kt3 sb h1 h2 h3 B => ?_, fun e => ?_⟩
    · cases e
      refine ⟨by rw [List.length_map, List.length_map]; omega, fun r hr => ?_⟩
      obtain ⟨r, _, rfl⟩ := List.mem_map.mp hr
      exact encR_kx r
    · cases e1; cases e2; cases e4; cases e5
      simp only [D.tup.injEq] at e3
      have e6 := map_inj encR_inj e3
      subst e6
      have L17 := L16.sub (μ' := μ') fun a m ea => by
        have na : a ≠ b3 := fun z => by rw [z, hb3] at ea; cases ea
        exact sb a m na (by rw [set_ne na]; exact ea)
      refine ⟨rfl, ?_⟩
      obtain ⟨dx4, gl4, tl4, lvs4, hb4, _⟩ := id B
      refine ⟨b3, dx4, _, rfl, hb4, rfl, ?_⟩
      walk_at "go"
      refine ⟨b3, _, _, _, _, _, _, _, _, rfl, B, ?_⟩
      walk_at "go"
      refine ro_neD (okn_mk.ok (by decide)) (okn_mk.ok (by decide)) ?_
      rw [eqv_mk, same_self]
      refine ⟨_, rfl, ?_⟩
      rw [if_neg (by decide)]
      walk_at "go"
      refine ⟨bd, w, h, rows, fl, gap, sp, kg, kt, rfl, L17.brd, OK, MK, ?_⟩
      refine ⟨_, rfl, ?_⟩
      rw [if_neg (by decide)]
      walk_at "go"
      exact ⟨L17.tab, _, _, _, _, _, _, _, _, _, _, _, rfl⟩
    · rw [FL] at e
      cases e
end
theorem all_mk {l : PySem.W.OpenLaw} {w : World} {K : PySem.W.Frag} {h : Heap} {mg : Str → Option Value} {fa : Addr} (X : K.In h) (G : h.Ns mainGlobals mg) (hfa : mg "law" = some (.ref fa))
    {f1 f2 f3 f4 f5 f6 f7 f8 f9 f10 f11 f12 f13 f14 f15 f16 f17 f18 f19 f20 f21 f22 f23 f24 f25 f26 f27 f28 f29 f30 f31 f32 f33 f34 f35 f36 f37 f38 f39 f40 f41 f42 f43 : Addr}
    {od1 an1 od2 an2 od3 an3 od4 an4 od5 an5 od6 an6 od7 an7 od8 an8 od9 an9 od10 an10 od11 an11 od12 an12 od13 an13 od14 an14 od15 an15 od16 an16 od17 an17 od18 an18 od19 an19 od20 an20 od21 an21 od22 an22 od23 an23 od24 an24 od25 an25 od26 an26 od27 an27 od28 an28 od29 an29 od30 an30 od31 an31 od32 an32 od33 an33 od34 an34 od35 an35 od36 an36 od37 an37 od38 an38 od39 an39 od40 an40 od41 an41 od42 an42 od43 an43 : Option Addr}
    {sl1 sl2 sl3 sl4 sl5 sl6 sl7 sl8 sl9 sl10 sl11 sl12 sl13 sl14 sl15 sl16 sl17 sl18 sl19 sl20 sl21 sl22 sl23 sl24 sl25 sl26 sl27 sl28 sl29 sl30 sl31 sl32 sl33 sl34 sl35 sl36 sl37 sl38 sl39 sl40 sl41 sl42 sl43 : Array (Option Value)}
    {oc1 kV1 dc1 pm1 cd1 ct1 oc2 kV2 dc2 pm2 cd2 ct2 oc3 kV3 dc3 pm3 cd3 ct3 oc4 kV4 dc4 pm4 cd4 ct4 oc5 kV5 dc5 pm5 cd5 ct5 oc6 kV6 dc6 pm6 cd6 ct6 oc7 dc7 pm7 cd7 ct7 oc8 kV8 dc8 pm8 cd8 ct8 oc9 kV9 dc9 pm9 cd9 ct9 oc10 kV10 dc10 pm10 cd10 ct10 oc11 kV11 dc11 pm11 cd11 ct11 oc12 kV12 dc12 pm12 cd12 ct12 oc13 kV13 dc13 pm13 cd13 ct13 oc14 kV14 dc14 pm14 cd14 ct14 oc15 kV15 dc15 pm15 cd15 ct15 oc16 kV16 dc16 pm16 cd16 ct16 oc17 kV17 dc17 pm17 ct17 oc18 kV18 dc18 pm18 cd18 ct18 oc19 kV19 dc19 pm19 cd19 ct19 oc20 kV20 dc20 pm20 cd20 ct20 oc21 kV21 dc21 pm21 cd21 ct21 oc22 kV22 dc22 pm22 cd22 ct22 oc23 kV23 dc23 pm23 cd23 ct23 oc24 kV24 dc24 pm24 cd24 ct24 oc25 kV25 dc25 pm25 cd25 ct25 oc26 kV26 dc26 pm26 cd26 ct26 oc27 kV27 dc27 pm27 cd27 ct27 oc28 kV28 dc28 pm28 cd28 ct28 oc29 kV29 dc29 pm29 cd29 ct29 oc30 dc30 pm30 cd30 ct30 oc31 kV31 dc31 pm31 cd31 ct31 oc32 kV32 dc32 pm32 cd32 ct32 oc33 kV33 dc33 pm33 cd33 ct33 oc34 kV34 dc34 pm34 cd34 ct34 oc35 kV35 dc35 pm35 cd35 ct35 oc36 kV36 dc36 pm36 cd36 ct36 oc37 kV37 dc37 pm37 cd37 ct37 oc38 kV38 dc38 pm38 cd38 ct38 oc39 kV39 dc39 pm39 cd39 ct39 oc40 kV40 dc40 pm40 cd40 ct40 oc41 kV41 dc41 pm41 cd41 ct41 oc42 kV42 dc42 pm42 cd42 ct42 oc43 kV43 dc43 pm43 cd43 ct43 : Value}
    {C_Board : Addr}
    {C_NoBoard : Addr}
    {C_NoPin : Addr}
    {nm_NoPin qn_NoPin : Str} {N_NoPin fI_NoPin : Addr} {bs_NoPin : List Value} {sn_NoPin : List Str} {sub_NoPin : List Value} {ab_NoPin : Bool} {col_NoPin : Option Bool} {dd_NoPin od_NoPin an_NoPin : Option Addr} {m0_NoPin m1_NoPin m2_NoPin m3_NoPin m5_NoPin : Option Value} {osl_NoPin : Array (Option Value)} {oc_NoPin kV_NoPin dc_NoPin pm_NoPin cd_NoPin ct_NoPin : Value}
    {C_NoLayer : Addr}
    {nm_NoLayer qn_NoLayer : Str} {N_NoLayer fI_NoLayer : Addr} {bs_NoLayer : List Value} {sn_NoLayer : List Str} {sub_NoLayer : List Value} {ab_NoLayer : Bool} {col_NoLayer : Option Bool} {dd_NoLayer od_NoLayer an_NoLayer : Option Addr} {m0_NoLayer m1_NoLayer m2_NoLayer m3_NoLayer m5_NoLayer : Option Value} {osl_NoLayer : Array (Option Value)} {oc_NoLayer kV_NoLayer dc_NoLayer pm_NoLayer cd_NoLayer ct_NoLayer : Value}
    {C_NoGate : Addr}
    {nm_NoGate qn_NoGate : Str} {N_NoGate fI_NoGate : Addr} {bs_NoGate : List Value} {sn_NoGate : List Str} {sub_NoGate : List Value} {ab_NoGate : Bool} {col_NoGate : Option Bool} {dd_NoGate od_NoGate an_NoGate : Option Addr} {m0_NoGate m1_NoGate m2_NoGate m3_NoGate m5_NoGate : Option Value} {osl_NoGate : Array (Option Value)} {oc_NoGate kV_NoGate dc_NoGate pm_NoGate cd_NoGate ct_NoGate : Value}
    {C_BoardError : Addr}
    {C_NoNet : Addr}
    {tk_CORNERS : Tok}
    {tk_MOST : Tok}
    {tk_MOST_LAYERS : Tok}
    {tk_MOST_PINS : Tok}
    {tk_SPACING : Tok}
    {D7 : Addr}
    {tk7_layers : Tok}
    {tk7_spacing : Tok}
    {D30 : Addr}
    {tk30_layer : Tok}
    {T_g cT : Addr}
    (aC_Board : PySem.W.nsIn K mainGlobals "Board" = some (some (.ref C_Board)))
    (pg_Board : PySem.W.plainGet K C_Board Str.empty = true)
    (hd_Board : PySem.W.hasDictIn K C_Board = true)
    (po_Board : PySem.W.plainOver K C_Board = true)
    (sa_Board : PySem.W.findIn K (.ref C_Board) "__setattr__" = some (some (.builtin "object.__setattr__")))
    (n_Board_wide : PySem.W.findIn K (.ref C_Board) "wide" = some none)
    (n_Board_high : PySem.W.findIn K (.ref C_Board) "high" = some none)
    (n_Board_pin_rows : PySem.W.findIn K (.ref C_Board) "pin_rows" = some none)
    (n_Board_layer_count : PySem.W.findIn K (.ref C_Board) "layer_count" = some none)
    (n_Board_apart_by : PySem.W.findIn K (.ref C_Board) "apart_by" = some none)
    (n_Board_spots : PySem.W.findIn K (.ref C_Board) "spots" = some none)
    (n_Board_kept_gates : PySem.W.findIn K (.ref C_Board) "kept_gates" = some none)
    (n_Board_kept_triangles : PySem.W.findIn K (.ref C_Board) "kept_triangles" = some none)
    (oa_Board : PySem.W.findIn K (.ref C_Board) "__class__" = some (some (.builtin "object.__class__")))
    (on_Board : PySem.W.specialIn K (.builtin "object.__class__") "__get__" = some (some (.builtin "getset_descriptor.__get__")))
    (ot_Board : PySem.W.takesIn K (.builtin "object.__class__") = some true)
    (om_Board : PySem.W.mroIn K C_Board (.type "object") = some true)
    (oe_Board : PySem.W.findIn K (.ref C_Board) "__ne__" = some (some (.builtin "object.__ne__")))
    (oi_Board : PySem.W.isClsIn K C_Board = true)
    (oy_Board : PySem.W.typeIn K (.ref C_Board) = some (.type "type"))
    (oNoneType_Board : PySem.W.subIn K (.ref C_Board) (.type "NoneType") = some false)
    (oint_Board : PySem.W.subIn K (.ref C_Board) (.type "int") = some false)
    (otuple_Board : PySem.W.subIn K (.ref C_Board) (.type "tuple") = some false)
    (ostr_Board : PySem.W.subIn K (.ref C_Board) (.type "str") = some false)
    (mk_Board : PySem.W.makesIn K C_Board = true)
    (kc_Board : PySem.W.keepIn K (.ref C_Board) = true)
    (aC_NoBoard : PySem.W.nsIn K mainGlobals "NoBoard" = some (some (.ref C_NoBoard)))
    (kc_NoBoard : PySem.W.keepIn K (.ref C_NoBoard) = true)
    (eC_NoBoard : PySem.W.subIn K (.ref C_NoBoard) (.type "BaseException") = some true)
    (tC_NoBoard : PySem.W.typeIn K (.ref C_NoBoard) = some (.type "type"))
    (q_NoBoard : PySem.W.excIn K C_NoBoard [.type "ValueError", .type "Exception", .type "BaseException", .type "object"] "ValueError.__new__" = true)
    (aC_NoPin : PySem.W.nsIn K mainGlobals "NoPin" = some (some (.ref C_NoPin)))
    (kc_NoPin : PySem.W.keepIn K (.ref C_NoPin) = true)
    (eC_NoPin : PySem.W.subIn K (.ref C_NoPin) (.type "BaseException") = some true)
    (tC_NoPin : PySem.W.typeIn K (.ref C_NoPin) = some (.type "type"))
    (iS_NoPin : PySem.W.isClsIn K C_NoPin = true)
    (xL_NoPin : K.lookup C_NoPin = some (PySem.excClassObj nm_NoPin qn_NoPin C_NoPin N_NoPin bs_NoPin XO.tlIE true sn_NoPin sub_NoPin ab_NoPin col_NoPin dd_NoPin m0_NoPin m1_NoPin m2_NoPin m3_NoPin m5_NoPin "IndexError.__new__"))
    (sa_NoPin : PySem.W.findIn K (.ref C_NoPin) "__setattr__" = some (some (.builtin "object.__setattr__")))
    (ga_NoPin : PySem.W.findIn K (.ref C_NoPin) "__getattribute__" = some (some (.builtin "BaseException.__getattribute__")))
    (gg_NoPin : PySem.W.findIn K (.ref C_NoPin) "__getattr__" = some none)
    (nf_NoPin : PySem.W.findIn K (.ref C_NoPin) "pin" = some none)
    (hC_NoPin : PySem.W.hasDictIn K C_NoPin = true)
    (iC_NoPin : PySem.W.findIn K (.ref C_NoPin) "__init__" = some (some (.ref fI_NoPin)))
    (tI_NoPin : PySem.W.typeIn K (.ref fI_NoPin) = some (.type "function"))
    (lI_NoPin : K.lookup fI_NoPin = some ⟨oc_NoPin, od_NoPin, .func (PySem.W.fnOf "__init__" "NoPin.__init__" (defArgs s_nopin_init) (defBody s_nopin_init) (defScope s_nopin_init) .none kV_NoPin dc_NoPin pm_NoPin an_NoPin cd_NoPin ct_NoPin), osl_NoPin⟩)
    (cI_NoPin : PySem.W.codeIn K cd_NoPin "NoPin.__init__" = true)
    (kI_NoPin : PySem.W.keepIn K (.ref fI_NoPin) = true)
    (aC_NoLayer : PySem.W.nsIn K mainGlobals "NoLayer" = some (some (.ref C_NoLayer)))
    (kc_NoLayer : PySem.W.keepIn K (.ref C_NoLayer) = true)
    (eC_NoLayer : PySem.W.subIn K (.ref C_NoLayer) (.type "BaseException") = some true)
    (tC_NoLayer : PySem.W.typeIn K (.ref C_NoLayer) = some (.type "type"))
    (iS_NoLayer : PySem.W.isClsIn K C_NoLayer = true)
    (xL_NoLayer : K.lookup C_NoLayer = some (PySem.excClassObj nm_NoLayer qn_NoLayer C_NoLayer N_NoLayer bs_NoLayer XO.tlIE true sn_NoLayer sub_NoLayer ab_NoLayer col_NoLayer dd_NoLayer m0_NoLayer m1_NoLayer m2_NoLayer m3_NoLayer m5_NoLayer "IndexError.__new__"))
    (sa_NoLayer : PySem.W.findIn K (.ref C_NoLayer) "__setattr__" = some (some (.builtin "object.__setattr__")))
    (ga_NoLayer : PySem.W.findIn K (.ref C_NoLayer) "__getattribute__" = some (some (.builtin "BaseException.__getattribute__")))
    (gg_NoLayer : PySem.W.findIn K (.ref C_NoLayer) "__getattr__" = some none)
    (nf_NoLayer : PySem.W.findIn K (.ref C_NoLayer) "layer" = some none)
    (hC_NoLayer : PySem.W.hasDictIn K C_NoLayer = true)
    (iC_NoLayer : PySem.W.findIn K (.ref C_NoLayer) "__init__" = some (some (.ref fI_NoLayer)))
    (tI_NoLayer : PySem.W.typeIn K (.ref fI_NoLayer) = some (.type "function"))
    (lI_NoLayer : K.lookup fI_NoLayer = some ⟨oc_NoLayer, od_NoLayer, .func (PySem.W.fnOf "__init__" "NoLayer.__init__" (defArgs s_nolayer_init) (defBody s_nolayer_init) (defScope s_nolayer_init) .none kV_NoLayer dc_NoLayer pm_NoLayer an_NoLayer cd_NoLayer ct_NoLayer), osl_NoLayer⟩)
    (cI_NoLayer : PySem.W.codeIn K cd_NoLayer "NoLayer.__init__" = true)
    (kI_NoLayer : PySem.W.keepIn K (.ref fI_NoLayer) = true)
    (aC_NoGate : PySem.W.nsIn K mainGlobals "NoGate" = some (some (.ref C_NoGate)))
    (kc_NoGate : PySem.W.keepIn K (.ref C_NoGate) = true)
    (eC_NoGate : PySem.W.subIn K (.ref C_NoGate) (.type "BaseException") = some true)
    (tC_NoGate : PySem.W.typeIn K (.ref C_NoGate) = some (.type "type"))
    (xL_NoGate : K.lookup C_NoGate = some (PySem.excClassObj nm_NoGate qn_NoGate C_NoGate N_NoGate bs_NoGate XO.tlKE true sn_NoGate sub_NoGate ab_NoGate col_NoGate dd_NoGate m0_NoGate m1_NoGate m2_NoGate m3_NoGate m5_NoGate "LookupError.__new__"))
    (sa_NoGate : PySem.W.findIn K (.ref C_NoGate) "__setattr__" = some (some (.builtin "object.__setattr__")))
    (ga_NoGate : PySem.W.findIn K (.ref C_NoGate) "__getattribute__" = some (some (.builtin "BaseException.__getattribute__")))
    (gg_NoGate : PySem.W.findIn K (.ref C_NoGate) "__getattr__" = some none)
    (nf_NoGate : PySem.W.findIn K (.ref C_NoGate) "gate" = some none)
    (hC_NoGate : PySem.W.hasDictIn K C_NoGate = true)
    (iC_NoGate : PySem.W.findIn K (.ref C_NoGate) "__init__" = some (some (.ref fI_NoGate)))
    (tI_NoGate : PySem.W.typeIn K (.ref fI_NoGate) = some (.type "function"))
    (lI_NoGate : K.lookup fI_NoGate = some ⟨oc_NoGate, od_NoGate, .func (PySem.W.fnOf "__init__" "NoGate.__init__" (defArgs s_nogate_init) (defBody s_nogate_init) (defScope s_nogate_init) .none kV_NoGate dc_NoGate pm_NoGate an_NoGate cd_NoGate ct_NoGate), osl_NoGate⟩)
    (cI_NoGate : PySem.W.codeIn K cd_NoGate "NoGate.__init__" = true)
    (kI_NoGate : PySem.W.keepIn K (.ref fI_NoGate) = true)
    (sub_NoPin_NoPin : PySem.W.subIn K (.ref C_NoPin) (.ref C_NoPin) = some true)
    (sub_NoBoard_NoPin : PySem.W.subIn K (.ref C_NoBoard) (.ref C_NoPin) = some false)
    (sub_NoBoard_NoLayer : PySem.W.subIn K (.ref C_NoBoard) (.ref C_NoLayer) = some false)
    (sub_NoPin_NoLayer : PySem.W.subIn K (.ref C_NoPin) (.ref C_NoLayer) = some false)
    (sub_NoLayer_NoPin : PySem.W.subIn K (.ref C_NoLayer) (.ref C_NoPin) = some false)
    (sub_NoLayer_NoLayer : PySem.W.subIn K (.ref C_NoLayer) (.ref C_NoLayer) = some true)
    (sub_NoGate_NoPin : PySem.W.subIn K (.ref C_NoGate) (.ref C_NoPin) = some false)
    (sub_NoGate_NoLayer : PySem.W.subIn K (.ref C_NoGate) (.ref C_NoLayer) = some false)
    (aC_BoardError : PySem.W.nsIn K mainGlobals "BoardError" = some (some (.ref C_BoardError)))
    (aC_NoNet : PySem.W.nsIn K mainGlobals "NoNet" = some (some (.ref C_NoNet)))
    (xg_NoLayer : PySem.W.findIn K (.ref C_NoLayer) "__getattribute__" = some (some (.builtin "BaseException.__getattribute__")))
    (xk_NoLayer : PySem.W.findIn K (.ref C_NoLayer) "__getattr__" = some none)
    (xd_NoLayer : PySem.W.hasDictIn K C_NoLayer = true)
    (xa_NoLayer : PySem.W.findIn K (.ref C_NoLayer) "__class__" = some (some (.builtin "object.__class__")))
    (xn_NoLayer : PySem.W.specialIn K (.builtin "object.__class__") "__get__" = some (some (.builtin "getset_descriptor.__get__")))
    (xt_NoLayer : PySem.W.takesIn K (.builtin "object.__class__") = some true)
    (xm_NoLayer : PySem.W.mroIn K C_NoLayer (.type "object") = some true)
    (xg_NoPin : PySem.W.findIn K (.ref C_NoPin) "__getattribute__" = some (some (.builtin "BaseException.__getattribute__")))
    (xk_NoPin : PySem.W.findIn K (.ref C_NoPin) "__getattr__" = some none)
    (xd_NoPin : PySem.W.hasDictIn K C_NoPin = true)
    (xa_NoPin : PySem.W.findIn K (.ref C_NoPin) "__class__" = some (some (.builtin "object.__class__")))
    (xn_NoPin : PySem.W.specialIn K (.builtin "object.__class__") "__get__" = some (some (.builtin "getset_descriptor.__get__")))
    (xt_NoPin : PySem.W.takesIn K (.builtin "object.__class__") = some true)
    (xm_NoPin : PySem.W.mroIn K C_NoPin (.type "object") = some true)
    (xs_NoLayer : PySem.W.subIn K (.ref C_NoLayer) (.ref C_NoLayer) = some true)
    (xs_NoPin : PySem.W.subIn K (.ref C_NoPin) (.ref C_NoPin) = some true)
    (yi_BoardError : PySem.W.isClsIn K C_BoardError = true)
    (yt_BoardError : PySem.W.typeIn K (.ref C_BoardError) = some (.type "type"))
    (yi_NoGate : PySem.W.isClsIn K C_NoGate = true)
    (yt_NoGate : PySem.W.typeIn K (.ref C_NoGate) = some (.type "type"))
    (yi_NoLayer : PySem.W.isClsIn K C_NoLayer = true)
    (yt_NoLayer : PySem.W.typeIn K (.ref C_NoLayer) = some (.type "type"))
    (yi_NoNet : PySem.W.isClsIn K C_NoNet = true)
    (yt_NoNet : PySem.W.typeIn K (.ref C_NoNet) = some (.type "type"))
    (yi_NoPin : PySem.W.isClsIn K C_NoPin = true)
    (yt_NoPin : PySem.W.typeIn K (.ref C_NoPin) = some (.type "type"))
    (ys_NoLayer_BoardError : PySem.W.subIn K (.ref C_NoLayer) (.ref C_BoardError) = some false)
    (ys_NoLayer_IndexError : PySem.W.subIn K (.ref C_NoLayer) (.type "IndexError") = some true)
    (ys_NoLayer_NoGate : PySem.W.subIn K (.ref C_NoLayer) (.ref C_NoGate) = some false)
    (ys_NoLayer_NoNet : PySem.W.subIn K (.ref C_NoLayer) (.ref C_NoNet) = some false)
    (ys_NoLayer_NoPin : PySem.W.subIn K (.ref C_NoLayer) (.ref C_NoPin) = some false)
    (ys_NoPin_BoardError : PySem.W.subIn K (.ref C_NoPin) (.ref C_BoardError) = some false)
    (ys_NoPin_IndexError : PySem.W.subIn K (.ref C_NoPin) (.type "IndexError") = some true)
    (ys_NoPin_NoGate : PySem.W.subIn K (.ref C_NoPin) (.ref C_NoGate) = some false)
    (ys_NoPin_NoLayer : PySem.W.subIn K (.ref C_NoPin) (.ref C_NoLayer) = some false)
    (ys_NoPin_NoNet : PySem.W.subIn K (.ref C_NoPin) (.ref C_NoNet) = some false)
    (v_CORNERS : PySem.W.nsIn K mainGlobals "CORNERS" = some (some (.int 4 tk_CORNERS)))
    (v_MOST : PySem.W.nsIn K mainGlobals "MOST" = some (some (.int 1000000 tk_MOST)))
    (v_MOST_LAYERS : PySem.W.nsIn K mainGlobals "MOST_LAYERS" = some (some (.int 3 tk_MOST_LAYERS)))
    (v_MOST_PINS : PySem.W.nsIn K mainGlobals "MOST_PINS" = some (some (.int 16 tk_MOST_PINS)))
    (v_SPACING : PySem.W.nsIn K mainGlobals "SPACING" = some (some (.int 1 tk_SPACING)))
    (a1 : PySem.W.nsIn K mainGlobals "is_whole" = some (some (.ref f1)))
    (l1 : K.lookup f1 = some ⟨oc1, od1, .func (PySem.W.fnOf "is_whole" "is_whole" (defArgs s_is_whole) (defBody s_is_whole) (defScope s_is_whole) .none kV1 dc1 pm1 an1 cd1 ct1), sl1⟩)
    (c1 : PySem.W.codeIn K cd1 "is_whole" = true)
    (k1 : PySem.W.keepIn K (.ref f1) = true)
    (a2 : PySem.W.nsIn K mainGlobals "is_within" = some (some (.ref f2)))
    (l2 : K.lookup f2 = some ⟨oc2, od2, .func (PySem.W.fnOf "is_within" "is_within" (defArgs s_is_within) (defBody s_is_within) (defScope s_is_within) .none kV2 dc2 pm2 an2 cd2 ct2), sl2⟩)
    (c2 : PySem.W.codeIn K cd2 "is_within" = true)
    (k2 : PySem.W.keepIn K (.ref f2) = true)
    (a3 : PySem.W.nsIn K mainGlobals "is_row" = some (some (.ref f3)))
    (l3 : K.lookup f3 = some ⟨oc3, od3, .func (PySem.W.fnOf "is_row" "is_row" (defArgs s_is_row) (defBody s_is_row) (defScope s_is_row) .none kV3 dc3 pm3 an3 cd3 ct3), sl3⟩)
    (c3 : PySem.W.codeIn K cd3 "is_row" = true)
    (k3 : PySem.W.keepIn K (.ref f3) = true)
    (a4 : PySem.W.nsIn K mainGlobals "are_whole" = some (some (.ref f4)))
    (l4 : K.lookup f4 = some ⟨oc4, od4, .func (PySem.W.fnOf "are_whole" "are_whole" (defArgs s_are_whole) (defBody s_are_whole) (defScope s_are_whole) .none kV4 dc4 pm4 an4 cd4 ct4), sl4⟩)
    (c4 : PySem.W.codeIn K cd4 "are_whole" = true)
    (k4 : PySem.W.keepIn K (.ref f4) = true)
    (a5 : PySem.W.nsIn K mainGlobals "is_pin_row" = some (some (.ref f5)))
    (l5 : K.lookup f5 = some ⟨oc5, od5, .func (PySem.W.fnOf "is_pin_row" "is_pin_row" (defArgs s_is_pin_row) (defBody s_is_pin_row) (defScope s_is_pin_row) .none kV5 dc5 pm5 an5 cd5 ct5), sl5⟩)
    (c5 : PySem.W.codeIn K cd5 "is_pin_row" = true)
    (k5 : PySem.W.keepIn K (.ref f5) = true)
    (a6 : PySem.W.nsIn K mainGlobals "are_board" = some (some (.ref f6)))
    (l6 : K.lookup f6 = some ⟨oc6, od6, .func (PySem.W.fnOf "are_board" "are_board" (defArgs s_are_board) (defBody s_are_board) (defScope s_are_board) .none kV6 dc6 pm6 an6 cd6 ct6), sl6⟩)
    (c6 : PySem.W.codeIn K cd6 "are_board" = true)
    (k6 : PySem.W.keepIn K (.ref f6) = true)
    (a7 : PySem.W.findIn K (.ref C_Board) "__init__" = some (some (.ref f7)))
    (i7 : PySem.W.isFn K (.ref f7) = true)
    (l7 : K.lookup f7 = some ⟨oc7, od7, .func (PySem.W.fnOf "__init__" "Board.__init__" (defArgs s_board_init) (defBody s_board_init) (defScope s_board_init) .none (.ref D7) dc7 pm7 an7 cd7 ct7), sl7⟩)
    (c7 : PySem.W.codeIn K cd7 "Board.__init__" = true)
    (k7 : PySem.W.keepIn K (.ref f7) = true)
    (d7_layers : PySem.W.nsIn K D7 "layers" = some (some (.int 1 tk7_layers)))
    (d7_spacing : PySem.W.nsIn K D7 "spacing" = some (some (.int 1 tk7_spacing)))
    (a8 : PySem.W.findIn K (.ref C_Board) "look_pin" = some (some (.ref f8)))
    (i8 : PySem.W.isFn K (.ref f8) = true)
    (l8 : K.lookup f8 = some ⟨oc8, od8, .func (PySem.W.fnOf "look_pin" "Board.look_pin" (defArgs s_board_look_pin) (defBody s_board_look_pin) (defScope s_board_look_pin) .none kV8 dc8 pm8 an8 cd8 ct8), sl8⟩)
    (c8 : PySem.W.codeIn K cd8 "Board.look_pin" = true)
    (k8 : PySem.W.keepIn K (.ref f8) = true)
    (a9 : PySem.W.nsIn K mainGlobals "sign_of" = some (some (.ref f9)))
    (l9 : K.lookup f9 = some ⟨oc9, od9, .func (PySem.W.fnOf "sign_of" "sign_of" (defArgs s_sign_of) (defBody s_sign_of) (defScope s_sign_of) .none kV9 dc9 pm9 an9 cd9 ct9), sl9⟩)
    (c9 : PySem.W.codeIn K cd9 "sign_of" = true)
    (k9 : PySem.W.keepIn K (.ref f9) = true)
    (a10 : PySem.W.nsIn K mainGlobals "side" = some (some (.ref f10)))
    (l10 : K.lookup f10 = some ⟨oc10, od10, .func (PySem.W.fnOf "side" "side" (defArgs s_side) (defBody s_side) (defScope s_side) .none kV10 dc10 pm10 an10 cd10 ct10), sl10⟩)
    (c10 : PySem.W.codeIn K cd10 "side" = true)
    (k10 : PySem.W.keepIn K (.ref f10) = true)
    (a11 : PySem.W.nsIn K mainGlobals "apart" = some (some (.ref f11)))
    (l11 : K.lookup f11 = some ⟨oc11, od11, .func (PySem.W.fnOf "apart" "apart" (defArgs s_apart) (defBody s_apart) (defScope s_apart) .none kV11 dc11 pm11 an11 cd11 ct11), sl11⟩)
    (c11 : PySem.W.codeIn K cd11 "apart" = true)
    (k11 : PySem.W.keepIn K (.ref f11) = true)
    (a12 : PySem.W.nsIn K mainGlobals "is_between" = some (some (.ref f12)))
    (l12 : K.lookup f12 = some ⟨oc12, od12, .func (PySem.W.fnOf "is_between" "is_between" (defArgs s_is_between) (defBody s_is_between) (defScope s_is_between) .none kV12 dc12 pm12 an12 cd12 ct12), sl12⟩)
    (c12 : PySem.W.codeIn K cd12 "is_between" = true)
    (k12 : PySem.W.keepIn K (.ref f12) = true)
    (a13 : PySem.W.findIn K (.ref C_Board) "look_layer" = some (some (.ref f13)))
    (i13 : PySem.W.isFn K (.ref f13) = true)
    (l13 : K.lookup f13 = some ⟨oc13, od13, .func (PySem.W.fnOf "look_layer" "Board.look_layer" (defArgs s_board_look_layer) (defBody s_board_look_layer) (defScope s_board_look_layer) .none kV13 dc13 pm13 an13 cd13 ct13), sl13⟩)
    (c13 : PySem.W.codeIn K cd13 "Board.look_layer" = true)
    (k13 : PySem.W.keepIn K (.ref f13) = true)
    (a14 : PySem.W.findIn K (.ref C_Board) "pins_on" = some (some (.ref f14)))
    (i14 : PySem.W.isFn K (.ref f14) = true)
    (l14 : K.lookup f14 = some ⟨oc14, od14, .func (PySem.W.fnOf "pins_on" "Board.pins_on" (defArgs s_board_pins_on) (defBody s_board_pins_on) (defScope s_board_pins_on) .none kV14 dc14 pm14 an14 cd14 ct14), sl14⟩)
    (c14 : PySem.W.codeIn K cd14 "Board.pins_on" = true)
    (k14 : PySem.W.keepIn K (.ref f14) = true)
    (a15 : PySem.W.findIn K (.ref C_Board) "meets_a_pin" = some (some (.ref f15)))
    (i15 : PySem.W.isFn K (.ref f15) = true)
    (l15 : K.lookup f15 = some ⟨oc15, od15, .func (PySem.W.fnOf "meets_a_pin" "Board.meets_a_pin" (defArgs s_board_meets_a_pin) (defBody s_board_meets_a_pin) (defScope s_board_meets_a_pin) .none kV15 dc15 pm15 an15 cd15 ct15), sl15⟩)
    (c15 : PySem.W.codeIn K cd15 "Board.meets_a_pin" = true)
    (k15 : PySem.W.keepIn K (.ref f15) = true)
    (a16 : PySem.W.findIn K (.ref C_Board) "crosses_gate" = some (some (.ref f16)))
    (i16 : PySem.W.isFn K (.ref f16) = true)
    (l16 : K.lookup f16 = some ⟨oc16, od16, .func (PySem.W.fnOf "crosses_gate" "Board.crosses_gate" (defArgs s_board_crosses_gate) (defBody s_board_crosses_gate) (defScope s_board_crosses_gate) .none kV16 dc16 pm16 an16 cd16 ct16), sl16⟩)
    (c16 : PySem.W.codeIn K cd16 "Board.crosses_gate" = true)
    (k16 : PySem.W.keepIn K (.ref f16) = true)
    (a17 : PySem.W.findIn K (.ref C_Board) "found_gates" = some (some (.ref f17)))
    (i17 : PySem.W.isFn K (.ref f17) = true)
    (l17 : K.lookup f17 = some ⟨oc17, od17, .func (PySem.W.fnOf "found_gates" "Board.found_gates" (defArgs s_board_found_gates) (defBody s_board_found_gates) (defScope s_board_found_gates) .none kV17 dc17 pm17 an17 (.ref cT) ct17), sl17⟩)
    (c17 : PySem.W.codeIn K (.ref cT) "Board.found_gates" = true)
    (k17 : PySem.W.keepIn K (.ref f17) = true)
    (a18 : PySem.W.findIn K (.ref C_Board) "gates" = some (some (.ref f18)))
    (i18 : PySem.W.isFn K (.ref f18) = true)
    (l18 : K.lookup f18 = some ⟨oc18, od18, .func (PySem.W.fnOf "gates" "Board.gates" (defArgs s_board_gates) (defBody s_board_gates) (defScope s_board_gates) .none kV18 dc18 pm18 an18 cd18 ct18), sl18⟩)
    (c18 : PySem.W.codeIn K cd18 "Board.gates" = true)
    (k18 : PySem.W.keepIn K (.ref f18) = true)
    (a19 : PySem.W.findIn K (.ref C_Board) "is_empty" = some (some (.ref f19)))
    (i19 : PySem.W.isFn K (.ref f19) = true)
    (l19 : K.lookup f19 = some ⟨oc19, od19, .func (PySem.W.fnOf "is_empty" "Board.is_empty" (defArgs s_board_is_empty) (defBody s_board_is_empty) (defScope s_board_is_empty) .none kV19 dc19 pm19 an19 cd19 ct19), sl19⟩)
    (c19 : PySem.W.codeIn K cd19 "Board.is_empty" = true)
    (k19 : PySem.W.keepIn K (.ref f19) = true)
    (a20 : PySem.W.findIn K (.ref C_Board) "found_triangles" = some (some (.ref f20)))
    (i20 : PySem.W.isFn K (.ref f20) = true)
    (l20 : K.lookup f20 = some ⟨oc20, od20, .func (PySem.W.fnOf "found_triangles" "Board.found_triangles" (defArgs s_board_found_triangles) (defBody s_board_found_triangles) (defScope s_board_found_triangles) .none kV20 dc20 pm20 an20 cd20 ct20), sl20⟩)
    (c20 : PySem.W.codeIn K cd20 "Board.found_triangles" = true)
    (k20 : PySem.W.keepIn K (.ref f20) = true)
    (a21 : PySem.W.findIn K (.ref C_Board) "triangles" = some (some (.ref f21)))
    (i21 : PySem.W.isFn K (.ref f21) = true)
    (l21 : K.lookup f21 = some ⟨oc21, od21, .func (PySem.W.fnOf "triangles" "Board.triangles" (defArgs s_board_triangles) (defBody s_board_triangles) (defScope s_board_triangles) .none kV21 dc21 pm21 an21 cd21 ct21), sl21⟩)
    (c21 : PySem.W.codeIn K cd21 "Board.triangles" = true)
    (k21 : PySem.W.keepIn K (.ref f21) = true)
    (a22 : PySem.W.nsIn K mainGlobals "_law_cell_at" = some (some (.ref f22)))
    (l22 : K.lookup f22 = some ⟨oc22, od22, .func (PySem.W.fnOf "_law_cell_at" "_law_cell_at" (defArgs s_l_cell_at) (defBody s_l_cell_at) (defScope s_l_cell_at) .none kV22 dc22 pm22 an22 cd22 ct22), sl22⟩)
    (c22 : PySem.W.codeIn K cd22 "_law_cell_at" = true)
    (k22 : PySem.W.keepIn K (.ref f22) = true)
    (a23 : PySem.W.nsIn K mainGlobals "_law_bag" = some (some (.ref f23)))
    (l23 : K.lookup f23 = some ⟨oc23, od23, .func (PySem.W.fnOf "_law_bag" "_law_bag" (defArgs s_l_bag) (defBody s_l_bag) (defScope s_l_bag) .none kV23 dc23 pm23 an23 cd23 ct23), sl23⟩)
    (c23 : PySem.W.codeIn K cd23 "_law_bag" = true)
    (k23 : PySem.W.keepIn K (.ref f23) = true)
    (a24 : PySem.W.nsIn K mainGlobals "_law_take" = some (some (.ref f24)))
    (l24 : K.lookup f24 = some ⟨oc24, od24, .func (PySem.W.fnOf "_law_take" "_law_take" (defArgs s_l_take) (defBody s_l_take) (defScope s_l_take) .none kV24 dc24 pm24 an24 cd24 ct24), sl24⟩)
    (c24 : PySem.W.codeIn K cd24 "_law_take" = true)
    (k24 : PySem.W.keepIn K (.ref f24) = true)
    (a25 : PySem.W.nsIn K mainGlobals "_law_made" = some (some (.ref f25)))
    (l25 : K.lookup f25 = some ⟨oc25, od25, .func (PySem.W.fnOf "_law_made" "_law_made" (defArgs s_l_made) (defBody s_l_made) (defScope s_l_made) .none kV25 dc25 pm25 an25 cd25 ct25), sl25⟩)
    (c25 : PySem.W.codeIn K cd25 "_law_made" = true)
    (k25 : PySem.W.keepIn K (.ref f25) = true)
    (a26 : PySem.W.nsIn K mainGlobals "_law_board" = some (some (.ref f26)))
    (l26 : K.lookup f26 = some ⟨oc26, od26, .func (PySem.W.fnOf "_law_board" "_law_board" (defArgs s_l_board) (defBody s_l_board) (defScope s_l_board) .none kV26 dc26 pm26 an26 cd26 ct26), sl26⟩)
    (c26 : PySem.W.codeIn K cd26 "_law_board" = true)
    (k26 : PySem.W.keepIn K (.ref f26) = true)
    (a27 : PySem.W.nsIn K mainGlobals "_law_pins" = some (some (.ref f27)))
    (l27 : K.lookup f27 = some ⟨oc27, od27, .func (PySem.W.fnOf "_law_pins" "_law_pins" (defArgs s_l_pins) (defBody s_l_pins) (defScope s_l_pins) .none kV27 dc27 pm27 an27 cd27 ct27), sl27⟩)
    (c27 : PySem.W.codeIn K cd27 "_law_pins" = true)
    (k27 : PySem.W.keepIn K (.ref f27) = true)
    (a28 : PySem.W.nsIn K mainGlobals "_law_points" = some (some (.ref f28)))
    (l28 : K.lookup f28 = some ⟨oc28, od28, .func (PySem.W.fnOf "_law_points" "_law_points" (defArgs s_l_points) (defBody s_l_points) (defScope s_l_points) .none kV28 dc28 pm28 an28 cd28 ct28), sl28⟩)
    (c28 : PySem.W.codeIn K cd28 "_law_points" = true)
    (k28 : PySem.W.keepIn K (.ref f28) = true)
    (a29 : PySem.W.findIn K (.ref C_Board) "look_gate" = some (some (.ref f29)))
    (i29 : PySem.W.isFn K (.ref f29) = true)
    (l29 : K.lookup f29 = some ⟨oc29, od29, .func (PySem.W.fnOf "look_gate" "Board.look_gate" (defArgs s_board_look_gate) (defBody s_board_look_gate) (defScope s_board_look_gate) .none kV29 dc29 pm29 an29 cd29 ct29), sl29⟩)
    (c29 : PySem.W.codeIn K cd29 "Board.look_gate" = true)
    (k29 : PySem.W.keepIn K (.ref f29) = true)
    (a30 : PySem.W.findIn K (.ref C_Board) "beside" = some (some (.ref f30)))
    (i30 : PySem.W.isFn K (.ref f30) = true)
    (l30 : K.lookup f30 = some ⟨oc30, od30, .func (PySem.W.fnOf "beside" "Board.beside" (defArgs s_board_beside) (defBody s_board_beside) (defScope s_board_beside) .none (.ref D30) dc30 pm30 an30 cd30 ct30), sl30⟩)
    (c30 : PySem.W.codeIn K cd30 "Board.beside" = true)
    (k30 : PySem.W.keepIn K (.ref f30) = true)
    (d30_layer : PySem.W.nsIn K D30 "layer" = some (some (.int 0 tk30_layer)))
    (a31 : PySem.W.findIn K (.ref C_Board) "made_of" = some (some (.ref f31)))
    (i31 : PySem.W.isFn K (.ref f31) = true)
    (l31 : K.lookup f31 = some ⟨oc31, od31, .func (PySem.W.fnOf "made_of" "Board.made_of" (defArgs s_board_made_of) (defBody s_board_made_of) (defScope s_board_made_of) .none kV31 dc31 pm31 an31 cd31 ct31), sl31⟩)
    (c31 : PySem.W.codeIn K cd31 "Board.made_of" = true)
    (k31 : PySem.W.keepIn K (.ref f31) = true)
    (a32 : PySem.W.findIn K (.ref C_Board) "__eq__" = some (some (.ref f32)))
    (i32 : PySem.W.isFn K (.ref f32) = true)
    (l32 : K.lookup f32 = some ⟨oc32, od32, .func (PySem.W.fnOf "__eq__" "Board.__eq__" (defArgs s_board_eq) (defBody s_board_eq) (defScope s_board_eq) .none kV32 dc32 pm32 an32 cd32 ct32), sl32⟩)
    (c32 : PySem.W.codeIn K cd32 "Board.__eq__" = true)
    (k32 : PySem.W.keepIn K (.ref f32) = true)
    (a33 : PySem.W.findIn K (.ref C_Board) "__len__" = some (some (.ref f33)))
    (i33 : PySem.W.isFn K (.ref f33) = true)
    (l33 : K.lookup f33 = some ⟨oc33, od33, .func (PySem.W.fnOf "__len__" "Board.__len__" (defArgs s_board_len) (defBody s_board_len) (defScope s_board_len) .none kV33 dc33 pm33 an33 cd33 ct33), sl33⟩)
    (c33 : PySem.W.codeIn K cd33 "Board.__len__" = true)
    (k33 : PySem.W.keepIn K (.ref f33) = true)
    (a34 : PySem.W.findIn K (.ref C_Board) "__str__" = some (some (.ref f34)))
    (i34 : PySem.W.isFn K (.ref f34) = true)
    (l34 : K.lookup f34 = some ⟨oc34, od34, .func (PySem.W.fnOf "__str__" "Board.__str__" (defArgs s_board_str) (defBody s_board_str) (defScope s_board_str) .none kV34 dc34 pm34 an34 cd34 ct34), sl34⟩)
    (c34 : PySem.W.codeIn K cd34 "Board.__str__" = true)
    (k34 : PySem.W.keepIn K (.ref f34) = true)
    (a35 : PySem.W.findIn K (.ref C_Board) "point" = some (some (.ref f35)))
    (i35 : PySem.W.isFn K (.ref f35) = true)
    (l35 : K.lookup f35 = some ⟨oc35, od35, .func (PySem.W.fnOf "point" "Board.point" (defArgs s_board_point) (defBody s_board_point) (defScope s_board_point) .none kV35 dc35 pm35 an35 cd35 ct35), sl35⟩)
    (c35 : PySem.W.codeIn K cd35 "Board.point" = true)
    (k35 : PySem.W.keepIn K (.ref f35) = true)
    (a36 : PySem.W.nsIn K mainGlobals "_law_whole" = some (some (.ref f36)))
    (l36 : K.lookup f36 = some ⟨oc36, od36, .func (PySem.W.fnOf "_law_whole" "_law_whole" (defArgs s_l_whole) (defBody s_l_whole) (defScope s_l_whole) .none kV36 dc36 pm36 an36 cd36 ct36), sl36⟩)
    (c36 : PySem.W.codeIn K cd36 "_law_whole" = true)
    (k36 : PySem.W.keepIn K (.ref f36) = true)
    (a37 : PySem.W.nsIn K mainGlobals "_law_odd" = some (some (.ref f37)))
    (l37 : K.lookup f37 = some ⟨oc37, od37, .func (PySem.W.fnOf "_law_odd" "_law_odd" (defArgs s_l_odd) (defBody s_l_odd) (defScope s_l_odd) .none kV37 dc37 pm37 an37 cd37 ct37), sl37⟩)
    (c37 : PySem.W.codeIn K cd37 "_law_odd" = true)
    (k37 : PySem.W.keepIn K (.ref f37) = true)
    (a38 : PySem.W.nsIn K mainGlobals "_law_no_pin" = some (some (.ref f38)))
    (l38 : K.lookup f38 = some ⟨oc38, od38, .func (PySem.W.fnOf "_law_no_pin" "_law_no_pin" (defArgs s_l_no_pin) (defBody s_l_no_pin) (defScope s_l_no_pin) .none kV38 dc38 pm38 an38 cd38 ct38), sl38⟩)
    (c38 : PySem.W.codeIn K cd38 "_law_no_pin" = true)
    (k38 : PySem.W.keepIn K (.ref f38) = true)
    (a39 : PySem.W.nsIn K mainGlobals "_law_no_layer" = some (some (.ref f39)))
    (l39 : K.lookup f39 = some ⟨oc39, od39, .func (PySem.W.fnOf "_law_no_layer" "_law_no_layer" (defArgs s_l_no_layer) (defBody s_l_no_layer) (defScope s_l_no_layer) .none kV39 dc39 pm39 an39 cd39 ct39), sl39⟩)
    (c39 : PySem.W.codeIn K cd39 "_law_no_layer" = true)
    (k39 : PySem.W.keepIn K (.ref f39) = true)
    (a40 : PySem.W.nsIn K mainGlobals "_law_text" = some (some (.ref f40)))
    (l40 : K.lookup f40 = some ⟨oc40, od40, .func (PySem.W.fnOf "_law_text" "_law_text" (defArgs s_l_text) (defBody s_l_text) (defScope s_l_text) .none kV40 dc40 pm40 an40 cd40 ct40), sl40⟩)
    (c40 : PySem.W.codeIn K cd40 "_law_text" = true)
    (k40 : PySem.W.keepIn K (.ref f40) = true)
    (a41 : PySem.W.nsIn K mainGlobals "_law_unlike" = some (some (.ref f41)))
    (l41 : K.lookup f41 = some ⟨oc41, od41, .func (PySem.W.fnOf "_law_unlike" "_law_unlike" (defArgs s_l_unlike) (defBody s_l_unlike) (defScope s_l_unlike) .none kV41 dc41 pm41 an41 cd41 ct41), sl41⟩)
    (c41 : PySem.W.codeIn K cd41 "_law_unlike" = true)
    (k41 : PySem.W.keepIn K (.ref f41) = true)
    (a42 : PySem.W.nsIn K mainGlobals "_law_told" = some (some (.ref f42)))
    (l42 : K.lookup f42 = some ⟨oc42, od42, .func (PySem.W.fnOf "_law_told" "_law_told" (defArgs s_l_told) (defBody s_l_told) (defScope s_l_told) .none kV42 dc42 pm42 an42 cd42 ct42), sl42⟩)
    (c42 : PySem.W.codeIn K cd42 "_law_told" = true)
    (k42 : PySem.W.keepIn K (.ref f42) = true)
    (a43 : PySem.W.nsIn K mainGlobals "law" = some (some (.ref f43)))
    (l43 : K.lookup f43 = some ⟨oc43, od43, .func (PySem.W.fnOf "law" "law" (defArgs s_law) (defBody s_law) (defScope s_law) .none kV43 dc43 pm43 an43 cd43 ct43), sl43⟩)
    (c43 : PySem.W.codeIn K cd43 "law" = true)
    (k43 : PySem.W.keepIn K (.ref f43) = true)
    (z_IndexError : PySem.W.nsIn K mainGlobals "IndexError" = some none)
    (z_all : PySem.W.nsIn K mainGlobals "all" = some none)
    (z_any : PySem.W.nsIn K mainGlobals "any" = some none)
    (z_bool : PySem.W.nsIn K mainGlobals "bool" = some none)
    (z_enumerate : PySem.W.nsIn K mainGlobals "enumerate" = some none)
    (z_int : PySem.W.nsIn K mainGlobals "int" = some none)
    (z_isinstance : PySem.W.nsIn K mainGlobals "isinstance" = some none)
    (z_len : PySem.W.nsIn K mainGlobals "len" = some none)
    (z_list : PySem.W.nsIn K mainGlobals "list" = some none)
    (z_max : PySem.W.nsIn K mainGlobals "max" = some none)
    (z_min : PySem.W.nsIn K mainGlobals "min" = some none)
    (z_range : PySem.W.nsIn K mainGlobals "range" = some none)
    (z_sorted : PySem.W.nsIn K mainGlobals "sorted" = some none)
    (z_str : PySem.W.nsIn K mainGlobals "str" = some none)
    (z_tuple : PySem.W.nsIn K mainGlobals "tuple" = some none)
    (tt : codeTab K cT = some T_g)
    (tg : h.get? T_g = some { cls := .none, data := .fields #[] })
    (tn : K.lookup T_g = none)
    (tc : PySem.W.codeHdIn K cT T_g = true) :
    LawTab l w K 12 "_law_script" Q_g mg fa h := by
  have e := hfa.symm.trans (PySem.W.mg_of X G a43)
  cases e
  have B : Bs mg := ⟨PySem.W.mg_none_of X G z_IndexError, PySem.W.mg_none_of X G z_all, PySem.W.mg_none_of X G z_any, PySem.W.mg_none_of X G z_bool, PySem.W.mg_none_of X G z_enumerate, PySem.W.mg_none_of X G z_int, PySem.W.mg_none_of X G z_isinstance, PySem.W.mg_none_of X G z_len, PySem.W.mg_none_of X G z_list, PySem.W.mg_none_of X G z_max, PySem.W.mg_none_of X G z_min, PySem.W.mg_none_of X G z_range, PySem.W.mg_none_of X G z_sorted, PySem.W.mg_none_of X G z_str, PySem.W.mg_none_of X G z_tuple⟩
  have K_Board : Cl_Board K C_Board := ⟨⟨pg_Board, hd_Board, po_Board, sa_Board⟩, n_Board_wide, n_Board_high, n_Board_pin_rows, n_Board_layer_count, n_Board_apart_by, n_Board_spots, n_Board_kept_gates, n_Board_kept_triangles⟩
  have O_Board : OwnC K C_Board := ⟨⟨oa_Board, on_Board, ot_Board, om_Board⟩, oe_Board, oi_Board, oy_Board, oNoneType_Board, oint_Board, otuple_Board, ostr_Board⟩
  have V_Board : Cst mg "Board" (.ref C_Board) := ⟨_, PySem.W.mg_of X G aC_Board, rfl⟩
  have V_CORNERS : Cst mg "CORNERS" (.int 4) := ⟨_, PySem.W.mg_of X G v_CORNERS, ⟨_, rfl⟩⟩
  have V_MOST : Cst mg "MOST" (.int 1000000) := ⟨_, PySem.W.mg_of X G v_MOST, ⟨_, rfl⟩⟩
  have V_MOST_LAYERS : Cst mg "MOST_LAYERS" (.int 3) := ⟨_, PySem.W.mg_of X G v_MOST_LAYERS, ⟨_, rfl⟩⟩
  have V_MOST_PINS : Cst mg "MOST_PINS" (.int 16) := ⟨_, PySem.W.mg_of X G v_MOST_PINS, ⟨_, rfl⟩⟩
  have V_SPACING : Cst mg "SPACING" (.int 1) := ⟨_, PySem.W.mg_of X G v_SPACING, ⟨_, rfl⟩⟩
  have X_NoLayer : ExcC K C_NoLayer := ⟨xg_NoLayer, xk_NoLayer, eC_NoLayer, xd_NoLayer, xa_NoLayer, xn_NoLayer, xt_NoLayer, xm_NoLayer⟩
  have X_NoPin : ExcC K C_NoPin := ⟨xg_NoPin, xk_NoPin, eC_NoPin, xd_NoPin, xa_NoPin, xn_NoPin, xt_NoPin, xm_NoPin⟩
  have V_BoardError : Cst mg "BoardError" (.ref C_BoardError) := ⟨_, PySem.W.mg_of X G aC_BoardError, rfl⟩
  have V_NoGate : Cst mg "NoGate" (.ref C_NoGate) := ⟨_, PySem.W.mg_of X G aC_NoGate, rfl⟩
  have V_NoLayer : Cst mg "NoLayer" (.ref C_NoLayer) := ⟨_, PySem.W.mg_of X G aC_NoLayer, rfl⟩
  have V_NoNet : Cst mg "NoNet" (.ref C_NoNet) := ⟨_, PySem.W.mg_of X G aC_NoNet, rfl⟩
  have V_NoPin : Cst mg "NoPin" (.ref C_NoPin) := ⟨_, PySem.W.mg_of X G aC_NoPin, rfl⟩
  have Q_NoLayer_BoardError : PySem.W.kitOne K (.ref C_NoLayer) (.ref C_BoardError) = some false := kit_own xs_NoLayer yi_BoardError yt_BoardError ys_NoLayer_BoardError
  have Q_NoLayer_IndexError : PySem.W.kitOne K (.ref C_NoLayer) (.type "IndexError") = some true := kit_bt (by decide +kernel) ys_NoLayer_IndexError
  have Q_NoLayer_NoGate : PySem.W.kitOne K (.ref C_NoLayer) (.ref C_NoGate) = some false := kit_own xs_NoLayer yi_NoGate yt_NoGate ys_NoLayer_NoGate
  have Q_NoLayer_NoNet : PySem.W.kitOne K (.ref C_NoLayer) (.ref C_NoNet) = some false := kit_own xs_NoLayer yi_NoNet yt_NoNet ys_NoLayer_NoNet
  have Q_NoLayer_NoPin : PySem.W.kitOne K (.ref C_NoLayer) (.ref C_NoPin) = some false := kit_own xs_NoLayer yi_NoPin yt_NoPin ys_NoLayer_NoPin
  have Q_NoPin_BoardError : PySem.W.kitOne K (.ref C_NoPin) (.ref C_BoardError) = some false := kit_own xs_NoPin yi_BoardError yt_BoardError ys_NoPin_BoardError
  have Q_NoPin_IndexError : PySem.W.kitOne K (.ref C_NoPin) (.type "IndexError") = some true := kit_bt (by decide +kernel) ys_NoPin_IndexError
  have Q_NoPin_NoGate : PySem.W.kitOne K (.ref C_NoPin) (.ref C_NoGate) = some false := kit_own xs_NoPin yi_NoGate yt_NoGate ys_NoPin_NoGate
  have Q_NoPin_NoLayer : PySem.W.kitOne K (.ref C_NoPin) (.ref C_NoLayer) = some false := kit_own xs_NoPin yi_NoLayer yt_NoLayer ys_NoPin_NoLayer
  have Q_NoPin_NoNet : PySem.W.kitOne K (.ref C_NoPin) (.ref C_NoNet) = some false := kit_own xs_NoPin yi_NoNet yt_NoNet ys_NoPin_NoNet
  have H_NoPin_NoPin := exm_pair eC_NoPin iS_NoPin tC_NoPin sub_NoPin_NoPin
  have H_NoBoard_NoPin := exm_pair eC_NoPin iS_NoPin tC_NoPin sub_NoBoard_NoPin
  have H_NoBoard_NoLayer := exm_pair eC_NoLayer iS_NoLayer tC_NoLayer sub_NoBoard_NoLayer
  have H_NoPin_NoLayer := exm_pair eC_NoLayer iS_NoLayer tC_NoLayer sub_NoPin_NoLayer
  have H_NoLayer_NoPin := exm_pair eC_NoPin iS_NoPin tC_NoPin sub_NoLayer_NoPin
  have H_NoLayer_NoLayer := exm_pair eC_NoLayer iS_NoLayer tC_NoLayer sub_NoLayer_NoLayer
  have H_NoGate_NoPin := exm_pair eC_NoPin iS_NoPin tC_NoPin sub_NoGate_NoPin
  have H_NoGate_NoLayer := exm_pair eC_NoLayer iS_NoLayer tC_NoLayer sub_NoGate_NoLayer
  have F1 := fun_mk (st := s_is_whole) l1 c1 k1
  have F2 := fun_mk (st := s_is_within) l2 c2 k2
  have F3 := fun_mk (st := s_is_row) l3 c3 k3
  have F4 := fun_mk (st := s_are_whole) l4 c4 k4
  have F5 := fun_mk (st := s_is_pin_row) l5 c5 k5
  have F6 := fun_mk (st := s_are_board) l6 c6 k6
  have F7 : FunD K "__init__" "Board.__init__" (defArgs s_board_init) (defBody s_board_init) (defScope s_board_init) [] [("layers", .int 1), ("spacing", .int 1)] f7 _ := ⟨⟨oc7, od7, .none, .ref D7, dc7, pm7, an7, cd7, ct7, sl7, rfl, l7, c7, .inl ⟨rfl, rfl⟩, .inr ⟨D7, rfl, fun q hq => by
    simp only [List.mem_cons, List.not_mem_nil, or_false] at hq
    rcases hq with rfl | rfl
    · exact ⟨_, d7_layers, ⟨_, rfl⟩⟩
    · exact ⟨_, d7_spacing, ⟨_, rfl⟩⟩⟩⟩, k7⟩
  have F8 := fun_mk (st := s_board_look_pin) l8 c8 k8
  have F9 := fun_mk (st := s_sign_of) l9 c9 k9
  have F10 := fun_mk (st := s_side) l10 c10 k10
  have F11 := fun_mk (st := s_apart) l11 c11 k11
  have F12 := fun_mk (st := s_is_between) l12 c12 k12
  have F13 := fun_mk (st := s_board_look_layer) l13 c13 k13
  have F14 := fun_mk (st := s_board_pins_on) l14 c14 k14
  have F15 := fun_mk (st := s_board_meets_a_pin) l15 c15 k15
  have F16 := fun_mk (st := s_board_crosses_gate) l16 c16 k16
  have F17 : LK.FunT K "found_gates" "Board.found_gates" s_board_found_gates cT f17 _ := ⟨⟨oc17, od17, kV17, dc17, pm17, an17, ct17, sl17, rfl, l17, c17⟩, k17⟩
  have F18 := fun_mk (st := s_board_gates) l18 c18 k18
  have F19 := fun_mk (st := s_board_is_empty) l19 c19 k19
  have F20 := fun_mk (st := s_board_found_triangles) l20 c20 k20
  have F21 := fun_mk (st := s_board_triangles) l21 c21 k21
  have F22 := fun_mk (st := s_l_cell_at) l22 c22 k22
  have F23 := fun_mk (st := s_l_bag) l23 c23 k23
  have F24 := fun_mk (st := s_l_take) l24 c24 k24
  have F25 := fun_mk (st := s_l_made) l25 c25 k25
  have F26 := fun_mk (st := s_l_board) l26 c26 k26
  have F27 := fun_mk (st := s_l_pins) l27 c27 k27
  have F28 := fun_mk (st := s_l_points) l28 c28 k28
  have F29 := fun_mk (st := s_board_look_gate) l29 c29 k29
  have F30 : FunD K "beside" "Board.beside" (defArgs s_board_beside) (defBody s_board_beside) (defScope s_board_beside) [] [("layer", .int 0)] f30 _ := ⟨⟨oc30, od30, .none, .ref D30, dc30, pm30, an30, cd30, ct30, sl30, rfl, l30, c30, .inl ⟨rfl, rfl⟩, .inr ⟨D30, rfl, fun q hq => by
    simp only [List.mem_cons, List.not_mem_nil, or_false] at hq
    rcases hq with rfl
    · exact ⟨_, d30_layer, ⟨_, rfl⟩⟩⟩⟩, k30⟩
  have F31 := fun_mk (st := s_board_made_of) l31 c31 k31
  have F32 := fun_mk (st := s_board_eq) l32 c32 k32
  have F33 := fun_mk (st := s_board_len) l33 c33 k33
  have F34 := fun_mk (st := s_board_str) l34 c34 k34
  have F35 := fun_mk (st := s_board_point) l35 c35 k35
  have F36 := fun_mk (st := s_l_whole) l36 c36 k36
  have F37 := fun_mk (st := s_l_odd) l37 c37 k37
  have F38 := fun_mk (st := s_l_no_pin) l38 c38 k38
  have F39 := fun_mk (st := s_l_no_layer) l39 c39 k39
  have F40 := fun_mk (st := s_l_text) l40 c40 k40
  have F41 := fun_mk (st := s_l_unlike) l41 c41 k41
  have F42 := fun_mk (st := s_l_told) l42 c42 k42
  have F43 := fun_mk (st := s_law) l43 c43 k43
  refine ⟨PySem.W.fnOf "law" "law" (defArgs s_law) (defBody s_law) (defScope s_law) .none kV43 dc43 pm43 an43 cd43 ct43, cT, T_g, tg, tn, PySem.W.codeHd_of_K X tc, fun s v => .of_eq rfl, fun base _ _ TB => ?_⟩
  have E_NoBoard : Exc0 K mg "NoBoard" C_NoBoard := ⟨⟨"ValueError", _, _, XO.tlVE, PySem.F.excBase_ValueError, q_NoBoard⟩, PySem.W.mg_of X G aC_NoBoard, kc_NoBoard, eC_NoBoard, tC_NoBoard⟩
  have FX_NoPin := fun_mk (st := s_nopin_init) lI_NoPin cI_NoPin kI_NoPin
  have bX_NoPin := FX_NoPin.binds (ps := ["self", "pin"]) fun _ _ _ _ _ _ us hl => match us, hl with | [_, _], _ => rfl
  have E_NoPin : Exc1 l.prog w K mg base "NoPin" "pin" C_NoPin := ⟨⟨"IndexError", _, _, _, XO.tlIE, fI_NoPin, _, "self", "pin", PySem.F.excBase_IndexError, ⟨by decide +kernel, by decide +kernel, by decide +kernel⟩, ⟨⟨_, _, _, _, _, _, _, _, _, _, _, _, _, _, _, xL_NoPin, by decide +kernel⟩, XO.bt_IE, sa_NoPin, eC_NoPin, tC_NoPin, kc_NoPin⟩, iC_NoPin, tI_NoPin, xi_NoPin FX_NoPin, bX_NoPin⟩, nf_NoPin, PySem.W.mg_of X G aC_NoPin, ⟨ga_NoPin, gg_NoPin, eC_NoPin, hC_NoPin⟩⟩
  have FX_NoLayer := fun_mk (st := s_nolayer_init) lI_NoLayer cI_NoLayer kI_NoLayer
  have bX_NoLayer := FX_NoLayer.binds (ps := ["self", "layer"]) fun _ _ _ _ _ _ us hl => match us, hl with | [_, _], _ => rfl
  have E_NoLayer : Exc1 l.prog w K mg base "NoLayer" "layer" C_NoLayer := ⟨⟨"IndexError", _, _, _, XO.tlIE, fI_NoLayer, _, "self", "layer", PySem.F.excBase_IndexError, ⟨by decide +kernel, by decide +kernel, by decide +kernel⟩, ⟨⟨_, _, _, _, _, _, _, _, _, _, _, _, _, _, _, xL_NoLayer, by decide +kernel⟩, XO.bt_IE, sa_NoLayer, eC_NoLayer, tC_NoLayer, kc_NoLayer⟩, iC_NoLayer, tI_NoLayer, xi_NoLayer FX_NoLayer, bX_NoLayer⟩, nf_NoLayer, PySem.W.mg_of X G aC_NoLayer, ⟨ga_NoLayer, gg_NoLayer, eC_NoLayer, hC_NoLayer⟩⟩
  have FX_NoGate := fun_mk (st := s_nogate_init) lI_NoGate cI_NoGate kI_NoGate
  have bX_NoGate := FX_NoGate.binds (ps := ["self", "gate"]) fun _ _ _ _ _ _ us hl => match us, hl with | [_, _], _ => rfl
  have E_NoGate : Exc1 l.prog w K mg base "NoGate" "gate" C_NoGate := ⟨⟨"LookupError", _, _, _, XO.tlKE, fI_NoGate, _, "self", "gate", PySem.F.excBase_LookupError, ⟨by decide +kernel, by decide +kernel, by decide +kernel⟩, ⟨⟨_, _, _, _, _, _, _, _, _, _, _, _, _, _, _, xL_NoGate, by decide +kernel⟩, XO.bt_KE, sa_NoGate, eC_NoGate, tC_NoGate, kc_NoGate⟩, iC_NoGate, tI_NoGate, xi_NoGate FX_NoGate, bX_NoGate⟩, nf_NoGate, PySem.W.mg_of X G aC_NoGate, ⟨ga_NoGate, gg_NoGate, eC_NoGate, hC_NoGate⟩⟩
  have b1 := F1.binds (ps := ["thing"]) fun _ _ _ _ _ _ us hl => match us, hl with | [_], _ => rfl
  have G1 : Def l.prog w K mg base "is_whole" ["thing"] 1 (spI K P_is_whole) := ⟨f1, _, ok_is_whole F1 B, PySem.W.mg_of X G a1, k1, b1⟩
  have b2 := F2.binds (ps := ["thing", "least", "most"]) fun _ _ _ _ _ _ us hl => match us, hl with | [_, _, _], _ => rfl
  have G2 : Def l.prog w K mg base "is_within" ["thing", "least", "most"] 2 (spI K P_is_within) := ⟨f2, _, ok_is_within F2 B G1, PySem.W.mg_of X G a2, k2, b2⟩
  have b3 := F3.binds (ps := ["thing", "least", "most"]) fun _ _ _ _ _ _ us hl => match us, hl with | [_, _, _], _ => rfl
  have G3 : Def l.prog w K mg base "is_row" ["thing", "least", "most"] 1 (spI K P_is_row) := ⟨f3, _, ok_is_row F3 B, PySem.W.mg_of X G a3, k3, b3⟩
  have b4 := F4.binds (ps := ["thing", "many"]) fun _ _ _ _ _ _ us hl => match us, hl with | [_, _], _ => rfl
  have G4 : Def l.prog w K mg base "are_whole" ["thing", "many"] 2 (spI K P_are_whole) := ⟨f4, _, ok_are_whole F4 B G3 G1, PySem.W.mg_of X G a4, k4, b4⟩
  have b5 := F5.binds (ps := ["thing", "width", "height", "layers"]) fun _ _ _ _ _ _ us hl => match us, hl with | [_, _, _, _], _ => rfl
  have G5 : Def l.prog w K mg base "is_pin_row" ["thing", "width", "height", "layers"] 3 (spI K P_is_pin_row) := ⟨f5, _, ok_is_pin_row F5 B G4, PySem.W.mg_of X G a5, k5, b5⟩
  have b6 := F6.binds (ps := ["width", "height", "pins", "layers", "spacing"]) fun _ _ _ _ _ _ us hl => match us, hl with | [_, _, _, _, _], _ => rfl
  have G6 : Def l.prog w K mg base "are_board" ["width", "height", "pins", "layers", "spacing"] 4 (spI K P_are_board) := ⟨f6, _, ok_are_board F6 B V_MOST V_MOST_LAYERS V_MOST_PINS G5 G3 G2, PySem.W.mg_of X G a6, k6, b6⟩
  obtain ⟨g7, hb7⟩ := kbn_of (ps := ["self", "width", "height", "pins", "layers", "spacing"]) F7 4 ["spacing", "layers"] [] [(true, 1), (true, 0)] (by simp) (by simp) (fun D doc pm an cdv ct us mv ws h1 h2 h3 => match us, mv, ws, h1, h2, h3 with | [_, _, _, _], [], [_, _], _, _, _ => rfl)
  have M_Board : MkK l.prog w K mg base "Board" C_Board ["self", "width", "height", "pins", "layers", "spacing"] 3 ["spacing", "layers"] [(true, 1), (true, 0)] [] 6 (spX K (xn mg) (P_board_init C_Board)) := ⟨⟨f7, _, g7, ⟨mk_Board, a7, i7, kc_Board⟩, ok_board_init F7 B K_Board E_NoBoard G6, PySem.W.mg_of X G aC_Board, hb7⟩⟩
  obtain ⟨g7_1, hb7_1⟩ := kbn_of (ps := ["self", "width", "height", "pins", "layers", "spacing"]) F7 4 [] [("layers", .int 1), ("spacing", .int 1)] [(false, 0), (false, 1)] (by simp) (by simp) (fun D doc pm an cdv ct us mv ws h1 h2 h3 => match us, mv, ws, h1, h2, h3 with | [_, _, _, _], [_, _], [], _, _, _ => ⟨_, _, _, _, _, _, rfl, rfl, _, _, _, _, _, _, rfl, rfl, rfl⟩)
  have M_Board_1 : MkK l.prog w K mg base "Board" C_Board ["self", "width", "height", "pins", "layers", "spacing"] 3 [] [(false, 0), (false, 1)] [.int 1, .int 1] 6 (spX K (xn mg) (P_board_init C_Board)) := ⟨⟨f7, _, g7_1, ⟨mk_Board, a7, i7, kc_Board⟩, ok_board_init F7 B K_Board E_NoBoard G6, PySem.W.mg_of X G aC_Board, hb7_1⟩⟩
  have b8 := F8.binds (ps := ["self", "number"]) fun _ _ _ _ _ _ us hl => match us, hl with | [_, _], _ => rfl
  have G8 : Mth l.prog w K mg base C_Board "look_pin" ["self", "number"] 4 (spX K (xn mg) (P_board_look_pin C_Board)) := ⟨f8, _, ok_board_look_pin F8 B K_Board E_NoPin G2, K_Board.cls, ⟨a8, i8, k8⟩, b8⟩
  have b9 := F9.binds (ps := ["number"]) fun _ _ _ _ _ _ us hl => match us, hl with | [_], _ => rfl
  have G9 : Def l.prog w K mg base "sign_of" ["number"] 1 (spI K P_sign_of) := ⟨f9, _, ok_sign_of F9 B, PySem.W.mg_of X G a9, k9, b9⟩
  have b10 := F10.binds (ps := ["one", "other", "third"]) fun _ _ _ _ _ _ us hl => match us, hl with | [_, _, _], _ => rfl
  have G10 : Def l.prog w K mg base "side" ["one", "other", "third"] 2 (spI K P_side) := ⟨f10, _, ok_side F10 B G9, PySem.W.mg_of X G a10, k10, b10⟩
  have b11 := F11.binds (ps := ["one", "other"]) fun _ _ _ _ _ _ us hl => match us, hl with | [_, _], _ => rfl
  have G11 : Def l.prog w K mg base "apart" ["one", "other"] 1 (spI K P_apart) := ⟨f11, _, ok_apart F11 B, PySem.W.mg_of X G a11, k11, b11⟩
  have b12 := F12.binds (ps := ["one", "other", "third"]) fun _ _ _ _ _ _ us hl => match us, hl with | [_, _, _], _ => rfl
  have G12 : Def l.prog w K mg base "is_between" ["one", "other", "third"] 3 (spI K P_is_between) := ⟨f12, _, ok_is_between F12 B G10, PySem.W.mg_of X G a12, k12, b12⟩
  have b13 := F13.binds (ps := ["self", "number"]) fun _ _ _ _ _ _ us hl => match us, hl with | [_, _], _ => rfl
  have G13 : Mth l.prog w K mg base C_Board "look_layer" ["self", "number"] 4 (spX K (xn mg) (P_board_look_layer C_Board)) := ⟨f13, _, ok_board_look_layer F13 B K_Board E_NoLayer G2, K_Board.cls, ⟨a13, i13, k13⟩, b13⟩
  have b14 := F14.binds (ps := ["self", "layer"]) fun _ _ _ _ _ _ us hl => match us, hl with | [_, _], _ => rfl
  have G14 : Mth l.prog w K mg base C_Board "pins_on" ["self", "layer"] 5 (spX K (xn mg) (P_board_pins_on C_Board)) := ⟨f14, _, ok_board_pins_on F14 B K_Board V_CORNERS G13, K_Board.cls, ⟨a14, i14, k14⟩, b14⟩
  have b15 := F15.binds (ps := ["self", "one", "other", "pins"]) fun _ _ _ _ _ _ us hl => match us, hl with | [_, _, _, _], _ => rfl
  have G15 : Mth l.prog w K mg base C_Board "meets_a_pin" ["self", "one", "other", "pins"] 4 (spI K (P_board_meets_a_pin C_Board)) := ⟨f15, _, fn_lift (ok_board_meets_a_pin F15 B K_Board G12), K_Board.cls, ⟨a15, i15, k15⟩, b15⟩
  have b16 := F16.binds (ps := ["self", "one", "other", "gate"]) fun _ _ _ _ _ _ us hl => match us, hl with | [_, _, _, _], _ => rfl
  have G16 : Mth l.prog w K mg base C_Board "crosses_gate" ["self", "one", "other", "gate"] 3 (spI K (P_board_crosses_gate C_Board)) := ⟨f16, _, fn_lift (ok_board_crosses_gate F16 B K_Board G10), K_Board.cls, ⟨a16, i16, k16⟩, b16⟩
  have b17 := (F17.fn).binds (ps := ["self", "pins"]) fun _ _ _ _ _ _ us hl => match us, hl with | [_, _], _ => rfl
  have G17 : Mth l.prog w K mg base C_Board "found_gates" ["self", "pins"] 6 (spI K (P_board_found_gates C_Board T_g)) := ⟨f17, _, fn_lift (ok_board_found_gates F17 B TB K_Board G16 G15 G11), K_Board.cls, ⟨a17, i17, k17⟩, b17⟩
  have b18 := F18.binds (ps := ["self", "layer"]) fun _ _ _ _ _ _ us hl => match us, hl with | [_, _], _ => rfl
  have G18 : Mth l.prog w K mg base C_Board "gates" ["self", "layer"] 7 (spX K (xn mg) (P_board_gates C_Board T_g)) := ⟨f18, _, ok_board_gates F18 B K_Board G17 G13 G14, K_Board.cls, ⟨a18, i18, k18⟩, b18⟩
  have b19 := F19.binds (ps := ["self", "corners", "pins"]) fun _ _ _ _ _ _ us hl => match us, hl with | [_, _, _], _ => rfl
  have G19 : Mth l.prog w K mg base C_Board "is_empty" ["self", "corners", "pins"] 4 (spI K (P_board_is_empty C_Board)) := ⟨f19, _, fn_lift (ok_board_is_empty F19 B K_Board G10), K_Board.cls, ⟨a19, i19, k19⟩, b19⟩
  have b20 := F20.binds (ps := ["self", "layer"]) fun _ _ _ _ _ _ us hl => match us, hl with | [_, _], _ => rfl
  have G20 : Mth l.prog w K mg base C_Board "found_triangles" ["self", "layer"] 8 (spI K (P_board_found_triangles C_Board T_g)) := ⟨f20, _, fn_lift (ok_board_found_triangles F20 B K_Board G18 G19 G14), K_Board.cls, ⟨a20, i20, k20⟩, b20⟩
  have b21 := F21.binds (ps := ["self", "layer"]) fun _ _ _ _ _ _ us hl => match us, hl with | [_, _], _ => rfl
  have G21 : Mth l.prog w K mg base C_Board "triangles" ["self", "layer"] 9 (spX K (xn mg) (P_board_triangles C_Board T_g)) := ⟨f21, _, ok_board_triangles F21 B K_Board G20 G13, K_Board.cls, ⟨a21, i21, k21⟩, b21⟩
  have b22 := F22.binds (ps := ["_law_script", "_law_k"]) fun _ _ _ _ _ _ us hl => match us, hl with | [_, _], _ => rfl
  have G22 : Def l.prog w K mg base "_law_cell_at" ["_law_script", "_law_k"] 1 (spI K P_l_cell_at) := ⟨f22, _, ok_l_cell_at F22 B, PySem.W.mg_of X G a22, k22, b22⟩
  have b23 := F23.binds (ps := ["_law_script", "_law_at"]) fun _ _ _ _ _ _ us hl => match us, hl with | [_, _], _ => rfl
  have G23 : Def l.prog w K mg base "_law_bag" ["_law_script", "_law_at"] 2 (spI K P_l_bag) := ⟨f23, _, ok_l_bag F23 B G22, PySem.W.mg_of X G a23, k23, b23⟩
  have b24 := F24.binds (ps := ["_law_bag_here", "_law_many"]) fun _ _ _ _ _ _ us hl => match us, hl with | [_, _], _ => rfl
  have G24 : Def l.prog w K mg base "_law_take" ["_law_bag_here", "_law_many"] 1 (spI K P_l_take) := ⟨f24, _, ok_l_take F24 B, PySem.W.mg_of X G a24, k24, b24⟩
  have b25 := F25.binds (ps := ["_law_bag_here", "_law_most"]) fun _ _ _ _ _ _ us hl => match us, hl with | [_, _], _ => rfl
  have G25 : Def l.prog w K mg base "_law_made" ["_law_bag_here", "_law_most"] 3 (spI K P_l_made) := ⟨f25, _, ok_l_made F25 B G24, PySem.W.mg_of X G a25, k25, b25⟩
  have b26 := F26.binds (ps := ["_law_made_here"]) fun _ _ _ _ _ _ us hl => match us, hl with | [_], _ => rfl
  have G26 : Def l.prog w K mg base "_law_board" ["_law_made_here"] 8 (spI K (P_l_board C_Board)) := ⟨f26, _, ok_l_board F26 B K_Board M_Board, PySem.W.mg_of X G a26, k26, b26⟩
  have b27 := F27.binds (ps := ["_law_made_here", "_law_level"]) fun _ _ _ _ _ _ us hl => match us, hl with | [_, _], _ => rfl
  have G27 : Def l.prog w K mg base "_law_pins" ["_law_made_here", "_law_level"] 1 (spI K P_l_pins) := ⟨f27, _, ok_l_pins F27 B, PySem.W.mg_of X G a27, k27, b27⟩
  have b28 := F28.binds (ps := ["_law_made_here"]) fun _ _ _ _ _ _ us hl => match us, hl with | [_], _ => rfl
  have G28 : Def l.prog w K mg base "_law_points" ["_law_made_here"] 1 (spI K P_l_points) := ⟨f28, _, ok_l_points F28 B, PySem.W.mg_of X G a28, k28, b28⟩
  have b29 := F29.binds (ps := ["self", "gate", "layer"]) fun _ _ _ _ _ _ us hl => match us, hl with | [_, _, _], _ => rfl
  have G29 : Mth l.prog w K mg base C_Board "look_gate" ["self", "gate", "layer"] 8 (spX K (xn mg) (P_board_look_gate C_Board T_g)) := ⟨f29, _, ok_board_look_gate F29 B K_Board E_NoGate G18 G13 G4, K_Board.cls, ⟨a29, i29, k29⟩, b29⟩
  have O30 := ok_board_beside (P := l.prog) (w := w) (base := base) F30 B K_Board G29 G21
  obtain ⟨g30_0, hb30_0⟩ := kbn_of (ps := ["self", "gate", "layer"]) F30 2 ["layer"] [] [(true, 0)] (by simp) (by simp) (fun D doc pm an cdv ct us mv ws h1 h2 h3 => match us, mv, ws, h1, h2, h3 with | [_, _], [], [_], _, _, _ => rfl)
  have N_board_beside_1_layer : MthN l.prog w K mg base C_Board "beside" ["self", "gate", "layer"] 1 ["layer"] [(true, 0)] [] 10 (spX K (xn mg) (P_board_beside C_Board T_g)) := ⟨f30, _, g30_0, O30, K_Board.cls, ⟨a30, i30, k30⟩, hb30_0⟩
  have b31 := F31.binds (ps := ["self"]) fun _ _ _ _ _ _ us hl => match us, hl with | [_], _ => rfl
  have G31 : Mth l.prog w K mg base C_Board "made_of" ["self"] 1 (spI K (P_board_made_of C_Board)) := ⟨f31, _, fn_lift (ok_board_made_of F31 B K_Board), K_Board.cls, ⟨a31, i31, k31⟩, b31⟩
  have b32 := F32.binds (ps := ["self", "other"]) fun _ _ _ _ _ _ us hl => match us, hl with | [_, _], _ => rfl
  have G32 : Mth l.prog w K mg base C_Board "__eq__" ["self", "other"] 2 (spI K (P_board_eq C_Board)) := ⟨f32, _, fn_lift (ok_board_eq F32 B K_Board O_Board V_Board G31), K_Board.cls, ⟨a32, i32, k32⟩, b32⟩
  have b33 := F33.binds (ps := ["self"]) fun _ _ _ _ _ _ us hl => match us, hl with | [_], _ => rfl
  have G33 : Mth l.prog w K mg base C_Board "__len__" ["self"] 1 (spI K (P_board_len C_Board)) := ⟨f33, _, fn_lift (ok_board_len F33 B K_Board), K_Board.cls, ⟨a33, i33, k33⟩, b33⟩
  have b34 := F34.binds (ps := ["self"]) fun _ _ _ _ _ _ us hl => match us, hl with | [_], _ => rfl
  have G34 : Mth l.prog w K mg base C_Board "__str__" ["self"] 1 (spI K (P_board_str C_Board)) := ⟨f34, _, fn_lift (ok_board_str F34 B K_Board), K_Board.cls, ⟨a34, i34, k34⟩, b34⟩
  have b35 := F35.binds (ps := ["self", "pin"]) fun _ _ _ _ _ _ us hl => match us, hl with | [_, _], _ => rfl
  have G35 : Mth l.prog w K mg base C_Board "point" ["self", "pin"] 5 (spX K (xn mg) (P_board_point C_Board)) := ⟨f35, _, ok_board_point F35 B K_Board G8, K_Board.cls, ⟨a35, i35, k35⟩, b35⟩
  have b36 := F36.binds (ps := ["_law_thing"]) fun _ _ _ _ _ _ us hl => match us, hl with | [_], _ => rfl
  have G36 : Def l.prog w K mg base "_law_whole" ["_law_thing"] 1 (spI K P_l_whole) := ⟨f36, _, ok_l_whole F36 B, PySem.W.mg_of X G a36, k36, b36⟩
  have b37 := F37.binds (ps := ["_law_bag_here", "_law_most"]) fun _ _ _ _ _ _ us hl => match us, hl with | [_, _], _ => rfl
  have G37 : Def l.prog w K mg base "_law_odd" ["_law_bag_here", "_law_most"] 3 (spI K P_l_odd) := ⟨f37, _, ok_l_odd F37 B G24, PySem.W.mg_of X G a37, k37, b37⟩
  have b38 := F38.binds (ps := ["_law_board_here", "_law_number"]) fun _ _ _ _ _ _ us hl => match us, hl with | [_, _], _ => rfl
  have G38 : Def l.prog w K mg base "_law_no_pin" ["_law_board_here", "_law_number"] 6 (spI K (P_l_no_pin C_Board)) := ⟨f38, _, ok_l_no_pin F38 B K_Board E_NoBoard E_NoGate E_NoLayer E_NoPin H_NoBoard_NoPin H_NoGate_NoPin H_NoLayer_NoPin H_NoPin_NoPin X_NoPin V_BoardError V_NoGate V_NoLayer V_NoNet Q_NoPin_BoardError Q_NoPin_IndexError Q_NoPin_NoGate Q_NoPin_NoLayer Q_NoPin_NoNet G35, PySem.W.mg_of X G a38, k38, b38⟩
  have b39 := F39.binds (ps := ["_law_board_here", "_law_number", "_law_way"]) fun _ _ _ _ _ _ us hl => match us, hl with | [_, _, _], _ => rfl
  have G39 : Def l.prog w K mg base "_law_no_layer" ["_law_board_here", "_law_number", "_law_way"] 11 (spI K (P_l_no_layer C_Board T_g)) := ⟨f39, _, ok_l_no_layer F39 B K_Board E_NoBoard E_NoGate E_NoLayer E_NoPin H_NoBoard_NoLayer H_NoGate_NoLayer H_NoLayer_NoLayer H_NoPin_NoLayer X_NoLayer V_BoardError V_NoGate V_NoNet V_NoPin Q_NoLayer_BoardError Q_NoLayer_IndexError Q_NoLayer_NoGate Q_NoLayer_NoNet Q_NoLayer_NoPin G18 G14 G21 N_board_beside_1_layer, PySem.W.mg_of X G a39, k39, b39⟩
  have b40 := F40.binds (ps := ["_law_made_here"]) fun _ _ _ _ _ _ us hl => match us, hl with | [_], _ => rfl
  have G40 : Def l.prog w K mg base "_law_text" ["_law_made_here"] 1 (spI K P_l_text) := ⟨f40, _, ok_l_text F40 B, PySem.W.mg_of X G a40, k40, b40⟩
  have b41 := F41.binds (ps := ["_law_made_here"]) fun _ _ _ _ _ _ us hl => match us, hl with | [_], _ => rfl
  have G41 : Def l.prog w K mg base "_law_unlike" ["_law_made_here"] 1 (spI K P_l_unlike) := ⟨f41, _, ok_l_unlike F41 B, PySem.W.mg_of X G a41, k41, b41⟩
  have b42 := F42.binds (ps := ["_law_board_here", "_law_made_here"]) fun _ _ _ _ _ _ us hl => match us, hl with | [_, _], _ => rfl
  have G42 : Def l.prog w K mg base "_law_told" ["_law_board_here", "_law_made_here"] 7 (spI K (P_l_told C_Board)) := ⟨f42, _, ok_l_told F42 B K_Board G33 G34 G31 G14 G35 G27 G28 G40, PySem.W.mg_of X G a42, k42, b42⟩
  exact ok_law F43 B K_Board O_Board V_SPACING G32 G31 G23 G26 G25 G39 G38 G37 G42 G41 G36 M_Board_1
theorem walk {l : PySem.W.OpenLaw} {q : Program} {loose : List Str} {XP : (Str → Option Value) → Heap → Prop} {YP : World → Heap → Prop} {d : DefRec} {K : Params → PySem.W.Frag} (hn : l.most = some 63) (hdf : d.params.defaults = [])
    (hY : ∀ (w : World) (h : Heap), YP w h → (K w.params).In h)
    (F : ∀ (w : World) (mg : Str → Option Value) (fa : Addr) (h : Heap), YP w h → (K w.params).In h → h.Ns mainGlobals mg → mg d.name = some (.ref fa) → LawTab l w (K w.params) 12 "_law_script" Q_g mg fa h) :
    PySem.W.WalkO q loose XP YP l.row.toRowW d [] (fun f vs => PySem.call f vs) := Z.walk_tab hn hdf ⟨rfl, by decide, by decide⟩ hY F
end W
open PySem PySem.W PyProof.Rows in
set_option maxRecDepth 100000 in
set_option maxHeartbeats 0 in
theorem PySem.Challenge.cw_rubberroutes_k05_boards_told_holds : PySem.Challenge.rw_rubberroutes_k05_boards_told.Holds := by
  w_on; o_law; k_head; (case hw => w_witness2)
  k_fill
  refine W.walk (l := PySem.Challenge.rw_rubberroutes_k05_boards_told) rfl rfl (fun w h Y => by first | exact PySem.W.kIn_of Y | exact PySem.W.km_in_of Y) ?F
  case F =>
    intro w mg fa h Y KX G hmg
    refine' W.all_mk KX G hmg ?aC_Board ?pg_Board ?hd_Board ?po_Board ?sa_Board ?n_Board_wide ?n_Board_high ?n_Board_pin_rows ?n_Board_layer_count ?n_Board_apart_by ?n_Board_spots ?n_Board_kept_gates ?n_Board_kept_triangles ?oa_Board ?on_Board ?ot_Board ?om_Board ?oe_Board ?oi_Board ?oy_Board ?oNoneType_Board ?oint_Board ?otuple_Board ?ostr_Board ?mk_Board ?kc_Board ?aC_NoBoard ?kc_NoBoard ?eC_NoBoard ?tC_NoBoard ?q_NoBoard ?aC_NoPin ?kc_NoPin ?eC_NoPin ?tC_NoPin ?iS_NoPin ?xL_NoPin ?sa_NoPin ?ga_NoPin ?gg_NoPin ?nf_NoPin ?hC_NoPin ?iC_NoPin ?tI_NoPin ?lI_NoPin ?cI_NoPin ?kI_NoPin ?aC_NoLayer ?kc_NoLayer ?eC_NoLayer ?tC_NoLayer ?iS_NoLayer ?xL_NoLayer ?sa_NoLayer ?ga_NoLayer ?gg_NoLayer ?nf_NoLayer ?hC_NoLayer ?iC_NoLayer ?tI_NoLayer ?lI_NoLayer ?cI_NoLayer ?kI_NoLayer ?aC_NoGate ?kc_NoGate ?eC_NoGate ?tC_NoGate ?xL_NoGate ?sa_NoGate ?ga_NoGate ?gg_NoGate ?nf_NoGate ?hC_NoGate ?iC_NoGate ?tI_NoGate ?lI_NoGate ?cI_NoGate ?kI_NoGate ?sub_NoPin_NoPin ?sub_NoBoard_NoPin ?sub_NoBoard_NoLayer ?sub_NoPin_NoLayer ?sub_NoLayer_NoPin ?sub_NoLayer_NoLayer ?sub_NoGate_NoPin ?sub_NoGate_NoLayer ?aC_BoardError ?aC_NoNet ?xg_NoLayer ?xk_NoLayer ?xd_NoLayer ?xa_NoLayer ?xn_NoLayer ?xt_NoLayer ?xm_NoLayer ?xg_NoPin ?xk_NoPin ?xd_NoPin ?xa_NoPin ?xn_NoPin ?xt_NoPin ?xm_NoPin ?xs_NoLayer ?xs_NoPin ?yi_BoardError ?yt_BoardError ?yi_NoGate ?yt_NoGate ?yi_NoLayer ?yt_NoLayer ?yi_NoNet ?yt_NoNet ?yi_NoPin ?yt_NoPin ?ys_NoLayer_BoardError ?ys_NoLayer_IndexError ?ys_NoLayer_NoGate ?ys_NoLayer_NoNet ?ys_NoLayer_NoPin ?ys_NoPin_BoardError ?ys_NoPin_IndexError ?ys_NoPin_NoGate ?ys_NoPin_NoLayer ?ys_NoPin_NoNet ?v_CORNERS ?v_MOST ?v_MOST_LAYERS ?v_MOST_PINS ?v_SPACING ?a1 ?l1 ?c1 ?k1 ?a2 ?l2 ?c2 ?k2 ?a3 ?l3 ?c3 ?k3 ?a4 ?l4 ?c4 ?k4 ?a5 ?l5 ?c5 ?k5 ?a6 ?l6 ?c6 ?k6 ?a7 ?i7 ?l7 ?c7 ?k7 ?d7_layers ?d7_spacing ?a8 ?i8 ?l8 ?c8 ?k8 ?a9 ?l9 ?c9 ?k9 ?a10 ?l10 ?c10 ?k10 ?a11 ?l11 ?c11 ?k11 ?a12 ?l12 ?c12 ?k12 ?a13 ?i13 ?l13 ?c13 ?k13 ?a14 ?i14 ?l14 ?c14 ?k14 ?a15 ?i15 ?l15 ?c15 ?k15 ?a16 ?i16 ?l16 ?c16 ?k16 ?a17 ?i17 ?l17 ?c17 ?k17 ?a18 ?i18 ?l18 ?c18 ?k18 ?a19 ?i19 ?l19 ?c19 ?k19 ?a20 ?i20 ?l20 ?c20 ?k20 ?a21 ?i21 ?l21 ?c21 ?k21 ?a22 ?l22 ?c22 ?k22 ?a23 ?l23 ?c23 ?k23 ?a24 ?l24 ?c24 ?k24 ?a25 ?l25 ?c25 ?k25 ?a26 ?l26 ?c26 ?k26 ?a27 ?l27 ?c27 ?k27 ?a28 ?l28 ?c28 ?k28 ?a29 ?i29 ?l29 ?c29 ?k29 ?a30 ?i30 ?l30 ?c30 ?k30 ?d30_layer ?a31 ?i31 ?l31 ?c31 ?k31 ?a32 ?i32 ?l32 ?c32 ?k32 ?a33 ?i33 ?l33 ?c33 ?k33 ?a34 ?i34 ?l34 ?c34 ?k34 ?a35 ?i35 ?l35 ?c35 ?k35 ?a36 ?l36 ?c36 ?k36 ?a37 ?l37 ?c37 ?k37 ?a38 ?l38 ?c38 ?k38 ?a39 ?l39 ?c39 ?k39 ?a40 ?l40 ?c40 ?k40 ?a41 ?l41 ?c41 ?k41 ?a42 ?l42 ?c42 ?k42 ?a43 ?l43 ?c43 ?k43 ?z_IndexError ?z_all ?z_any ?z_bool ?z_enumerate ?z_int ?z_isinstance ?z_len ?z_list ?z_max ?z_min ?z_range ?z_sorted ?z_str ?z_tuple ?tt ?tg ?tn ?tc
    (case aC_Board => k_is)
    (case pg_Board => k_is)
    (case hd_Board => k_is)
    (case po_Board => k_is)
    (case sa_Board => k_is)
    (case n_Board_wide => k_is)
    (case n_Board_high => k_is)
    (case n_Board_pin_rows => k_is)
    (case n_Board_layer_count => k_is)
    (case n_Board_apart_by => k_is)
    (case n_Board_spots => k_is)
    (case n_Board_kept_gates => k_is)
    (case n_Board_kept_triangles => k_is)
    (case oa_Board => k_is)
    (case on_Board => k_is)
    (case ot_Board => k_is)
    (case om_Board => k_is)
    (case oe_Board => k_is)
    (case oi_Board => k_is)
    (case oy_Board => k_is)
    (case oNoneType_Board => k_is)
    (case oint_Board => k_is)
    (case otuple_Board => k_is)
    (case ostr_Board => k_is)
    (case mk_Board => k_is)
    (case kc_Board => k_is)
    (case aC_NoBoard => k_is)
    (case kc_NoBoard => k_is)
    (case eC_NoBoard => k_is)
    (case tC_NoBoard => k_is)
    (case q_NoBoard => k_exc)
    (case aC_NoPin => k_is)
    (case kc_NoPin => k_is)
    (case eC_NoPin => k_is)
    (case tC_NoPin => k_is)
    (case iS_NoPin => k_is)
    (case xL_NoPin => k_is)
    (case sa_NoPin => k_is)
    (case ga_NoPin => k_is)
    (case gg_NoPin => k_is)
    (case nf_NoPin => k_is)
    (case hC_NoPin => k_is)
    (case iC_NoPin => k_is)
    (case tI_NoPin => k_is)
    (case lI_NoPin => k_is)
    (case cI_NoPin => k_is)
    (case kI_NoPin => k_is)
    (case aC_NoLayer => k_is)
    (case kc_NoLayer => k_is)
    (case eC_NoLayer => k_is)
    (case tC_NoLayer => k_is)
    (case iS_NoLayer => k_is)
    (case xL_NoLayer => k_is)
    (case sa_NoLayer => k_is)
    (case ga_NoLayer => k_is)
    (case gg_NoLayer => k_is)
    (case nf_NoLayer => k_is)
    (case hC_NoLayer => k_is)
    (case iC_NoLayer => k_is)
    (case tI_NoLayer => k_is)
    (case lI_NoLayer => k_is)
    (case cI_NoLayer => k_is)
    (case kI_NoLayer => k_is)
    (case aC_NoGate => k_is)
    (case kc_NoGate => k_is)
    (case eC_NoGate => k_is)
    (case tC_NoGate => k_is)
    (case xL_NoGate => k_is)
    (case sa_NoGate => k_is)
    (case ga_NoGate => k_is)
    (case gg_NoGate => k_is)
    (case nf_NoGate => k_is)
    (case hC_NoGate => k_is)
    (case iC_NoGate => k_is)
    (case tI_NoGate => k_is)
    (case lI_NoGate => k_is)
    (case cI_NoGate => k_is)
    (case kI_NoGate => k_is)
    (case sub_NoPin_NoPin => k_is)
    (case sub_NoBoard_NoPin => k_is)
    (case sub_NoBoard_NoLayer => k_is)
    (case sub_NoPin_NoLayer => k_is)
    (case sub_NoLayer_NoPin => k_is)
    (case sub_NoLayer_NoLayer => k_is)
    (case sub_NoGate_NoPin => k_is)
    (case sub_NoGate_NoLayer => k_is)
    (case aC_BoardError => k_is)
    (case aC_NoNet => k_is)
    (case xg_NoLayer => k_is)
    (case xk_NoLayer => k_is)
    (case xd_NoLayer => k_is)
    (case xa_NoLayer => k_is)
    (case xn_NoLayer => k_is)
    (case xt_NoLayer => k_is)
    (case xm_NoLayer => k_is)
    (case xg_NoPin => k_is)
    (case xk_NoPin => k_is)
    (case xd_NoPin => k_is)
    (case xa_NoPin => k_is)
    (case xn_NoPin => k_is)
    (case xt_NoPin => k_is)
    (case xm_NoPin => k_is)
    (case xs_NoLayer => k_is)
    (case xs_NoPin => k_is)
    (case yi_BoardError => k_is)
    (case yt_BoardError => k_is)
    (case yi_NoGate => k_is)
    (case yt_NoGate => k_is)
    (case yi_NoLayer => k_is)
    (case yt_NoLayer => k_is)
    (case yi_NoNet => k_is)
    (case yt_NoNet => k_is)
    (case yi_NoPin => k_is)
    (case yt_NoPin => k_is)
    (case ys_NoLayer_BoardError => k_is)
    (case ys_NoLayer_IndexError => k_is)
    (case ys_NoLayer_NoGate => k_is)
    (case ys_NoLayer_NoNet => k_is)
    (case ys_NoLayer_NoPin => k_is)
    (case ys_NoPin_BoardError => k_is)
    (case ys_NoPin_IndexError => k_is)
    (case ys_NoPin_NoGate => k_is)
    (case ys_NoPin_NoLayer => k_is)
    (case ys_NoPin_NoNet => k_is)
    (case v_CORNERS => k_is)
    (case v_MOST => k_is)
    (case v_MOST_LAYERS => k_is)
    (case v_MOST_PINS => k_is)
    (case v_SPACING => k_is)
    (case a1 => k_is)
    (case l1 => k_is)
    (case c1 => k_is)
    (case k1 => k_is)
    (case a2 => k_is)
    (case l2 => k_is)
    (case c2 => k_is)
    (case k2 => k_is)
    (case a3 => k_is)
    (case l3 => k_is)
    (case c3 => k_is)
    (case k3 => k_is)
    (case a4 => k_is)
    (case l4 => k_is)
    (case c4 => k_is)
    (case k4 => k_is)
    (case a5 => k_is)
    (case l5 => k_is)
    (case c5 => k_is)
    (case k5 => k_is)
    (case a6 => k_is)
    (case l6 => k_is)
    (case c6 => k_is)
    (case k6 => k_is)
    (case a7 => k_is)
    (case i7 => k_is)
    (case l7 => k_is)
    (case c7 => k_is)
    (case k7 => k_is)
    (case d7_layers => k_is)
    (case d7_spacing => k_is)
    (case a8 => k_is)
    (case i8 => k_is)
    (case l8 => k_is)
    (case c8 => k_is)
    (case k8 => k_is)
    (case a9 => k_is)
    (case l9 => k_is)
    (case c9 => k_is)
    (case k9 => k_is)
    (case a10 => k_is)
    (case l10 => k_is)
    (case c10 => k_is)
    (case k10 => k_is)
    (case a11 => k_is)
    (case l11 => k_is)
    (case c11 => k_is)
    (case k11 => k_is)
    (case a12 => k_is)
    (case l12 => k_is)
    (case c12 => k_is)
    (case k12 => k_is)
    (case a13 => k_is)
    (case i13 => k_is)
    (case l13 => k_is)
    (case c13 => k_is)
    (case k13 => k_is)
    (case a14 => k_is)
    (case i14 => k_is)
    (case l14 => k_is)
    (case c14 => k_is)
    (case k14 => k_is)
    (case a15 => k_is)
    (case i15 => k_is)
    (case l15 => k_is)
    (case c15 => k_is)
    (case k15 => k_is)
    (case a16 => k_is)
    (case i16 => k_is)
    (case l16 => k_is)
    (case c16 => k_is)
    (case k16 => k_is)
    (case a17 => k_is)
    (case i17 => k_is)
    (case l17 => k_is)
    (case c17 => k_is)
    (case k17 => k_is)
    (case a18 => k_is)
    (case i18 => k_is)
    (case l18 => k_is)
    (case c18 => k_is)
    (case k18 => k_is)
    (case a19 => k_is)
    (case i19 => k_is)
    (case l19 => k_is)
    (case c19 => k_is)
    (case k19 => k_is)
    (case a20 => k_is)
    (case i20 => k_is)
    (case l20 => k_is)
    (case c20 => k_is)
    (case k20 => k_is)
    (case a21 => k_is)
    (case i21 => k_is)
    (case l21 => k_is)
    (case c21 => k_is)
    (case k21 => k_is)
    (case a22 => k_is)
    (case l22 => k_is)
    (case c22 => k_is)
    (case k22 => k_is)
    (case a23 => k_is)
    (case l23 => k_is)
    (case c23 => k_is)
    (case k23 => k_is)
    (case a24 => k_is)
    (case l24 => k_is)
    (case c24 => k_is)
    (case k24 => k_is)
    (case a25 => k_is)
    (case l25 => k_is)
    (case c25 => k_is)
    (case k25 => k_is)
    (case a26 => k_is)
    (case l26 => k_is)
    (case c26 => k_is)
    (case k26 => k_is)
    (case a27 => k_is)
    (case l27 => k_is)
    (case c27 => k_is)
    (case k27 => k_is)
    (case a28 => k_is)
    (case l28 => k_is)
    (case c28 => k_is)
    (case k28 => k_is)
    (case a29 => k_is)
    (case i29 => k_is)
    (case l29 => k_is)
    (case c29 => k_is)
    (case k29 => k_is)
    (case a30 => k_is)
    (case i30 => k_is)
    (case l30 => k_is)
    (case c30 => k_is)
    (case k30 => k_is)
    (case d30_layer => k_is)
    (case a31 => k_is)
    (case i31 => k_is)
    (case l31 => k_is)
    (case c31 => k_is)
    (case k31 => k_is)
    (case a32 => k_is)
    (case i32 => k_is)
    (case l32 => k_is)
    (case c32 => k_is)
    (case k32 => k_is)
    (case a33 => k_is)
    (case i33 => k_is)
    (case l33 => k_is)
    (case c33 => k_is)
    (case k33 => k_is)
    (case a34 => k_is)
    (case i34 => k_is)
    (case l34 => k_is)
    (case c34 => k_is)
    (case k34 => k_is)
    (case a35 => k_is)
    (case i35 => k_is)
    (case l35 => k_is)
    (case c35 => k_is)
    (case k35 => k_is)
    (case a36 => k_is)
    (case l36 => k_is)
    (case c36 => k_is)
    (case k36 => k_is)
    (case a37 => k_is)
    (case l37 => k_is)
    (case c37 => k_is)
    (case k37 => k_is)
    (case a38 => k_is)
    (case l38 => k_is)
    (case c38 => k_is)
    (case k38 => k_is)
    (case a39 => k_is)
    (case l39 => k_is)
    (case c39 => k_is)
    (case k39 => k_is)
    (case a40 => k_is)
    (case l40 => k_is)
    (case c40 => k_is)
    (case k40 => k_is)
    (case a41 => k_is)
    (case l41 => k_is)
    (case c41 => k_is)
    (case k41 => k_is)
    (case a42 => k_is)
    (case l42 => k_is)
    (case c42 => k_is)
    (case k42 => k_is)
    (case a43 => k_is)
    (case l43 => k_is)
    (case c43 => k_is)
    (case k43 => k_is)
    (case z_IndexError => k_is)
    (case z_all => k_is)
    (case z_any => k_is)
    (case z_bool => k_is)
    (case z_enumerate => k_is)
    (case z_int => k_is)
    (case z_isinstance => k_is)
    (case z_len => k_is)
    (case z_list => k_is)
    (case z_max => k_is)
    (case z_min => k_is)
    (case z_range => k_is)
    (case z_sorted => k_is)
    (case z_str => k_is)
    (case z_tuple => k_is)
    (case tt => exact rfl)
    (case tg => exact PySem.W.km_tabs_of Y _ (by decide))
    (case tn => exact rfl)
    (case tc => exact rfl)
