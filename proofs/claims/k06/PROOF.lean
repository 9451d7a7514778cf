import PyProof.Rows.All
import Wide.All
import OpenK.AllK
import Wide.FinOn
import HandS.ForMost
import HandS.Wide
import HandS.IsInst
import HandS.Deep
import HandS.Style
import HandS.Zip
import HandS.Defaults
import HandS.TryOnly
import HandS.Zip0
import KE.KDictZip
import KE.KItemsList
import HandS.ListItems
import HandS.TupAny
import HandS.ExcOwn
import HandS.Lambda
import HandS.ExcInit
import HandS.WordsExc
import HandS.MakeKwOnly
import HandS.ExcField
import HandS.HotCalls
import HandS.SetBool
import HandS.TupSets
import HandS.Flt
import KE.SortData
import HandS.SuiteRaise
import HandS.RaiseFrom
import PyProof.NsDelKeeps
import HandS.ExcIs
import KE.KTryMore
import HandS.Nested
import HandS.EndTab
import HandS.SortKw
import KE.SortKeyHeap
import KE.GoesEnumKw
import KE.DataCmp
import HandS.Conv
import HandS.Style
import KE.KNestM
import HandS.DictComp
import HandS.TryMany
import PyProof.StrOps2
import HandS.DictTup
import PyProof.TupleOfSeq
import KE.DataMinMax
import KE.GoesMore
import KE.GoesZip
import KE.GoesEnum
import HandS.TupMul
import HandS.ListItems
import KE.KDictSum
import KE.DataFind
import HandS.Text
import HandS.FStr
import HandS.More
import KE.KUnpackStar
import HandS.SetFor
import HandS.Strs
import KE.KCallOwn
import HandS.SlotsOwn
import HandS.OwnEq
import HandS.WordsDict
import HandS.SuiteRaise
import KE.KEqDict
import HandS.Head0
import HandS.Head1
import HandS.Head2
import HandS.HeadHook1
import HandS.HeadHook2
import HandS.HeadHook3
import HandS.HeadHook4
import HandS.HeadWalk
import HandS.Flow
import PyProof.ReprRoads
import PyProof.ReprBulk
import PySem.Challenge.RW_rubberroutes_k06_what_is_no_board
set_option Elab.async false
set_option linter.all false
set_option maxRecDepth 100000
set_option maxHeartbeats 4000000
structure Hold (p : Prop) : Prop where
  out : p
theorem Hold.on {p : Prop} (h : p) : Hold p = True := eq_true ⟨h⟩
theorem Hold.as {p : Prop} (h : p) : p := h
namespace Z
open PySem L2
inductive D where
  | non | bl (b : Bool) | int (i : Int) | str (s : Str) | ty (n : String) | tup (ds : List D) | rol (ds : List D) | ref (a : Addr)
inductive MO where
  | lst (ds : List D) | dK (kvs : List (Key × D)) | dT (kvs : List (List Key × D)) | ins (C dx : Addr) (fs : List (Str × D)) | xd (fs : List (Str × D)) | fT (od : Obj) (vs : List (List Key × V)) (kvs : List (List Key × D)) | fK (od : Obj) (vs : List (Key × V)) (kvs : List (Key × D)) | fTp (od : Obj) (ds : List D) | xo (od : Obj) (C : Addr) | tab (q : Str) | lam (od : Obj) (c : Addr) (q : Str) (τ : List (Option D)) (σ : L2.St)
abbrev M := Addr → Option MO
def M.set (μ : M) (a : Addr) (m : MO) : M := fun b => if b = a then some m else μ b
theorem set_same {μ : M} {a : Addr} {m : MO} : μ.set a m a = some m := by unfold M.set; rw [if_pos rfl]
theorem set_ne {μ : M} {a b : Addr} {m : MO} (h : b ≠ a) : μ.set a m b = μ b := by unfold M.set; rw [if_neg h]
theorem set_set {μ : M} {a : Addr} {m m' : MO} : (μ.set a m).set a m' = μ.set a m' := by
  funext b; unfold M.set; split <;> rfl
inductive TupAt (K : PySem.W.Frag) (H : Hp) (a : Addr) (xs : List V) : Prop
  | inl (h : H a = some (.tup xs)) : TupAt K H a xs
def RolAt (K : PySem.W.Frag) (H : Hp) (a : Addr) (xs : List V) : Prop :=
  (∃ o, H a = some (.frz o (.lst xs))) ∨ ∃ (o : Obj) (its : Array Value) (n : Nat), K.lookup a = some o ∧ o.cls = .type "list" ∧ o.dict = none ∧ o.data = .seq its n ∧ its.size ≤ sizeLine ∧ Vals xs its.toList
theorem TupAt.sq {K : PySem.W.Frag} {H : Hp} {a : Addr} {xs : List V} (h : TupAt K H a xs) : SqT K H a xs := by
  cases h with
  | inl h => exact .inl (.inl h)
theorem RolAt.sq {K : PySem.W.Frag} {H : Hp} {a : Addr} {xs : List V} (h : RolAt K H a xs) : SqL K H a xs := by
  rcases h with ⟨o, h⟩ | h
  · exact .inl (.inr ⟨o, h⟩)
  · exact .inr h
mutual
inductive Rel (K : PySem.W.Frag) (H : Hp) : V → D → Prop
  | non : Rel K H .non .non
  | bl (b : Bool) : Rel K H (.bl b) (.bl b)
  | int (i : Int) : Rel K H (.int i) (.int i)
  | str (s : Str) : Rel K H (.str s) (.str s)
  | ty (n : String) : Rel K H (.ty n) (.ty n)
  | ref (a : Addr) : Rel K H (.ref a) (.ref a)
  | tup {a : Addr} {xs : List V} {ds : List D} : TupAt K H a xs → Rels K H xs ds → Rel K H (.ref a) (.tup ds)
  | rol {a : Addr} {xs : List V} {ds : List D} : RolAt K H a xs → Rels K H xs ds → Rel K H (.ref a) (.rol ds)
inductive Rels (K : PySem.W.Frag) (H : Hp) : List V → List D → Prop
  | nil : Rels K H [] []
  | cons {v : V} {vs : List V} {d : D} {ds : List D} : Rel K H v d → Rels K H vs ds → Rels K H (v :: vs) (d :: ds)
end
/-- field lists, pair lists -/
def RelKV {κ : Type} (K : PySem.W.Frag) (H : Hp) : List (κ × V) → List (κ × D) → Prop := Paired fun p q => p.1 = q.1 ∧ Rel K H p.2 q.2
abbrev T := List (Option D)
def Slots (K : PySem.W.Frag) (H : Hp) (τ : T) (σ : St) : Prop := τ.length = σ.length ∧ ∀ (i : Nat) (d : D), τ[i]? = some (some d) → ∃ v, σ[i]? = some (some v) ∧ Rel K H v d
def MRel (K : PySem.W.Frag) (H : Hp) (a : Addr) : MO → Prop
  | .lst ds => ∃ vs, H a = some (.lst vs) ∧ Rels K H vs ds
  | .dK kvs => ∃ vs, H a = some (.dK vs) ∧ RelKV K H vs kvs
  | .dT kvs => ∃ vs, H a = some (.dT vs) ∧ RelKV K H vs kvs
  | .ins C dx fs => ∃ vs, H a = some (.ins C dx vs) ∧ RelKV K H vs fs
  | .xd fs => ∃ vs, H a = some (.xd vs) ∧ RelKV K H vs fs
  | .fT od us kvs => ∃ vs, H a = some (.frz od (.dT vs)) ∧ RelKV K H vs kvs ∧ vs = us
  | .fK od us kvs => ∃ vs, H a = some (.frz od (.dK vs)) ∧ RelKV K H vs kvs ∧ vs = us
  | .fTp od ds => ∃ vs, H a = some (.frz od (.tup vs)) ∧ Rels K H vs ds ∧ od.dict = none
  | .xo od C => ∃ z : Addr, H a = some (.frz od (.own z)) ∧ od.cls = .ref C ∧ ∃ vs, od.data = .fields vs
  | .tab q => ∃ ps : Array Value, H a = some (.tbl ps) ∧ TriplesOk ps.toList ∧ ∀ (pos : Pos) (cv : Value), codeAmong pos ps.toList = some cv → ∃ c, cv = .ref c ∧ H c = some (LamX.CodeO c q)
  | .lam od c q τ σ => ∃ z : Addr, H a = some (.frz od (.own z)) ∧ H c = some (LamX.CodeO c q) ∧ Slots K H τ σ
def Con (K : PySem.W.Frag) (H : Hp) (μ : M) : Prop := ∀ a m, μ a = some m → MRel K H a m
/-- what is tracked outside of the store stays, and stays outside -/
def Fr (μ μ' : M) (H H' : Hp) : Prop := ∀ a o, μ a = none → H a = some o → H' a = some o ∧ μ' a = none
section
variable {K : PySem.W.Frag} {H H' H1 H2 : Hp} {μ μ' μ1 μ2 : M} {τ : T} {σ : St}
theorem Fr.refl : Fr μ μ H H := fun _ _ h e => ⟨e, h⟩
theorem Fr.trans (a : Fr μ μ1 H H1) (b : Fr μ1 μ2 H1 H2) : Fr μ μ2 H H2 := fun x o h e => let ⟨e1, h1⟩ := a x o h e; b x o h1 e1
theorem Con.tn (c : Con K H μ) {a : Addr} {xs : List V} (e : H a = some (.tup xs)) : μ a = none := by
  cases q : μ a with
  | none => rfl
  | some m =>
    have r := c a m q
    cases m <;> (obtain ⟨vs, h, _⟩ := r; rw [e] at h; cases h)
theorem Con.fn (c : Con K H μ) {a : Addr} {o : Obj} {u : List V} (e : H a = some (.frz o (.lst u))) : μ a = none := by
  cases q : μ a with
  | none => rfl
  | some m =>
    have r := c a m q
    cases m <;> (obtain ⟨vs, h, _⟩ := r; rw [e] at h; cases h)
theorem Con.free (c : Con K H μ) {a : Addr} (e : H a = none) : μ a = none := by
  cases q : μ a with
  | none => rfl
  | some m =>
    have r := c a m q
    cases m <;> (obtain ⟨vs, h, _⟩ := r; rw [e] at h; cases h)
/-- tuples and read-only lists stay -/
structure Tx (H H' : Hp) : Prop where
  t : ∀ a xs, H a = some (.tup xs) → H' a = some (.tup xs)
  l : ∀ a o xs, H a = some (.frz o (.lst xs)) → H' a = some (.frz o (.lst xs))
  c : ∀ a q, H a = some (LamX.CodeO a q) → H' a = some (LamX.CodeO a q)
theorem Con.cn (c : Con K H μ) {a : Addr} {q : Str} (e : H a = some (LamX.CodeO a q)) : μ a = none := by
  cases h : μ a with
  | none => rfl
  | some m =>
    have r := c a m h
    unfold LamX.CodeO at e
    cases m <;> (obtain ⟨vs, h, _⟩ := r; rw [e] at h; cases h)
theorem Tx.trans (a : Tx H H1) (b : Tx H1 H2) : Tx H H2 := ⟨fun x xs h => b.t x xs (a.t x xs h), fun x o xs h => b.l x o xs (a.l x o xs h), fun x q h => b.c x q (a.c x q h)⟩
theorem Fr.tx (f : Fr μ μ' H H') (c : Con K H μ) : Tx H H' := ⟨fun a xs e => (f a _ (c.tn e) e).1, fun a o xs e => (f a _ (c.fn e) e).1, fun a q e => (f a _ (c.cn e) e).1⟩
theorem TupAt.mono {a : Addr} {xs : List V} (t : Tx H H') (h : TupAt K H a xs) : TupAt K H' a xs := by
  cases h with
  | inl h => exact .inl (t.t _ _ h)
theorem RolAt.mono {a : Addr} {xs : List V} (t : Tx H H') (h : RolAt K H a xs) : RolAt K H' a xs := by
  rcases h with ⟨o, h⟩ | h
  · exact .inl ⟨o, t.l _ _ _ h⟩
  · exact .inr h
mutual
theorem Rel.mono (t : Tx H H') : ∀ (d : D) (v : V), Rel K H v d → Rel K H' v d
  | .non, _, .non => .non
  | .bl _, _, .bl b => .bl b
  | .int _, _, .int b => .int b
  | .str _, _, .str b => .str b
  | .ty _, _, .ty b => .ty b
  | .ref _, _, .ref b => .ref b
  | .tup ds, _, .tup h r => .tup (h.mono t) (Rels.mono t ds _ r)
  | .rol ds, _, .rol h r => .rol (h.mono t) (Rels.mono t ds _ r)
theorem Rels.mono (t : Tx H H') : ∀ (ds : List D) (vs : List V), Rels K H vs ds → Rels K H' vs ds
  | [], _, .nil => .nil
  | d :: ds, _, .cons a b => .cons (Rel.mono t d _ a) (Rels.mono t ds _ b)
end
theorem RelKV.mono {κ : Type} (t : Tx H H') : ∀ {xs : List (κ × V)} {ys : List (κ × D)}, RelKV K H xs ys → RelKV K H' xs ys
  | _, _, .nil => .nil
  | _, _, .cons a b => .cons ⟨a.1, Rel.mono t _ _ a.2⟩ (RelKV.mono t b)
theorem Slots.mono (t : Tx H H') (s : Slots K H τ σ) : Slots K H' τ σ := ⟨s.1, fun i d e => let ⟨v, h, r⟩ := s.2 i d e; ⟨v, h, Rel.mono t d v r⟩⟩
theorem Rels.length : ∀ {vs : List V} {ds : List D}, Rels K H vs ds → vs.length = ds.length
  | _, _, .nil => rfl
  | _, _, .cons _ b => by rw [List.length_cons, List.length_cons, Rels.length b]
theorem Rels.append : ∀ {vs ws : List V} {ds es : List D}, Rels K H vs ds → Rels K H ws es → Rels K H (vs ++ ws) (ds ++ es)
  | _, _, _, _, .nil, h => h
  | _, _, _, _, .cons a b, h => .cons a (Rels.append b h)
theorem Rels.get : ∀ {vs : List V} {ds : List D} {i : Nat} {d : D}, Rels K H vs ds → ds[i]? = some d → ∃ v, vs[i]? = some v ∧ Rel K H v d
  | _, _, i, d, .nil, e => by simp at e
  | _, _, 0, d, .cons a _, e => ⟨_, rfl, by simp at e; subst e; exact a⟩
  | _, _, i + 1, d, .cons _ b, e => by
    obtain ⟨v, h1, h2⟩ := Rels.get (i := i) (d := d) b (by simpa using e)
    exact ⟨v, by simpa using h1, h2⟩
theorem Rels.getV : ∀ {vs : List V} {ds : List D} {i : Nat} {v : V}, Rels K H vs ds → vs[i]? = some v → ∃ d, ds[i]? = some d ∧ Rel K H v d
  | _, _, i, d, .nil, e => by simp at e
  | _, _, 0, d, .cons a _, e => ⟨_, rfl, by simp at e; subst e; exact a⟩
  | _, _, i + 1, d, .cons _ b, e => by
    obtain ⟨v, h1, h2⟩ := Rels.getV (i := i) (v := d) b (by simpa using e)
    exact ⟨v, by simpa using h1, h2⟩
theorem Rels.set {v : V} {d : D} (r : Rel K H v d) : ∀ {vs : List V} {ds : List D} (i : Nat), Rels K H vs ds → Rels K H (vs.set i v) (ds.set i d)
  | _, _, _, .nil => .nil
  | _, _, 0, .cons _ b => .cons r b
  | _, _, i + 1, .cons a b => .cons a (Rels.set r i b)
theorem Rels.reverse : ∀ {vs : List V} {ds : List D}, Rels K H vs ds → Rels K H vs.reverse ds.reverse
  | _, _, .nil => .nil
  | _, _, .cons a b => by rw [List.reverse_cons, List.reverse_cons]; exact (Rels.reverse b).append (.cons a .nil)
theorem Rels.take : ∀ {vs : List V} {ds : List D} (n : Nat), Rels K H vs ds → Rels K H (vs.take n) (ds.take n)
  | _, _, 0, _ => .nil
  | _, _, _ + 1, .nil => .nil
  | _, _, n + 1, .cons a b => .cons a (Rels.take n b)
theorem Rels.drop : ∀ {vs : List V} {ds : List D} (n : Nat), Rels K H vs ds → Rels K H (vs.drop n) (ds.drop n)
  | _, _, 0, h => h
  | _, _, _ + 1, .nil => .nil
  | _, _, n + 1, .cons _ b => Rels.drop n b
theorem Slots.set {v : V} {d : D} (s : Slots K H τ σ) (r : Rel K H v d) (i : Nat) : Slots K H (τ.set i (some d)) (σ.set i (some v)) := by
  refine ⟨by rw [List.length_set, List.length_set]; exact s.1, fun j e h => ?_⟩
  by_cases hj : i = j
  · subst hj
    by_cases hi : i < τ.length
    · rw [List.getElem?_set_self hi] at h
      cases h
      exact ⟨v, by rw [List.getElem?_set_self (by rw [← s.1]; exact hi)], r⟩
    · rw [List.getElem?_eq_none (by rw [List.length_set]; omega)] at h; cases h
  · rw [List.getElem?_set_ne hj] at h
    obtain ⟨v', e', r'⟩ := s.2 j e h
    exact ⟨v', by rw [List.getElem?_set_ne hj]; exact e', r'⟩
/-- objects other than p are as they were: the store but p is borne again -/
theorem MRel.mono (t : Tx H H') {a : Addr} (e : H' a = H a) : ∀ {m : MO}, MRel K H a m → MRel K H' a m
  | .lst _, ⟨vs, h, r⟩ => ⟨vs, e.trans h, Rels.mono t _ _ r⟩
  | .dK _, ⟨vs, h, r⟩ => ⟨vs, e.trans h, RelKV.mono t r⟩
  | .dT _, ⟨vs, h, r⟩ => ⟨vs, e.trans h, RelKV.mono t r⟩
  | .ins _ _ _, ⟨vs, h, r⟩ => ⟨vs, e.trans h, RelKV.mono t r⟩
  | .xd _, ⟨vs, h, r⟩ => ⟨vs, e.trans h, RelKV.mono t r⟩
  | .fT _ _ _, ⟨vs, h, r, z⟩ => ⟨vs, e.trans h, RelKV.mono t r, z⟩
  | .fK _ _ _, ⟨vs, h, r, z⟩ => ⟨vs, e.trans h, RelKV.mono t r, z⟩
  | .fTp _ _, ⟨vs, h, r, z⟩ => ⟨vs, e.trans h, Rels.mono t _ _ r, z⟩
  | .xo _ _, ⟨u, h, r⟩ => ⟨u, e.trans h, r⟩
  | .tab _, ⟨ps, h, z, r⟩ => ⟨ps, e.trans h, z, fun pos cv q => let ⟨c, e1, e2⟩ := r pos cv q; ⟨c, e1, t.c _ _ e2⟩⟩
  | .lam _ _ _ _ _, ⟨z, h, k, r⟩ => ⟨z, e.trans h, t.c _ _ k, Slots.mono t r⟩
/-- a new untracked-by-the-store object -/
theorem tx_new {p : Addr} {o : HO} (n : H p = none) : Tx H (upd H p o) := ⟨fun a xs e => by rw [upd_ne (ne_of_none e n)]; exact e, fun a ob xs e => by rw [upd_ne (ne_of_none e n)]; exact e, fun a q e => by rw [upd_ne (ne_of_none e n)]; exact e⟩
theorem con_new {p : Addr} {o : HO} (n : H p = none) (c : Con K H μ) : Con K (upd H p o) μ := fun a m e => by
  have ha : a ≠ p := fun z => by subst z; rw [c.free n] at e; cases e
  exact (c a m e).mono (tx_new n) (upd_ne ha)
theorem fr_new {p : Addr} {o : HO} (n : H p = none) : Fr μ μ H (upd H p o) := fun a u h e => ⟨by rw [upd_ne (ne_of_none e n)]; exact e, h⟩
/-- .. and in the store -/
theorem con_put {p : Addr} {o : HO} {m : MO} (n : H p = none) (c : Con K H μ) (r : MRel K (upd H p o) p m) : Con K (upd H p o) (μ.set p m) := fun a m' e => by
  by_cases ha : a = p
  · subst ha; rw [set_same] at e; cases e; exact r
  · rw [set_ne ha] at e
    exact (c a m' e).mono (tx_new n) (upd_ne ha)
theorem fr_put {p : Addr} {o : HO} {m : MO} (n : H p = none) : Fr μ (μ.set p m) H (upd H p o) := fun a u h e => by
  have ha : a ≠ p := ne_of_none e n
  exact ⟨by rw [upd_ne ha]; exact e, by rw [set_ne ha]; exact h⟩
/-- an object of the store is changed -/
theorem tx_mut {p : Addr} {o : HO} {m : MO} (c : Con K H μ) (h : μ p = some m) : Tx H (upd H p o) :=
  ⟨fun a xs e => by rw [upd_ne (fun z => by subst z; rw [c.tn e] at h; cases h)]; exact e, fun a ob xs e => by rw [upd_ne (fun z => by subst z; rw [c.fn e] at h; cases h)]; exact e, fun a q e => by rw [upd_ne (fun z => by subst z; rw [c.cn e] at h; cases h)]; exact e⟩
theorem con_mut {p : Addr} {o : HO} {m m' : MO} (c : Con K H μ) (h : μ p = some m) (r : MRel K (upd H p o) p m') : Con K (upd H p o) (μ.set p m') := fun a u e => by
  by_cases ha : a = p
  · subst ha; rw [set_same] at e; cases e; exact r
  · rw [set_ne ha] at e
    exact (c a u e).mono (tx_mut c h) (upd_ne ha)
theorem fr_mut {p : Addr} {o : HO} {m m' : MO} (h : μ p = some m) : Fr μ (μ.set p m') H (upd H p o) := fun a u n e => by
  have ha : a ≠ p := fun z => by subst z; rw [n] at h; cases h
  exact ⟨by rw [upd_ne ha]; exact e, by rw [set_ne ha]; exact n⟩
/-- the store forgotten in part -/
def Sub (μ μ' : M) : Prop := ∀ a m, μ a = some m → μ' a = some m
theorem Sub.refl : Sub μ μ := fun _ _ h => h
theorem Sub.trans (a : Sub μ μ1) (b : Sub μ1 μ2) : Sub μ μ2 := fun x m h => b x m (a x m h)
theorem Sub.set {p : Addr} {m : MO} (h : μ p = none) : Sub μ (μ.set p m) := fun a m' e => by rw [set_ne (fun z => by subst z; rw [h] at e; cases e)]; exact e
theorem Con.sub (s : Sub μ μ') (c : Con K H μ') : Con K H μ := fun a m e => c a m (s a m e)
theorem Sub.none (s : Sub μ μ') {a : Addr} (h : μ' a = Option.none) : μ a = Option.none := by
  cases q : μ a with
  | none => rfl
  | some m => rw [s a m q] at h; cases h
theorem Fr.sub (f : Fr μ μ1 H H1) (s : Sub μ2 μ1) : Fr μ μ2 H H1 := fun a o n e => let ⟨e1, h1⟩ := f a o n e; ⟨e1, s.none h1⟩
end
def AE (K : PySem.W.Frag) (t : TE) (τ : T) (μ : M) (Φ : D → M → Prop) : Prop :=
  ∀ σ H, Slots K H τ σ → Con K H μ → ∀ Q : VK, (∀ d μ' v H', Fr μ μ' H H' → Con K H' μ' → Rel K H' v d → Φ d μ' → Q v H') → t σ H Q
def AA (K : PySem.W.Frag) (t : TA) (τ : T) (μ : M) (Φ : List D → M → Prop) : Prop :=
  ∀ σ H, Slots K H τ σ → Con K H μ → ∀ Q : List V → Hp → Prop, (∀ d μ' v H', Fr μ μ' H H' → Con K H' μ' → Rels K H' v d → Φ d μ' → Q v H') → t σ H Q
def AT (K : PySem.W.Frag) (t : TT) (τ : T) (μ : M) (Φ : Bool → M → Prop) : Prop :=
  ∀ σ H, Slots K H τ σ → Con K H μ → ∀ Q : Bool → Hp → Prop, (∀ b μ' H', Fr μ μ' H H' → Con K H' μ' → Φ b μ' → Q b H') → t σ H Q
structure AEnds where
  nx : T → M → Prop
  rt : D → M → Prop
  bk : T → M → Prop := fun _ _ => False
  ct : T → M → Prop := fun _ _ => False
  /-- what is wished of an exception; what the names of classes stand for; what holds where one is raised -/
  W : WX := fun _ _ _ _ => False
  cn : Str → Option Value := fun _ => none
  xs : Str → Option Addr → T → M → Prop := fun _ _ _ _ => False
/-- the concrete ends that follow from the abstract ones -/
structure EndsOk (K : PySem.W.Frag) (N : AEnds) (μ : M) (H : Hp) (E : Ends) : Prop where
  nx : ∀ τ' μ' σ' H', Fr μ μ' H H' → Con K H' μ' → Slots K H' τ' σ' → N.nx τ' μ' → E.nx σ' H'
  rt : ∀ d μ' v H', Fr μ μ' H H' → Con K H' μ' → Rel K H' v d → N.rt d μ' → E.rt v H'
  bk : ∀ τ' μ' σ' H', Fr μ μ' H H' → Con K H' μ' → Slots K H' τ' σ' → N.bk τ' μ' → E.bk σ' H'
  ct : ∀ τ' μ' σ' H', Fr μ μ' H H' → Con K H' μ' → Slots K H' τ' σ' → N.ct τ' μ' → E.ct σ' H'
  wx : ∀ x dx τ' μ' cls σ' H', N.cn x = some cls → Fr μ μ' H H' → Con K H' μ' → Slots K H' τ' σ' → N.xs x dx τ' μ' → N.W cls dx σ' H'
def AS (K : PySem.W.Frag) (t : TS) (τ : T) (μ : M) (N : AEnds) : Prop :=
  ∀ σ H, Slots K H τ σ → Con K H μ → ∀ E : Ends, EndsOk K N μ H E → t E σ H
/-- a target -/
def AG (K : PySem.W.Frag) (g : TG) (d : D) (τ : T) (μ : M) (Φ : T → M → Prop) : Prop :=
  ∀ σ H v, Slots K H τ σ → Con K H μ → Rel K H v d → ∀ Q : St → Hp → Prop, (∀ τ' μ' σ' H', Fr μ μ' H H' → Con K H' μ' → Slots K H' τ' σ' → Φ τ' μ' → Q σ' H') → g v σ H Q
def AGs (K : PySem.W.Frag) (g : TGs) (ds : List D) (τ : T) (μ : M) (Φ : T → M → Prop) : Prop :=
  ∀ σ H vs, Slots K H τ σ → Con K H μ → Rels K H vs ds → ∀ Q : St → Hp → Prop, (∀ τ' μ' σ' H', Fr μ μ' H H' → Con K H' μ' → Slots K H' τ' σ' → Φ τ' μ' → Q σ' H') → g vs σ H Q
/-- an operation on values -/
def RO (K : PySem.W.Frag) (r : R2) (d e : D) (μ : M) (Φ : D → M → Prop) : Prop :=
  ∀ H x y, Con K H μ → Rel K H x d → Rel K H y e → ∀ Q : VK, (∀ z μ' v H', Fr μ μ' H H' → Con K H' μ' → Rel K H' v z → Φ z μ' → Q v H') → r x y H Q
def RU (K : PySem.W.Frag) (r : V → Hp → VK → Prop) (d : D) (μ : M) (Φ : D → M → Prop) : Prop :=
  ∀ H x, Con K H μ → Rel K H x d → ∀ Q : VK, (∀ z μ' v H', Fr μ μ' H H' → Con K H' μ' → Rel K H' v z → Φ z μ' → Q v H') → r x H Q
def RC (K : PySem.W.Frag) (r : List V → Hp → VK → Prop) (ds : List D) (μ : M) (Φ : D → M → Prop) : Prop :=
  ∀ H xs, Con K H μ → Rels K H xs ds → ∀ Q : VK, (∀ z μ' v H', Fr μ μ' H H' → Con K H' μ' → Rel K H' v z → Φ z μ' → Q v H') → r xs H Q
section
variable {K : PySem.W.Frag} {τ : T} {μ : M} {Φ Ψ : D → M → Prop} {ta tb te : TE} {r : R2} {t u : TT} {x y z d e : D}
theorem AE.imp (h : AE K te τ μ Φ) (k : ∀ d μ', Φ d μ' → Ψ d μ') : AE K te τ μ Ψ := fun σ H s c Q q => h σ H s c Q fun d μ' v H' f c' r p => q d μ' v H' f c' r (k d μ' p)
theorem AT.imp {Φ Ψ : Bool → M → Prop} (h : AT K t τ μ Φ) (k : ∀ d μ', Φ d μ' → Ψ d μ') : AT K t τ μ Ψ := fun σ H s c Q q => h σ H s c Q fun d μ' H' f c' p => q d μ' H' f c' (k d μ' p)
theorem a_var {i : Nat} (h : τ[i]? = some (some d)) (q : Φ d μ) : AE K (tVar i) τ μ Φ := fun σ H s c Q k => by
  obtain ⟨v, e, r⟩ := s.2 i d h
  exact ⟨v, e, k d μ v H Fr.refl c r q⟩
theorem a_int {n : Int} (q : Φ (.int n) μ) : AE K (tC (.int n)) τ μ Φ := fun σ H s c Q k => k _ μ _ H Fr.refl c (.int n) q
theorem a_bl {n : Bool} (q : Φ (.bl n) μ) : AE K (tC (.bl n)) τ μ Φ := fun σ H s c Q k => k _ μ _ H Fr.refl c (.bl n) q
theorem a_str {n : Str} (q : Φ (.str n) μ) : AE K (tC (.str n)) τ μ Φ := fun σ H s c Q k => k _ μ _ H Fr.refl c (.str n) q
theorem a_non (q : Φ .non μ) : AE K (tC .non) τ μ Φ := fun σ H s c Q k => k _ μ _ H Fr.refl c .non q
theorem a_ty {n : String} (q : Φ (.ty n) μ) : AE K (tC (.ty n)) τ μ Φ := fun σ H s c Q k => k _ μ _ H Fr.refl c (.ty n) q
theorem a_op (h : AE K ta τ μ fun d μ1 => AE K tb τ μ1 fun e μ2 => RO K r d e μ2 Φ) : AE K (tOp r ta tb) τ μ Φ := fun σ H s c Q k =>
  h σ H s c _ fun d μ1 v H1 f1 c1 r1 p1 => p1 σ H1 (s.mono (f1.tx c)) c1 _ fun e μ2 u H2 f2 c2 r2 p2 =>
    p2 H2 v u c2 (Rel.mono (f2.tx c1) _ _ r1) r2 Q fun z μ' w H' f c' rz pz => k z μ' w H' ((f1.trans f2).trans f) c' rz pz
theorem a_un {r : V → Hp → VK → Prop} (h : AE K ta τ μ fun d μ1 => RU K r d μ1 Φ) : AE K (tUn r ta) τ μ Φ := fun σ H s c Q k =>
  h σ H s c _ fun d μ1 v H1 f1 c1 r1 p1 => p1 H1 v c1 r1 Q fun z μ' w H' f c' rz pz => k z μ' w H' (f1.trans f) c' rz pz
theorem aa_nil {Φ : List D → M → Prop} (q : Φ [] μ) : AA K tNil τ μ Φ := fun σ H s c Q k => k _ μ _ H Fr.refl c .nil q
theorem aa_cons {Φ : List D → M → Prop} {tr : TA} (h : AE K ta τ μ fun d μ1 => AA K tr τ μ1 fun ds μ2 => Φ (d :: ds) μ2) : AA K (tCons ta tr) τ μ Φ := fun σ H s c Q k =>
  h σ H s c _ fun d μ1 v H1 f1 c1 r1 p1 => p1 σ H1 (s.mono (f1.tx c)) c1 _ fun ds μ2 us H2 f2 c2 r2 p2 => k _ μ2 _ H2 (f1.trans f2) c2 (.cons (Rel.mono (f2.tx c1) _ _ r1) r2) p2
theorem a_tup {ta : TA} (h : AA K ta τ μ fun ds μ1 => ds.length ≤ sizeLine ∧ Φ (.tup ds) μ1) : AE K (tTup ta) τ μ Φ := fun σ H s c Q k =>
  h σ H s c _ fun ds μ1 vs H1 f1 c1 r1 ⟨hz, p1⟩ => ⟨by rw [r1.length]; exact hz, fun p hp => k _ μ1 _ _ (f1.trans (fr_new hp)) (con_new hp c1) (.tup (.inl upd_same) (Rels.mono (tx_new hp) _ _ r1)) p1⟩
theorem a_lst {ta : TA} (h : AA K ta τ μ fun ds μ1 => ds.length ≤ sizeLine ∧ ∀ p, μ1 p = none → Φ (.ref p) (μ1.set p (.lst ds))) : AE K (tLst ta) τ μ Φ := fun σ H s c Q k =>
  h σ H s c _ fun ds μ1 vs H1 f1 c1 r1 ⟨hz, p1⟩ => ⟨by rw [r1.length]; exact hz, fun p hp => k _ _ _ _ (f1.trans (fr_put hp)) (con_put (m := .lst ds) hp c1 ⟨vs, upd_same, Rels.mono (tx_new hp) _ _ r1⟩) (.ref p) (p1 p (c1.free hp))⟩
theorem a_cb {r : List V → Hp → VK → Prop} {ta : TA} (h : AA K ta τ μ fun ds μ1 => RC K r ds μ1 Φ) : AE K (tCB r ta) τ μ Φ := fun σ H s c Q k =>
  h σ H s c _ fun ds μ1 vs H1 f1 c1 r1 p1 => p1 H1 vs c1 r1 Q fun z μ' w H' f c' rz pz => k z μ' w H' (f1.trans f) c' rz pz
theorem a_if (h : AT K t τ μ fun b μ1 => if b = true then AE K ta τ μ1 Φ else AE K tb τ μ1 Φ) : AE K (tIf t ta tb) τ μ Φ := fun σ H s c Q k =>
  h σ H s c _ fun b μ1 H1 f1 c1 p1 => by
    cases b with
    | true => exact (show AE K ta τ μ1 Φ from p1) σ H1 (s.mono (f1.tx c)) c1 Q fun z μ' w H' f c' rz pz => k z μ' w H' (f1.trans f) c' rz pz
    | false => exact (show AE K tb τ μ1 Φ from p1) σ H1 (s.mono (f1.tx c)) c1 Q fun z μ' w H' f c' rz pz => k z μ' w H' (f1.trans f) c' rz pz
theorem a_andV (h : AE K ta τ μ fun d μ1 => ∃ b, d = .bl b ∧ if b = true then AE K tb τ μ1 Φ else Φ (.bl false) μ1) : AE K (tAndV ta tb) τ μ Φ := fun σ H s c Q k =>
  h σ H s c _ fun d μ1 v H1 f1 c1 r1 ⟨b, e, p1⟩ => by
    subst e
    cases r1
    refine ⟨b, rfl, ?_⟩
    cases b with
    | true => exact (show AE K tb τ μ1 Φ from p1) σ H1 (s.mono (f1.tx c)) c1 Q fun z μ' w H' f c' rz pz => k z μ' w H' (f1.trans f) c' rz pz
    | false => exact k _ μ1 _ H1 f1 c1 (.bl false) (show Φ (.bl false) μ1 from p1)
theorem a_orV (h : AE K ta τ μ fun d μ1 => ∃ b, d = .bl b ∧ if b = true then Φ (.bl true) μ1 else AE K tb τ μ1 Φ) : AE K (tOrV ta tb) τ μ Φ := fun σ H s c Q k =>
  h σ H s c _ fun d μ1 v H1 f1 c1 r1 ⟨b, e, p1⟩ => by
    subst e
    cases r1
    refine ⟨b, rfl, ?_⟩
    cases b with
    | true => exact k _ μ1 _ H1 f1 c1 (.bl true) (show Φ (.bl true) μ1 from p1)
    | false => exact (show AE K tb τ μ1 Φ from p1) σ H1 (s.mono (f1.tx c)) c1 Q fun z μ' w H' f c' rz pz => k z μ' w H' (f1.trans f) c' rz pz
theorem a_notV (h : AE K ta τ μ fun d μ1 => ∃ b, d = .bl b ∧ Φ (.bl (!b)) μ1) : AE K (tNotV ta) τ μ Φ := fun σ H s c Q k =>
  h σ H s c _ fun d μ1 v H1 f1 c1 r1 ⟨b, e, p1⟩ => by
    subst e
    cases r1
    exact ⟨b, rfl, k _ μ1 _ H1 f1 c1 (.bl _) p1⟩
variable {Θ : Bool → M → Prop}
theorem at_test (h : AE K te τ μ fun d μ1 => ∃ b, d = .bl b ∧ Θ b μ1) : AT K (tTest te) τ μ Θ := fun σ H s c Q k =>
  h σ H s c _ fun d μ1 v H1 f1 c1 r1 ⟨b, e, p1⟩ => by
    subst e
    cases r1
    exact ⟨b, rfl, k b μ1 H1 f1 c1 p1⟩
theorem at_B (h : AE K te τ μ fun d μ1 => ∃ b, d = .bl b ∧ Θ b μ1) : AT K (tB te) τ μ Θ := fun σ H s c Q k =>
  h σ H s c _ fun d μ1 v H1 f1 c1 r1 ⟨b, e, p1⟩ => by
    subst e
    cases r1
    exact ⟨b, rfl, k b μ1 H1 f1 c1 p1⟩
theorem at_and (h : AT K t τ μ fun b μ1 => if b = true then AT K u τ μ1 Θ else Θ false μ1) : AT K (tAnd t u) τ μ Θ := fun σ H s c Q k =>
  h σ H s c _ fun b μ1 H1 f1 c1 p1 => by
    cases b with
    | true => exact (show AT K u τ μ1 Θ from p1) σ H1 (s.mono (f1.tx c)) c1 Q fun z μ' H' f c' pz => k z μ' H' (f1.trans f) c' pz
    | false => exact k false μ1 H1 f1 c1 (show Θ false μ1 from p1)
theorem at_or (h : AT K t τ μ fun b μ1 => if b = true then Θ true μ1 else AT K u τ μ1 Θ) : AT K (tOr t u) τ μ Θ := fun σ H s c Q k =>
  h σ H s c _ fun b μ1 H1 f1 c1 p1 => by
    cases b with
    | true => exact k true μ1 H1 f1 c1 (show Θ true μ1 from p1)
    | false => exact (show AT K u τ μ1 Θ from p1) σ H1 (s.mono (f1.tx c)) c1 Q fun z μ' H' f c' pz => k z μ' H' (f1.trans f) c' pz
theorem at_not (h : AT K t τ μ fun b μ1 => Θ (!b) μ1) : AT K (tNot t) τ μ Θ := fun σ H s c Q k => h σ H s c _ fun b μ1 H1 f1 c1 p1 => k (!b) μ1 H1 f1 c1 p1
end
end Z
namespace Z
open PySem L2
section
variable {K : PySem.W.Frag} {τ : T} {μ μ1 μ2 : M} {H H1 H2 : Hp} {σ : L2.St} {Φ Ψ : D → M → Prop} {ta tb tc te : TE} {r r' : R2} {t u : TT} {x y z d e : D} {N : AEnds} {ts us : TS} {g : TG} {D0 E : Ends}
theorem EndsOk.step {μ' : M} {H' : Hp} (k : EndsOk K N μ H E) (f : Fr μ μ' H H') : EndsOk K N μ' H' E :=
  ⟨fun a b c d' f' => k.nx a b c d' (f.trans f'), fun a b c d' f' => k.rt a b c d' (f.trans f'), fun a b c d' f' => k.bk a b c d' (f.trans f'), fun a b c d' f' => k.ct a b c d' (f.trans f'), fun x1 x2 x3 x4 x5 x6 x7 x8 f' => k.wx x1 x2 x3 x4 x5 x6 x7 x8 (f.trans f')⟩
theorem s_seq (h : AS K ts τ μ { N with nx := fun τ' μ' => AS K us τ' μ' N }) : AS K (tSeq ts us) τ μ N := fun σ H s c E k =>
  h σ H s c _ ⟨fun τ' μ' σ' H' f c' s' p => p σ' H' s' c' E (k.step f), k.rt, k.bk, k.ct, k.wx⟩
theorem s_next (h : N.nx τ μ) : AS K tNext τ μ N := fun σ H s c E k => k.nx τ μ σ H Fr.refl c s h
theorem s_drop (h : AE K te τ μ fun _ μ' => N.nx τ μ') : AS K (tDrop te) τ μ N := fun σ H s c E k =>
  h σ H s c _ fun d μ' v H' f c' r p => k.nx τ μ' σ H' f c' (s.mono (f.tx c)) p
theorem s_ret (h : AE K te τ μ N.rt) : AS K (tRet te) τ μ N := fun σ H s c E k => h σ H s c _ fun d μ' v H' f c' r p => k.rt d μ' v H' f c' r p
theorem s_retN (h : N.rt .non μ) : AS K tRetN τ μ N := fun σ H s c E k => k.rt .non μ .non H Fr.refl c .non h
theorem s_if (h : AT K t τ μ fun b μ' => if b = true then AS K ts τ μ' N else AS K us τ μ' N) : AS K (tIfS t ts us) τ μ N := fun σ H s c E k =>
  h σ H s c _ fun b μ' H' f c' p => by
    cases b with
    | true => exact (show AS K ts τ μ' N from p) σ H' (s.mono (f.tx c)) c' E (k.step f)
    | false => exact (show AS K us τ μ' N from p) σ H' (s.mono (f.tx c)) c' E (k.step f)
theorem s_asg (h : AE K te τ μ fun d μ' => AG K g d τ μ' N.nx) : AS K (tAsg te g) τ μ N := fun σ H s c E k =>
  h σ H s c _ fun d μ' v H' f c' r p => p σ H' v (s.mono (f.tx c)) c' r _ fun τ2 μ2 σ2 H2 f2 c2 s2 q => k.nx τ2 μ2 σ2 H2 (f.trans f2) c2 s2 q
theorem g_name {i : Nat} {Θ : T → M → Prop} (h : Θ (τ.set i (some d)) μ) : AG K (gName i) d τ μ Θ := fun σ H v s c r Q k => k _ μ _ H Fr.refl c (s.set r i) h
theorem gs_nil {Θ : T → M → Prop} (h : Θ τ μ) : AGs K gNil [] τ μ Θ := fun σ H vs s c r Q k => by
  cases r
  exact ⟨rfl, k τ μ σ H Fr.refl c s h⟩
theorem gs_cons {gs : TGs} {ds : List D} {Θ : T → M → Prop} (h : AG K g d τ μ fun τ' μ' => AGs K gs ds τ' μ' Θ) : AGs K (gCons g gs) (d :: ds) τ μ Θ := fun σ H vs s c r Q k => by
  cases r with
  | cons r1 r2 =>
    rename_i v vs'
    exact ⟨v, vs', rfl, h σ H v s c r1 _ fun τ' μ' σ' H' f c' s' p => p σ' H' vs' s' c' (Rels.mono (f.tx c) _ _ r2) Q fun τ2 μ2 σ2 H2 f2 c2 s2 q => k τ2 μ2 σ2 H2 (f.trans f2) c2 s2 q⟩
theorem g_tup {n : Nat} {gs : TGs} {ds : List D} {Θ : T → M → Prop} (hn : ds.length = n) (h : AGs K gs ds τ μ Θ) : AG K (gTup K n gs) (.tup ds) τ μ Θ := fun σ H v s c r Q k => by
  cases r with
  | tup ht hr => exact ⟨_, _, rfl, ht.sq, by rw [hr.length]; exact hn, h σ H _ s c hr Q k⟩
/-- o[i] = v -/
def ASet (K : PySem.W.Frag) (t : TSet) (o i d : D) (μ : M) (Θ : M → Prop) : Prop :=
  ∀ H a b v, Con K H μ → Rel K H a o → Rel K H b i → Rel K H v d → ∀ Q : Hp → Prop, (∀ μ' H', Fr μ μ' H H' → Con K H' μ' → Θ μ' → Q H') → t a b v H Q
theorem g_sub {to ti : TE} {tset : TSet} {Θ : T → M → Prop} (h : AE K to τ μ fun o μ1 => AE K ti τ μ1 fun i μ2 => ASet K tset o i d μ2 fun μ3 => Θ τ μ3) : AG K (gSub to ti tset) d τ μ Θ := fun σ H v s c r Q k =>
  h σ H s c _ fun o μ1 a H1 f1 c1 r1 p1 => p1 σ H1 (s.mono (f1.tx c)) c1 _ fun i μ2 b H2 f2 c2 r2 p2 =>
    p2 H2 a b v c2 (Rel.mono (f2.tx c1) _ _ r1) r2 (Rel.mono ((f1.trans f2).tx c) _ _ r) _ fun μ3 H3 f3 c3 p3 => k τ μ3 σ H3 ((f1.trans f2).trans f3) c3 (s.mono (((f1.trans f2).trans f3).tx c)) p3
theorem s_par {i j : Nat} {ta : TA} (h : AA K ta τ μ fun ds μ' => ∃ d e, ds = [d, e] ∧ N.nx ((τ.set i (some d)).set j (some e)) μ') : AS K (tPar i j ta) τ μ N := fun σ H s c E k =>
  h σ H s c _ fun ds μ' vs H' f c' r ⟨d, e, q, p⟩ => by
    subst q
    cases r with
    | cons r1 r2 =>
      cases r2 with
      | cons r2 r3 =>
        cases r3
        exact ⟨_, _, rfl, k.nx _ μ' _ H' f c' (((s.mono (f.tx c)).set r1 i).set r2 j) p⟩
/-- a op= b, by values -/
theorem s_aug {i : Nat} {ti : TIp} (hx : τ[i]? = some (some d)) (h : AE K te τ μ fun e μ1 => RO K ti d e μ1 fun z μ2 => N.nx (τ.set i (some z)) μ2) : AS K (tAug i te ti) τ μ N := fun σ H s c E k => by
  obtain ⟨v, e1, r1⟩ := s.2 i d hx
  exact ⟨v, e1, h σ H s c _ fun e μ1 u H1 f1 c1 r2 p1 => p1 H1 v u c1 (Rel.mono (f1.tx c) _ _ r1) r2 _ fun z μ2 w H2 f2 c2 rz p2 =>
    k.nx _ μ2 _ H2 (f1.trans f2) c2 ((s.mono ((f1.trans f2).tx c)).set rz i) p2⟩
/-- a statement, then the rest, with a word between -/
theorem s_cut {M0 : T → M → Prop} (h : AS K ts τ μ { N with nx := M0 }) (k : ∀ τ' μ', M0 τ' μ' → AS K us τ' μ' N) : AS K (tSeq ts us) τ μ N := s_seq fun σ H s c E q => h σ H s c E ⟨fun τ' μ' σ' H' f c' s' p => q.nx τ' μ' σ' H' f c' s' (k τ' μ' p), q.rt, q.bk, q.ct, q.wx⟩
theorem AS.imp {nx' bk' ct' : T → M → Prop} {rt' : D → M → Prop} (h : AS K ts τ μ N) (h1 : ∀ a b, N.nx a b → nx' a b) (h2 : ∀ a b, N.rt a b → rt' a b) (h3 : ∀ a b, N.bk a b → bk' a b) (h4 : ∀ a b, N.ct a b → ct' a b) : AS K ts τ μ { N with nx := nx', rt := rt', bk := bk', ct := ct' } := fun σ H s c E q =>
  h σ H s c E ⟨fun a b c' d' f x y p => q.nx a b c' d' f x y (h1 _ _ p), fun a b c' d' f x y p => q.rt a b c' d' f x y (h2 _ _ p), fun a b c' d' f x y p => q.bk a b c' d' f x y (h3 _ _ p), fun a b c' d' f x y p => q.ct a b c' d' f x y (h4 _ _ p), q.wx⟩
/-- the ends of a turn -/
def turnE (N : AEnds) (P : T → M → Prop) : AEnds := { N with nx := P, ct := P, bk := N.nx }
theorem turn_ok {μ0 : M} {H0 : Hp} {P : T → M → Prop} {Pc : L2.St → Hp → Prop} (k : EndsOk K N μ0 H0 E) (f : Fr μ0 μ H0 H) (hp : ∀ τ' μ' σ' H', Fr μ0 μ' H0 H' → Con K H' μ' → Slots K H' τ' σ' → P τ' μ' → Pc σ' H') :
    EndsOk K (turnE N P) μ H { E with nx := Pc, ct := Pc, bk := E.nx } :=
  ⟨fun τ' μ' σ' H' f' c s p => hp τ' μ' σ' H' (f.trans f') c s p, fun d' μ' v H' f' => k.rt d' μ' v H' (f.trans f'), fun τ' μ' σ' H' f' => k.nx τ' μ' σ' H' (f.trans f'), fun τ' μ' σ' H' f' c s p => hp τ' μ' σ' H' (f.trans f') c s p, fun x1 x2 x3 x4 x5 x6 x7 x8 f' => k.wx x1 x2 x3 x4 x5 x6 x7 x8 (f.trans f')⟩
/-- the list a is set aside while it is walked -/
def M.del (μ : M) (a : Addr) : M := fun b => if b = a then none else μ b
theorem del_same {a : Addr} : μ.del a a = none := by unfold M.del; rw [if_pos rfl]
theorem del_ne {a b : Addr} (h : b ≠ a) : μ.del a b = μ b := by unfold M.del; rw [if_neg h]
theorem del_sub {a : Addr} : Sub (μ.del a) μ := fun b m e => by
  by_cases h : b = a
  · subst h; rw [del_same] at e; cases e
  · rw [del_ne h] at e; exact e
theorem fr_back {μ0 μ' : M} {H0 H' : Hp} {a : Addr} {m m' : MO} (ha : μ1 a = some m) (f1 : Fr μ0 μ1 H0 H1) (f : Fr (μ1.del a) μ' H1 H') : Fr μ0 (μ'.set a m') H0 H' := fun x o n e => by
  obtain ⟨e1, n1⟩ := f1 x o n e
  have hx : x ≠ a := fun z => by subst z; rw [n1] at ha; cases ha
  obtain ⟨e2, n2⟩ := f x o (by rw [del_ne hx]; exact n1) e1
  exact ⟨e2, by rw [set_ne hx]; exact n2⟩
theorem con_back {μ' : M} {a : Addr} {m : MO} (c : Con K H μ') (r : MRel K H a m) : Con K H (μ'.set a m) := fun x u e => by
  by_cases hx : x = a
  · subst hx; rw [set_same] at e; cases e; exact r
  · rw [set_ne hx] at e; exact c x u e
/-- for over a range -/
theorem s_forN {wi : TI} {lo : Int} {n : Nat} {tb : TS} (P : Nat → T → M → Prop) (hw : ∀ σ H, Slots K H τ σ → Con K H μ → ∀ R : It → Hp → Prop, (∀ μ1 H1, Fr μ μ1 H H1 → Con K H1 μ1 → P 0 τ μ1 → R (Itr lo n) H1) → wi σ H R)
    (hs : ∀ (i : Nat) τ' μ', i < n → P i τ' μ' → AG K g (.int (lo + i)) τ' μ' fun τ2 μ2 => AS K tb τ2 μ2 (turnE N (P (i + 1)))) (hd : ∀ τ' μ', P n τ' μ' → N.nx τ' μ') : AS K (tFor wi g tb) τ μ N := fun σ H s c E k =>
  hw σ H s c _ fun μ1 H1 f1 c1 p0 => by
    refine for_range (lo := lo) (n := n) (fun i σ' H' => ∃ τ' μ', Fr μ μ' H H' ∧ Con K H' μ' ∧ Slots K H' τ' σ' ∧ P i τ' μ') ⟨τ, μ1, f1, c1, s.mono (f1.tx c), p0⟩ ?_ ?_
    · rintro i σ' H' hi ⟨τ', μ', f, c', s', p⟩
      refine hs i τ' μ' hi p σ' H' _ s' c' (.int _) _ fun τ2 μ2 σ2 H2 f2 c2 s2 q => ?_
      exact q σ2 H2 s2 c2 _ (turn_ok (k.step f) f2 fun τ3 μ3 σ3 H3 f3 c3 s3 p3 => ⟨τ3, μ3, f.trans f3, c3, s3, p3⟩)
    · rintro σ' H' ⟨τ', μ', f, c', s', p⟩
      exact k.nx τ' μ' σ' H' f c' s' (hd τ' μ' p)
theorem s_for1 {ta : TA} {tb : TS} (n : Int) (P : Nat → T → M → Prop) (h : AA K ta τ μ fun ds μ1 => ds = [.int n] ∧ -(2 ^ 62) ≤ n ∧ n < 2 ^ 62 ∧ P 0 τ μ1)
    (hs : ∀ (i : Nat) τ' μ', (i : Int) < n → P i τ' μ' → AG K g (.int i) τ' μ' fun τ2 μ2 => AS K tb τ2 μ2 (turnE N (P (i + 1)))) (hd : ∀ τ' μ', P n.toNat τ' μ' → N.nx τ' μ') : AS K (tFor (iRng1 ta) g tb) τ μ N := by
  refine s_forN (lo := 0) (n := n.toNat) P (fun σ H s c R k => h σ H s c _ fun ds μ1 vs H1 f1 c1 r1 ⟨e, h1, h2, p⟩ => ?_) (fun i τ' μ' hi p => ?_) hd
  · subst e
    cases r1 with
    | cons r rr =>
      cases r
      cases rr
      exact ⟨n, rfl, h1, h2, k μ1 H1 f1 c1 p⟩
  · rw [Int.zero_add]
    exact hs i τ' μ' (by omega) p
end
end Z
namespace Z
open PySem L2
def seqD (μ : M) : D → Option (List D)
  | .tup ds => some ds
  | .rol ds => some ds
  | .ref a => match μ a with
    | some (.lst ds) => some ds
    | _ => none
  | _ => none
section
variable {K : PySem.W.Frag} {τ : T} {μ μ1 μ2 : M} {H H1 H2 : Hp} {σ : L2.St} {Φ Ψ : D → M → Prop} {ta tb tc te : TE} {r r' : R2} {t u : TT} {x y z d e : D} {N : AEnds} {ts us : TS}
theorem seq_of {v : V} {ds : List D} (c : Con K H μ) (r : Rel K H v d) (h : seqD μ d = some ds) : ∃ a xs, v = .ref a ∧ (SqL K H a xs ∨ SqT K H a xs) ∧ Rels K H xs ds := by
  cases r with
  | tup ht hr => cases h; exact ⟨_, _, rfl, .inr ht.sq, hr⟩
  | rol ht hr => cases h; exact ⟨_, _, rfl, .inl ht.sq, hr⟩
  | ref a =>
    unfold seqD at h
    simp only at h
    split at h
    · rename_i ds' e
      cases h
      obtain ⟨xs, h1, h2⟩ := c _ _ e
      exact ⟨_, xs, rfl, .inl (SqL.of h1), h2⟩
    · cases h
  | non => cases h
  | bl => cases h
  | int => cases h
  | str => cases h
  | ty => cases h
theorem ro_i {f : Int → Int → Int} {i j : Int} (q : Φ (.int (f i j)) μ) : RO K (rI0 fun i j => V.int (f i j)) (.int i) (.int j) μ Φ := fun H x y c r1 r2 Q k => by
  cases r1; cases r2
  exact ⟨i, j, rfl, rfl, k _ μ _ H Fr.refl c (.int _) q⟩
theorem ro_b {f : Int → Int → Bool} {i j : Int} (q : Φ (.bl (f i j)) μ) : RO K (rI0 fun i j => V.bl (f i j)) (.int i) (.int j) μ Φ := fun H x y c r1 r2 Q k => by
  cases r1; cases r2
  exact ⟨i, j, rfl, rfl, k _ μ _ H Fr.refl c (.bl _) q⟩
theorem ro_c {C : Int → Int → Prop} {f : Int → Int → Int} {i j : Int} (hc : C i j) (q : Φ (.int (f i j)) μ) : RO K (rI C fun i j => V.int (f i j)) (.int i) (.int j) μ Φ := fun H x y c r1 r2 Q k => by
  cases r1; cases r2
  exact ⟨i, j, rfl, rfl, hc, k _ μ _ H Fr.refl c (.int _) q⟩
theorem ru_i {f : Int → Int} {i : Int} (q : Φ (.int (f i)) μ) : RU K (rU fun i => V.int (f i)) (.int i) μ Φ := fun H x c r1 Q k => by
  cases r1
  exact ⟨i, rfl, k _ μ _ H Fr.refl c (.int _) q⟩
theorem at_len {xs : List V} {ds : List D} {i : Int} {d : D} (r : Rels K H xs ds) (h : atI ds i = some d) : ∃ v, atI xs i = some v ∧ Rel K H v d := by
  unfold atI at h ⊢
  rw [r.length]
  cases e : ixN ds.length i with
  | none => rw [e] at h; cases h
  | some j =>
    rw [e] at h
    exact r.get h
theorem ro_ix {ds : List D} {i : Int} (hs : seqD μ d = some ds) (hi : atI ds i = some e) (q : Φ e μ) : RO K (rIx K) d (.int i) μ Φ := fun H x y c r1 r2 Q k => by
  cases r2
  obtain ⟨a, xs, rfl, hq, hr⟩ := seq_of c r1 hs
  obtain ⟨v, hv, rv⟩ := at_len hr hi
  rcases hq with hq | hq
  · exact .inl ⟨a, xs, i, v, rfl, rfl, hq, hv, k e μ v H Fr.refl c rv q⟩
  · exact .inr (.inl ⟨a, xs, i, v, rfl, rfl, hq, hv, k e μ v H Fr.refl c rv q⟩)
theorem set_lst {a : Addr} {ds : List D} {i : Int} {j : Nat} {Θ : M → Prop} (h : μ a = some (.lst ds)) (hi : ixN ds.length i = some j) (q : Θ (μ.set a (.lst (ds.set j d)))) : ASet K rSetL (.ref a) (.int i) d μ Θ := fun H x y v c r1 r2 r3 Q k => by
  cases r1; cases r2
  obtain ⟨xs, hx, hr⟩ := c a _ h
  exact ⟨a, xs, i, j, rfl, rfl, hx, by rw [hr.length]; exact hi, k _ _ (fr_mut h) (con_mut (m' := .lst (ds.set j d)) c h ⟨_, upd_same, Rels.mono (tx_mut c h) _ _ (Rels.set r3 j hr)⟩) q⟩
mutual
def D.py : D → PyData
  | .bl b => .bool b
  | .int i => .int i
  | .str s => .str s
  | .tup ds => .tuple (D.pys ds)
  | _ => .none
def D.pys : List D → List PyData
  | [] => []
  | d :: ds => D.py d :: D.pys ds
end
mutual
/-- None, truths, ints, texts and tuples of them -/
def D.plain : D → Bool
  | .non => true
  | .bl _ => true
  | .int _ => true
  | .str _ => true
  | .tup ds => D.plains ds
  | _ => false
def D.plains : List D → Bool
  | [] => true
  | d :: ds => D.plain d && D.plains ds
end
mutual
theorem Rel.dp : ∀ (d : D) (v : V), Rel K H v d → D.plain d = true → Dp K H v (D.py d)
  | .non, _, .non, _ => by simp only [D.py]; exact .non
  | .bl _, _, .bl b, _ => by simp only [D.py]; exact .bl b
  | .int _, _, .int b, _ => by simp only [D.py]; exact .int b
  | .str _, _, .str b, _ => by simp only [D.py]; exact .str b
  | .tup ds, _, .tup h r, p => by simp only [D.py]; exact .tup h.sq (Rels.dp ds _ r (by simpa only [D.plain] using p))
  | .ty _, _, _, p => by simp [D.plain] at p
  | .ref _, _, _, p => by simp [D.plain] at p
  | .rol _, _, _, p => by simp [D.plain] at p
theorem Rels.dp : ∀ (ds : List D) (vs : List V), Rels K H vs ds → D.plains ds = true → DpAll K H vs (D.pys ds)
  | [], _, .nil, _ => by simp only [D.pys]; exact .nil
  | d :: ds, _, .cons a b, p => by
    simp only [D.plains, Bool.and_eq_true] at p
    simp only [D.pys]
    exact .cons (Rel.dp d _ a p.1) (Rels.dp ds _ b p.2)
end
/-- plain and not too deep -/
def D.ok (d : D) : Bool := D.plain d && SeqAt.shaped (D.py d)
def D.eqv (d e : D) : Bool := PyData.eqv (D.py d) (D.py e)
theorem ro_eqD (h1 : D.ok d = true) (h2 : D.ok e = true) (q : Φ (.bl (D.eqv d e)) μ) : RO K (rEqD K) d e μ Φ := fun H x y c r1 r2 Q k => by
  unfold D.ok at h1 h2
  rw [Bool.and_eq_true] at h1 h2
  exact ⟨_, _, Rel.dp _ _ r1 h1.1, Rel.dp _ _ r2 h2.1, h1.2, h2.2, k _ μ _ H Fr.refl c (.bl _) q⟩
theorem ro_neD (h1 : D.ok d = true) (h2 : D.ok e = true) (q : Φ (.bl (!D.eqv d e)) μ) : RO K (rNeD K) d e μ Φ := fun H x y c r1 r2 Q k => by
  unfold D.ok at h1 h2
  rw [Bool.and_eq_true] at h1 h2
  exact ⟨_, _, Rel.dp _ _ r1 h1.1, Rel.dp _ _ r2 h2.1, h1.2, h2.2, k _ μ _ H Fr.refl c (.bl _) q⟩
theorem ro_eqI {i j : Int} (q : Φ (.bl (decide (i = j))) μ) : RO K rEq (.int i) (.int j) μ Φ := fun H x y c r1 r2 Q k => by
  cases r1; cases r2
  refine ⟨rfl, ?_⟩
  have e : decide (V.int i = V.int j) = decide (i = j) := by simp
  rw [e]
  exact k _ μ _ H Fr.refl c (.bl _) q
theorem ro_neI {i j : Int} (q : Φ (.bl (!decide (i = j))) μ) : RO K rNe (.int i) (.int j) μ Φ := fun H x y c r1 r2 Q k => by
  cases r1; cases r2
  refine ⟨rfl, ?_⟩
  have e : decide (V.int i = V.int j) = decide (i = j) := by simp
  rw [e]
  exact k _ μ _ H Fr.refl c (.bl _) q
theorem ro_eqB {i j : Bool} (q : Φ (.bl (decide (i = j))) μ) : RO K rEq (.bl i) (.bl j) μ Φ := fun H x y c r1 r2 Q k => by
  cases r1; cases r2
  refine ⟨rfl, ?_⟩
  have e : decide (V.bl i = V.bl j) = decide (i = j) := by simp
  rw [e]
  exact k _ μ _ H Fr.refl c (.bl _) q
theorem ro_neB {i j : Bool} (q : Φ (.bl (!decide (i = j))) μ) : RO K rNe (.bl i) (.bl j) μ Φ := fun H x y c r1 r2 Q k => by
  cases r1; cases r2
  refine ⟨rfl, ?_⟩
  have e : decide (V.bl i = V.bl j) = decide (i = j) := by simp
  rw [e]
  exact k _ μ _ H Fr.refl c (.bl _) q
theorem ro_eqS {i j : Str} (q : Φ (.bl (decide (i = j))) μ) : RO K rEq (.str i) (.str j) μ Φ := fun H x y c r1 r2 Q k => by
  cases r1; cases r2
  refine ⟨rfl, ?_⟩
  have e : decide (V.str i = V.str j) = decide (i = j) := by simp
  rw [e]
  exact k _ μ _ H Fr.refl c (.bl _) q
theorem rc_abs {i : Int} (q : Φ (.int (if i < 0 then -i else i)) μ) : RC K (fun xs H Q => ∃ i, xs = [V.int i] ∧ Q (.int (if i < 0 then -i else i)) H) [.int i] μ Φ := fun H xs c r1 Q k => by
  cases r1 with
  | cons a b => cases a; cases b; exact ⟨i, rfl, k _ μ _ H Fr.refl c (.int _) q⟩
theorem rc_max {i j : Int} (q : Φ (.int (if j > i then j else i)) μ) : RC K (fun xs H Q => ∃ i j, xs = [V.int i, V.int j] ∧ Q (.int (if j > i then j else i)) H) [.int i, .int j] μ Φ := fun H xs c r1 Q k => by
  cases r1 with
  | cons a b => cases a; cases b with
    | cons a b => cases a; cases b; exact ⟨i, j, rfl, k _ μ _ H Fr.refl c (.int _) q⟩
theorem rc_min {i j : Int} (q : Φ (.int (if j < i then j else i)) μ) : RC K (fun xs H Q => ∃ i j, xs = [V.int i, V.int j] ∧ Q (.int (if j < i then j else i)) H) [.int i, .int j] μ Φ := fun H xs c r1 Q k => by
  cases r1 with
  | cons a b => cases a; cases b with
    | cons a b => cases a; cases b; exact ⟨i, j, rfl, k _ μ _ H Fr.refl c (.int _) q⟩
theorem rc_intB {b : Bool} (q : Φ (.int (if b then 1 else 0)) μ) : RC K (fun xs H Q => (∃ i, xs = [V.int i] ∧ Q (.int i) H) ∨ ∃ k, xs = [V.bl k] ∧ Q (.int (if k then 1 else 0)) H) [.bl b] μ Φ := fun H xs c r1 Q k => by
  cases r1 with
  | cons a b => cases a; cases b; exact .inr ⟨_, rfl, k _ μ _ H Fr.refl c (.int _) q⟩
theorem rc_intI {b : Int} (q : Φ (.int b) μ) : RC K (fun xs H Q => (∃ i, xs = [V.int i] ∧ Q (.int i) H) ∨ ∃ k, xs = [V.bl k] ∧ Q (.int (if k then 1 else 0)) H) [.int b] μ Φ := fun H xs c r1 Q k => by
  cases r1 with
  | cons a b => cases a; cases b; exact .inl ⟨_, rfl, k _ μ _ H Fr.refl c (.int _) q⟩
theorem rc_len {ds : List D} (h : seqD μ d = some ds) (q : Φ (.int ds.length) μ) : RC K (fun xs H Q => ∃ x n, xs = [x] ∧ LenV K x H n ∧ Q (.int n) H) [d] μ Φ := fun H xs c r1 Q k => by
  cases r1 with
  | cons a b =>
    cases b
    obtain ⟨p, xs, rfl, hq, hr⟩ := seq_of c a h
    refine ⟨_, ds.length, rfl, ?_, k _ μ _ H Fr.refl c (.int _) q⟩
    rcases hq with hq | hq
    · exact .inl ⟨xs, hq, hr.length.symm⟩
    · exact .inr ⟨xs, hq, hr.length.symm⟩
theorem rc_lenS {s : Str} (h : s.length ≤ sizeLine) (q : Φ (.int s.length) μ) : RC K (fun xs H Q => ∃ x n, xs = [x] ∧ LenV K x H n ∧ Q (.int n) H) [.str s] μ Φ := fun H xs c r1 Q k => by
  cases r1 with
  | cons a b => cases a; cases b; exact ⟨_, _, rfl, ⟨h, rfl⟩, k _ μ _ H Fr.refl c (.int _) q⟩
theorem rc_tuple {ds : List D} (h : seqD μ d = some ds) (q : Φ (.tup ds) μ) : RC K (fun xs H Q => ∃ p ys, xs = [V.ref p] ∧ ((SqL K H p ys ∧ ∀ l, H l = none → Q (.ref l) (upd H l (.tup ys))) ∨ (SqT K H p ys ∧ Q (.ref p) H))) [d] μ Φ := fun H xs c r1 Q k => by
  cases r1 with
  | cons a b =>
    cases b
    cases a with
    | tup ht hr =>
      cases h
      exact ⟨_, _, rfl, .inr ⟨ht.sq, k _ μ _ H Fr.refl c (.tup ht hr) q⟩⟩
    | rol ht hr =>
      cases h
      exact ⟨_, _, rfl, .inl ⟨ht.sq, fun l hl => k _ μ _ _ (fr_new hl) (con_new hl c) (.tup (.inl upd_same) (Rels.mono (tx_new hl) _ _ hr)) q⟩⟩
    | ref p =>
      unfold seqD at h
      simp only at h
      split at h
      · rename_i ds' e
        cases h
        obtain ⟨xs, hx, hr⟩ := c _ _ e
        exact ⟨_, xs, rfl, .inl ⟨SqL.of hx, fun l hl => k _ μ _ _ (fr_new hl) (con_new hl c) (.tup (.inl upd_same) (Rels.mono (tx_new hl) _ _ hr)) q⟩⟩
      · cases h
    | non => cases h
    | bl => cases h
    | int => cases h
    | str => cases h
    | ty => cases h
theorem rc_list {ds : List D} (h : seqD μ d = some ds) (q : ∀ p, μ p = none → Φ (.ref p) (μ.set p (.lst ds))) : RC K (fun xs H Q => ∃ p ys, xs = [V.ref p] ∧ (SqL K H p ys ∨ SqT K H p ys) ∧ ∀ l, H l = none → Q (.ref l) (upd H l (.lst ys))) [d] μ Φ := fun H xs c r1 Q k => by
  cases r1 with
  | cons a b =>
    cases b
    obtain ⟨p, xs, rfl, hq, hr⟩ := seq_of c a h
    exact ⟨p, xs, rfl, hq, fun l hl => k _ _ _ _ (fr_put hl) (con_put (m := .lst ds) hl c ⟨xs, upd_same, Rels.mono (tx_new hl) _ _ hr⟩) (.ref l) (q l (c.free hl))⟩
theorem rels_bl : ∀ {xs : List V} {bs : List Bool}, Rels K H xs (bs.map D.bl) → xs = bs.map V.bl
  | [], [], .nil => rfl
  | _ :: _, _ :: _, .cons a b => by cases a; rw [rels_bl b]; rfl
theorem rc_all {a : Addr} {bs : List Bool} (h : μ a = some (.lst (bs.map D.bl))) (q : Φ (.bl (bs.all id)) μ) : RC K (rAll K) [.ref a] μ Φ := fun H xs c r1 Q k => by
  cases r1 with
  | cons r b =>
    cases r; cases b
    obtain ⟨xs, hx, hr⟩ := c _ _ h
    have e := rels_bl hr
    subst e
    exact ⟨a, bs, rfl, SqL.of hx, k _ μ _ H Fr.refl c (.bl _) q⟩
end
end Z
namespace Z
open PySem L2
/-- a promise by what it asks and gives over the store: P args store wish -/
abbrev PT3 := List D → M → (D → M → Prop) → Prop
def spI (K : PySem.W.Frag) (P : PT3) : Sp := fun vs H Q _ => ∃ ds μ Φ, Rels K H vs ds ∧ Z.Con K H μ ∧ P ds μ Φ ∧ ∀ d μ' v H', Fr μ μ' H H' → Z.Con K H' μ' → Rel K H' v d → Φ d μ' → Q v H'
def startD (n : Nat) (ds : List D) : T := ds.map some ++ List.replicate (n - ds.length) none
section
variable {K : PySem.W.Frag} {τ : T} {μ μ1 μ2 : M} {H H1 H2 : Hp} {σ : L2.St} {Φ Ψ : D → M → Prop} {ta tb tc te : TE} {r r' : R2} {t u : TT} {x y z d e : D} {N : AEnds} {ts us : TS} {P : PT3} {E : XK}
theorem slots_start {Ns : List Str} : ∀ {vs : List V} {ds : List D}, Rels K H vs ds → Slots K H (startD Ns.length ds) (L2.start Ns vs) := by
  intro vs ds r
  have hl := r.length
  refine ⟨by unfold startD L2.start; simp only [List.length_append, List.length_map, List.length_replicate]; omega, fun i d e => ?_⟩
  unfold startD at e
  by_cases hi : i < ds.length
  · rw [List.getElem?_append_left (by rw [List.length_map]; exact hi), List.getElem?_map] at e
    cases q : ds[i]? with
    | none => rw [q] at e; cases e
    | some d' =>
      rw [q] at e
      have e2 : d' = d := Option.some.inj (Option.some.inj e)
      subst e2
      obtain ⟨v, h1, h2⟩ := r.get q
      refine ⟨v, ?_, h2⟩
      unfold L2.start
      rw [List.getElem?_append_left (by rw [List.length_map]; omega), List.getElem?_map, h1]
      rfl
  · rw [List.getElem?_append_right (by rw [List.length_map]; omega), List.getElem?_replicate] at e
    split at e <;> cases e
theorem spI_len {vs : List V} {Q : VK} {n : Nat} (h : spI K P vs H Q E) (hn : ∀ ds μ Φ, P ds μ Φ → ds.length = n) : vs.length = n := by
  obtain ⟨ds, μ, Φ, r, _, p, _⟩ := h
  rw [r.length]; exact hn _ _ _ p
/-- a body keeps its promise -/
theorem body_ok {Ns : List Str} {vs : List V} {Q : VK} (h : spI K P vs H Q E) (hb : ∀ ds μ Φ, P ds μ Φ → AS K ts (startD Ns.length ds) μ { nx := fun _ μ' => Φ .non μ', rt := Φ }) :
    ts { nx := fun _ H' => Q .non H', rt := Q } (L2.start Ns vs) H := by
  obtain ⟨ds, μ, Φ, r, c, p, k⟩ := h
  exact hb ds μ Φ p _ H (slots_start r) c _ ⟨fun _ μ' _ H' f c' _ q => k .non μ' .non H' f c' .non q, fun d μ' v H' f c' r' q => k d μ' v H' f c' r' q, fun _ _ _ _ _ _ _ q => q.elim, fun _ _ _ _ _ _ _ q => q.elim, fun _ _ _ _ _ _ _ _ _ _ _ q => q.elim⟩
/-- a call -/
theorem a_call {ta : TA} (h : AA K ta τ μ fun ds μ1 => P ds μ1 Φ) : AE K (tCall (spI K P) [] E ta) τ μ Φ := fun σ H s c Q k =>
  h σ H s c _ fun ds μ1 vs H1 f1 c1 r1 p => by
    show spI K P (vs ++ []) H1 Q E
    rw [List.append_nil]
    exact ⟨ds, μ1, Φ, r1, c1, p, fun d μ' v H' f c' r q => k d μ' v H' (f1.trans f) c' r q⟩
/-- a field -/
theorem look_rel {f : Str} : ∀ {vs : List (Str × V)} {fs : List (Str × D)}, RelKV K H vs fs → fs.lookup f = some d → ∃ v, vs.lookup f = some v ∧ Rel K H v d := by
  intro vs fs r
  induction r with
  | nil => intro h; cases h
  | cons a _ ih =>
    rename_i p q ps qs _
    obtain ⟨e1, e2⟩ := a
    intro h
    rw [List.lookup_cons] at h ⊢
    rw [e1]
    split at h
    · rename_i hb
      cases h
      exact ⟨_, by simp [hb], e2⟩
    · rename_i hb
      obtain ⟨v, h1, h2⟩ := ih h
      exact ⟨v, by simp [hb, h1], h2⟩
theorem a_fld {f : Str} (h : AE K te τ μ fun o μ1 => ∃ a C dx fs, o = .ref a ∧ μ1 a = some (.ins C dx fs) ∧ Cls K C ∧ NoAttr K C f ∧ ∃ d, fs.lookup f = some d ∧ Φ d μ1) : AE K (tFld K te f) τ μ Φ := fun σ H s c Q k =>
  h σ H s c _ fun o μ1 v H1 f1 c1 r1 ⟨a, C, dx, fs, e, ha, hc, hn, d, hl, q⟩ => by
    subst e
    cases r1
    obtain ⟨vs, hv, hr⟩ := c1 a _ ha
    obtain ⟨w, hw, rw'⟩ := look_rel hr hl
    exact ⟨a, C, dx, vs, w, rfl, hv, hc, hn, hw, k d μ1 w H1 f1 c1 rw' q⟩
/-- o.f = e -/
def putD (f : Str) (d : D) : List (Str × D) → List (Str × D)
  | [] => [(f, d)]
  | (g, x) :: r => if g = f then (g, d) :: r else (g, x) :: putD f d r
theorem put_rel {f : Str} {v : V} (r : Rel K H v d) : ∀ {vs : List (Str × V)} {fs : List (Str × D)}, RelKV K H vs fs → RelKV K H (putF f v vs) (putD f d fs)
  | _, _, .nil => .cons ⟨rfl, r⟩ .nil
  | (g, x) :: vs, (g', y) :: fs, .cons a b => by
    obtain ⟨e1, e2⟩ := a
    have e1 : g = g' := e1
    subst e1
    unfold putF putD
    by_cases hg : g = f
    · rw [if_pos hg, if_pos hg]; exact .cons ⟨rfl, r⟩ b
    · rw [if_neg hg, if_neg hg]; exact .cons ⟨rfl, e2⟩ (put_rel r b)
theorem s_fld {f : Str} (h : AE K tb τ μ fun d μ1 => AE K te τ μ1 fun o μ2 => ∃ a C dx fs, o = .ref a ∧ μ2 a = some (.ins C dx fs) ∧ Cls K C ∧ NoAttr K C f ∧ fs.length < 1000 ∧ N.nx τ (μ2.set a (.ins C dx (putD f d fs)))) :
    AS K (sFld K te tb f) τ μ N := fun σ H s c E k =>
  h σ H s c _ fun d μ1 v H1 f1 c1 r1 p1 => p1 σ H1 (s.mono (f1.tx c)) c1 _ fun o μ2 w H2 f2 c2 r2 ⟨a, C, dx, fs, e, ha, hc, hn, hz, q⟩ => by
    subst e
    cases r2
    obtain ⟨vs, hv, hr⟩ := c2 a _ ha
    refine ⟨a, C, dx, vs, rfl, hv, hc, hn, ?_, ?_⟩
    · have len : ∀ {vs : List (Str × V)} {fs : List (Str × D)}, RelKV K H2 vs fs → vs.length = fs.length := by
        intro vs fs r
        induction r with
        | nil => rfl
        | cons _ _ ih => rw [List.length_cons, List.length_cons, ih]
      rw [len hr]; exact hz
    · have fr := fr_mut (H := H2) (o := .ins C dx (putF f v vs)) (m' := .ins C dx (putD f d fs)) ha
      exact k.nx τ _ σ _ ((f1.trans f2).trans fr) (con_mut c2 ha ⟨_, upd_same, put_rel (Rel.mono ((f2.trans fr).tx c1) _ _ r1) (RelKV.mono (tx_mut c2 ha) hr)⟩) (s.mono (((f1.trans f2).trans fr).tx c)) q
end
end Z
namespace Z
open PySem L2
def sets {α : Type} : List (Option α) → List Nat → List α → List (Option α)
  | l, j :: js, d :: ds => sets (l.set j (some d)) js ds
  | l, _, _ => l
theorem wipe_at (σ : L2.St) (i : Nat) : ∀ vs : List Nat, (wipe σ vs)[i]? = if i ∈ vs then (σ[i]?).map fun _ => none else σ[i]?
  | [] => by simp [wipe]
  | v :: vs => by
    have ih := wipe_at σ i vs
    unfold wipe
    by_cases h : v = i
    · subst h
      rw [if_pos (List.mem_cons_self)]
      by_cases hl : v < (wipe σ vs).length
      · rw [List.getElem?_set_self hl]
        rw [wipe_length] at hl
        rw [List.getElem?_eq_getElem hl]
        rfl
      · rw [List.getElem?_eq_none (by rw [List.length_set]; omega)]
        rw [wipe_length] at hl
        rw [List.getElem?_eq_none (by omega)]
        rfl
    · rw [List.getElem?_set_ne h, ih]
      have e : (i ∈ v :: vs) = (i ∈ vs) := by
        rw [List.mem_cons]
        exact propext ⟨fun q => q.elim (fun z => absurd z.symm h) id, .inr⟩
      simp only [e]
theorem wipe_set {σ : L2.St} {j : Nat} {x : Option V} {vs : List Nat} (h : j ∈ vs) : wipe (σ.set j x) vs = wipe σ vs := by
  apply List.ext_getElem?
  intro i
  rw [wipe_at, wipe_at]
  by_cases hi : i ∈ vs
  · rw [if_pos hi, if_pos hi]
    by_cases e : j = i
    · subst e
      by_cases hl : j < σ.length
      · rw [List.getElem?_set_self hl, List.getElem?_eq_getElem hl]; rfl
      · rw [List.getElem?_eq_none (by rw [List.length_set]; omega), List.getElem?_eq_none (by omega)]
    · rw [List.getElem?_set_ne e]
  · rw [if_neg hi, if_neg hi, List.getElem?_set_ne (fun z => hi (by rw [← z]; exact h))]
theorem wipe_wipe {σ : L2.St} {vs : List Nat} : wipe (wipe σ vs) vs = wipe σ vs := by
  apply List.ext_getElem?
  intro i
  rw [wipe_at]
  by_cases hi : i ∈ vs
  · rw [if_pos hi, wipe_at, if_pos hi]
    cases σ[i]? <;> rfl
  · rw [if_neg hi]
theorem wipe_sets {vs : List Nat} : ∀ {σ : L2.St} {js : List Nat} {xs : List V}, (∀ j ∈ js, j ∈ vs) → wipe (sets σ js xs) vs = wipe σ vs
  | σ, [], xs, _ => by unfold sets; rfl
  | σ, j :: js, [], _ => by unfold sets; rfl
  | σ, j :: js, x :: xs, h => by
    unfold sets
    rw [wipe_sets (fun k hk => h k (List.mem_cons_of_mem _ hk)), wipe_set (h j List.mem_cons_self)]
section
variable {K : PySem.W.Frag} {τ : T} {μ μ1 μ2 : M} {H H1 H2 H' : Hp} {σ : L2.St} {Φ Ψ : D → M → Prop} {ta tb tc te : TE} {r r' : R2} {tt : TT} {x y z d e : D} {N : AEnds} {ts us : TS}
theorem slots_sets : ∀ {js : List Nat} {ds : List D} {vs : List V} {τ : T} {σ : L2.St}, Rels K H vs ds → Slots K H τ σ → Slots K H (sets τ js ds) (sets σ js vs)
  | [], _, _, _, _, _, s => by unfold sets; exact s
  | j :: js, _, _, _, _, .nil, s => by unfold sets; exact s
  | j :: js, _, _, _, _, .cons a b, s => by unfold sets; exact slots_sets b (s.set a j)
/-- the slots of a block: all of vs are stored by the target -/
theorem slots_block {js : List Nat} {ds : List D} {vs : List V} (s : Slots K H τ σ) (r : Rels K H vs ds) (hl : ds.length = js.length) : Slots K H (sets τ js ds) (sets (wipe σ js) js vs) := by
  refine Hold.out ?_
  simp (disch := (
  refine Hold.as ?_
  with_unfolding_all (
  -- a slot that js stores does not hang on what stood there
  have same : ∀ (js0 : List Nat) (js : List Nat) (vs : List V) (σ σ' : L2.St), σ.length = σ'.length → js.length = vs.length → (∀ i, i ∉ js → i ∉ js0 → σ[i]? = σ'[i]?) → (∀ i, i ∈ js0 → i ∉ js → σ[i]? = σ'[i]?) → sets σ js vs = sets σ' js vs := by
    intro js0 js
    induction js with
    | nil =>
      intro vs σ σ' hL _ h1 h2
      unfold sets
      apply List.ext_getElem?
      intro i
      by_cases hi : i ∈ js0
      · exact h2 i hi (by simp)
      · exact h1 i (by simp) hi
    | cons j js ih =>
      intro vs σ σ' hL hV h1 h2
      cases vs with
      | nil => simp at hV
      | cons v vs =>
        unfold sets
        refine ih vs _ _ (by simp [hL]) (by simpa using hV) (fun i hi hi0 => ?_) (fun i hi0 hi => ?_)
        · by_cases e : j = i
          · subst e
            by_cases hl : j < σ.length
            · rw [List.getElem?_set_self hl, List.getElem?_set_self (by omega)]
            · rw [List.getElem?_eq_none (by simp; omega), List.getElem?_eq_none (by simp; omega)]
          · rw [List.getElem?_set_ne e, List.getElem?_set_ne e]
            exact h1 i (by simp [hi]; exact fun z => e z.symm) hi0
        · by_cases e : j = i
          · subst e
            by_cases hl : j < σ.length
            · rw [List.getElem?_set_self hl, List.getElem?_set_self (by omega)]
            · rw [List.getElem?_eq_none (by simp; omega), List.getElem?_eq_none (by simp; omega)]
          · rw [List.getElem?_set_ne e, List.getElem?_set_ne e]
            exact h2 i hi0 (by simp [hi]; exact fun z => e z.symm)
  have e : sets (wipe σ js) js vs = sets σ js vs := by
    refine same [] js vs _ _ (by rw [wipe_length]) (by rw [r.length, hl]) (fun i hi _ => ?_) (fun i hi _ => by simp at hi)
    rw [wipe_at, if_neg hi]
  rw [e]
  exact slots_sets r s))) only [↓Hold.on]
/-- how a target takes an item apart -/
def TgOk (K : PySem.W.Frag) (g : TG) (js : List Nat) (dec : D → List D → Prop) : Prop :=
  ∀ d ds v σ H, dec d ds → Rel K H v d → ∀ Q : L2.St → Hp → Prop, (∀ vs, Rels K H vs ds → Q (sets σ js vs) H) → g v σ H Q
theorem tg_name {j : Nat} : TgOk K (gName j) [j] fun d ds => ds = [d] := fun d ds v σ H h r Q q => by
  subst h
  exact q [v] (.cons r .nil)
theorem tg_2 {i j : Nat} : TgOk K (gTup K 2 (gCons (gName i) (gCons (gName j) gNil))) [i, j] fun d ds => d = .tup ds ∧ ds.length = 2 := fun d ds v σ H h r Q q => by
  obtain ⟨e, hl⟩ := h
  subst e
  cases r with
  | @tup a xs _ ht hr =>
    have hx := hr.length
    match xs, hx.trans hl with
    | [x, y], _ => exact ⟨a, _, rfl, ht.sq, rfl, x, _, rfl, y, _, rfl, rfl, q _ hr⟩
theorem tg_3 {i j k : Nat} : TgOk K (gTup K 3 (gCons (gName i) (gCons (gName j) (gCons (gName k) gNil)))) [i, j, k] fun d ds => d = .tup ds ∧ ds.length = 3 := fun d ds v σ H h r Q q => by
  obtain ⟨e, hl⟩ := h
  subst e
  cases r with
  | @tup a xs _ ht hr =>
    have hx := hr.length
    match xs, hx.trans hl with
    | [x, y, z], _ => exact ⟨a, _, rfl, ht.sq, rfl, x, _, rfl, y, _, rfl, z, _, rfl, rfl, q _ hr⟩
theorem tg_4 {i j k l : Nat} : TgOk K (gTup K 4 (gCons (gName i) (gCons (gName j) (gCons (gName k) (gCons (gName l) gNil))))) [i, j, k, l] fun d ds => d = .tup ds ∧ ds.length = 4 := fun d ds v σ H h r Q q => by
  obtain ⟨e, hl⟩ := h
  subst e
  cases r with
  | @tup a xs _ ht hr =>
    have hx := hr.length
    match xs, hx.trans hl with
    | [x, y, z, w], _ => exact ⟨a, _, rfl, ht.sq, rfl, x, _, rfl, y, _, rfl, z, _, rfl, w, _, rfl, rfl, q _ hr⟩
/-- what a turn of a comprehension must show -/
def LcTurn (K : PySem.W.Frag) (τ : T) (tt : TT) (te : TE) (js : List Nat) (dec : D → List D → Prop) (x : D) (acc : List D) (μ : M) (P : List D → M → Prop) : Prop :=
  ∃ xs, dec x xs ∧ xs.length = js.length ∧ AT K tt (sets τ js xs) μ fun b μ1 => if b = true then AE K te (sets τ js xs) μ1 fun y μ2 => acc.length < sizeLine ∧ P (acc ++ [y]) μ2 else P acc μ1
/-- the list that is made is at Dl, outside of the store -/
structure LcAt (K : PySem.W.Frag) (Dl : Addr) (μ0 : M) (H0 : Hp) (acc : List D) (μ' : M) (H' : Hp) : Prop where
  fr : Fr μ0 μ' H0 H'
  con : Z.Con K H' μ'
  no : μ' Dl = none
  at_ : ∃ vs, H' Dl = some (.lst vs) ∧ Rels K H' vs acc
theorem upd_out {Dl : Addr} {vs : List V} {o : HO} (c : Z.Con K H μ) (no : μ Dl = none) (h : H Dl = some (.lst vs)) (ho : ∀ xs, o ≠ .tup xs) : Tx H (upd H Dl o) ∧ Z.Con K (upd H Dl o) μ := by
  have t : Tx H (upd H Dl o) := ⟨fun a xs e => by rw [upd_ne (fun z => by subst z; rw [h] at e; cases e)]; exact e, fun a ob xs e => by rw [upd_ne (fun z => by subst z; rw [h] at e; cases e)]; exact e,
    fun a q e => by rw [upd_ne (fun z => by subst z; rw [h] at e; unfold LamX.CodeO at e; cases e)]; exact e⟩
  exact ⟨t, fun a m e => (c a m e).mono t (upd_ne (fun z => by subst z; rw [no] at e; cases e))⟩
theorem lc_step {g : TG} {js : List Nat} {dec : D → List D → Prop} {Dl : Addr} {μ0 μ' : M} {H0 : Hp} {acc : List D} {P : List D → M → Prop} {Nx : Hp → Prop} {v : V} (hD : H0 Dl = none) (hg : TgOk K g js dec) (s : Slots K H0 τ σ) (c0 : Z.Con K H0 μ0) (L : LcAt K Dl μ0 H0 acc μ' H') (rx : Rel K H' v x) (ht : LcTurn K τ tt te js dec x acc μ' P)
    (hn : ∀ acc2 μ2 H2, LcAt K Dl μ0 H0 acc2 μ2 H2 → P acc2 μ2 → Nx H2) :
    g v (wipe σ js) H' fun σ2 H2 => wipe σ2 js = wipe σ js ∧ tt σ2 H2 fun b H3 => if b = true then te σ2 H3 fun y H4 => ∃ acc, H4 Dl = some (.lst acc) ∧ acc.length < sizeLine ∧ Nx (upd H4 Dl (.lst (acc ++ [y]))) else Nx H3 := by
  obtain ⟨xs, hd, hl, ht⟩ := ht
  obtain ⟨vs0, hv0, hr0⟩ := L.at_
  refine hg x xs v _ H' hd rx _ fun vs hvs => ⟨by rw [wipe_sets (fun _ h => h), wipe_wipe], ?_⟩
  have s' : Slots K H' (sets τ js xs) (sets (wipe σ js) js vs) := slots_block (s.mono (L.fr.tx c0)) hvs hl
  refine ht _ H' s' L.con _ fun b μ1 H1 f1 c1 p => ?_
  have n1 : μ1 Dl = none := (f1 Dl _ L.no hv0).2
  have h1 : H1 Dl = some (.lst vs0) := (f1 Dl _ L.no hv0).1
  cases b with
  | false => exact hn acc μ1 H1 ⟨L.fr.trans f1, c1, n1, vs0, h1, Rels.mono (f1.tx L.con) _ _ hr0⟩ p
  | true =>
    refine (show AE K te _ μ1 _ from p) _ H1 (s'.mono (f1.tx L.con)) c1 _ fun y μ2 w H2 f2 c2 r2 ⟨hz, p2⟩ => ?_
    have n2 : μ2 Dl = none := (f2 Dl _ n1 h1).2
    have h2 : H2 Dl = some (.lst vs0) := (f2 Dl _ n1 h1).1
    have hr2 : Rels K H2 vs0 acc := Rels.mono ((f1.trans f2).tx L.con) _ _ hr0
    obtain ⟨t3, c3⟩ := upd_out (o := .lst (vs0 ++ [w])) c2 n2 h2 (fun _ z => by cases z)
    refine ⟨vs0, h2, by rw [hr0.length]; exact hz, hn _ μ2 _ ⟨fun a o n e => ?_, c3, n2, _, upd_same, Rels.mono t3 _ _ (hr2.append (.cons r2 .nil))⟩ p2⟩
    have f := (L.fr.trans f1).trans f2
    obtain ⟨e2, m2⟩ := f a o n e
    exact ⟨by rw [upd_ne (ne_of_none e hD)]; exact e2, m2⟩
theorem lc_start {Dl : Addr} (c : Z.Con K H μ) (hD : H Dl = none) : LcAt K Dl μ H [] μ (upd H Dl (.lst [])) :=
  ⟨fr_new hD, con_new hD c, c.free hD, [], upd_same, .nil⟩
theorem lc_end {Dl : Addr} {μ0 μ' : M} {H0 : Hp} {acc : List D} (hD : H0 Dl = none) (L : LcAt K Dl μ0 H0 acc μ' H') : Fr μ0 (μ'.set Dl (.lst acc)) H0 H' ∧ Z.Con K H' (μ'.set Dl (.lst acc)) := by
  obtain ⟨vs, hv, hr⟩ := L.at_
  refine ⟨fun a o n e => ?_, con_back (m := .lst acc) L.con ⟨vs, hv, hr⟩⟩
  obtain ⟨e2, m2⟩ := L.fr a o n e
  exact ⟨e2, by rw [set_ne (ne_of_none e hD)]; exact m2⟩
/-- pure elements: a filter and a map -/
theorem at_yes {Θ : Bool → M → Prop} (h : Θ true μ) : AT K tYes τ μ Θ := fun σ H s c Q k => k true μ H Fr.refl c h
end
end Z
namespace Z
open PySem L2
section
variable {K : PySem.W.Frag} {τ : T} {μ μ1 μ2 : M} {H H1 H2 H' : Hp} {σ : L2.St} {Φ Ψ : D → M → Prop} {ta tb tc te : TE} {r r' : R2} {tt : TT} {x y z d e : D} {N : AEnds} {ts us : TS}
theorem s_par3 {i j l : Nat} {ta : TA} (h : AA K ta τ μ fun ds μ' => ∃ d e w, ds = [d, e, w] ∧ N.nx (((τ.set i (some d)).set j (some e)).set l (some w)) μ') : AS K (tPar3 i j l ta) τ μ N := fun σ H s c E k =>
  h σ H s c _ fun ds μ' vs H' f c' r ⟨d, e, w, q, p⟩ => by
    subst q
    cases r with
    | cons r1 r2 =>
      cases r2 with
      | cons r2 r3 =>
        cases r3 with
        | cons r3 r4 =>
          cases r4
          exact ⟨_, _, _, rfl, k.nx _ μ' _ H' f c' ((((s.mono (f.tx c)).set r1 i).set r2 j).set r3 l) p⟩
def tyn (μ : M) : D → Option String
  | .non => some "NoneType"
  | .bl _ => some "bool"
  | .int _ => some "int"
  | .str _ => some "str"
  | .tup _ => some "tuple"
  | .rol _ => some "list"
  | .ref a => match μ a with
    | some (.lst _) => some "list"
    | some (.dK _) => some "dict"
    | some (.dT _) => some "dict"
    | _ => none
  | .ty _ => none
theorem tyx_of {v : V} {n : String} (c : Z.Con K H μ) (r : Rel K H v d) (h : tyn μ d = some n) : TyX K H v (.type n) := by
  cases r with
  | non => cases h; exact .base .non
  | bl => cases h; exact .base (.bl _)
  | int => cases h; exact .base (.int _)
  | str => cases h; exact .base (.str _)
  | ty => cases h
  | tup ht hr =>
    cases h
    cases ht with
    | inl ht => exact .base (.tup ht)
  | rol ht hr =>
    cases h
    rcases ht with ⟨o, ht⟩ | ⟨o, its, m, h1, h2, _⟩
    · exact .base (.frz ht)
    · exact .kList h1 h2
  | ref a =>
    unfold tyn at h
    simp only at h
    split at h
    · rename_i e; cases h; obtain ⟨xs, hx, _⟩ := c _ _ e; exact .base (.lst hx)
    · rename_i e; cases h; obtain ⟨xs, hx, _⟩ := c _ _ e; exact .base (.dK hx)
    · rename_i e; cases h; obtain ⟨xs, hx, _⟩ := c _ _ e; exact .base (.dT hx)
    · cases h
theorem rc_isi {n m : String} {b : Bool} (h : tyn μ d = some n) (hk : kitB n m = some b) (q : Φ (.bl b) μ) : RC K (rIsi K) [d, .ty m] μ Φ := fun H xs c r1 Q k => by
  cases r1 with
  | cons a r2 =>
    cases r2 with
    | cons a2 r3 =>
      cases a2; cases r3
      exact ⟨_, _, .type n, .type m, b, rfl, .ty m, tyx_of c a h, kit_ty hk, k _ μ _ H Fr.refl c (.bl _) q⟩
theorem a_chain (h : AE K ta τ μ fun d μ1 => AE K tb τ μ1 fun e μ2 => RO K r d e μ2 fun z μ3 => ∃ b, z = .bl b ∧ if b = true then AE K tc τ μ3 fun w μ4 => RO K r' e w μ4 Φ else Φ (.bl false) μ3) : AE K (tChain r r' ta tb tc) τ μ Φ := fun σ H s c Q k =>
  h σ H s c _ fun d μ1 v H1 f1 c1 r1 p1 => p1 σ H1 (s.mono (f1.tx c)) c1 _ fun e μ2 u H2 f2 c2 r2 p2 =>
    p2 H2 v u c2 (Rel.mono (f2.tx c1) _ _ r1) r2 _ fun z μ3 w H3 f3 c3 rz ⟨b, ez, p3⟩ => by
      subst ez
      cases rz
      refine ⟨b, rfl, ?_⟩
      cases b with
      | false => exact k _ μ3 _ H3 ((f1.trans f2).trans f3) c3 (.bl false) (show Φ (.bl false) μ3 from p3)
      | true =>
        exact (show AE K tc τ μ3 _ from p3) σ H3 (s.mono (((f1.trans f2).trans f3).tx c)) c3 _ fun w μ4 w' H4 f4 c4 r4 p4 =>
          p4 H4 u w' c4 (Rel.mono ((f3.trans f4).tx c2) _ _ r2) r4 Q fun z μ5 o H5 f5 c5 rz pz => k z μ5 o H5 ((((f1.trans f2).trans f3).trans f4).trans f5) c5 rz pz
def rInS (K : PySem.W.Frag) (neg : Bool) : R2 := fun x y H Q => ∃ d ds, Dp K H x d ∧ (Dp K H y (.list ds) ∨ Dp K H y (.tuple ds)) ∧ SeqAt.shaped d = true ∧ SeqAt.shaped (.list ds) = true ∧ Q (.bl (if neg then !ds.any fun z => PyData.eqv z d else ds.any fun z => PyData.eqv z d)) H
theorem seq_dp {v : V} {ds : List D} (c : Z.Con K H μ) (r : Rel K H v d) (h : seqD μ d = some ds) (hp : D.plains ds = true) : Dp K H v (.list (D.pys ds)) ∨ Dp K H v (.tuple (D.pys ds)) := by
  cases r with
  | tup ht hr => cases h; exact .inr (.tup ht.sq (Rels.dp _ _ hr hp))
  | rol ht hr => cases h; exact .inl (.lst ht.sq (Rels.dp _ _ hr hp))
  | ref a =>
    unfold seqD at h
    simp only at h
    split at h
    · rename_i ds' e
      cases h
      obtain ⟨xs, h1, h2⟩ := c _ _ e
      exact .inl (.lst (SqL.of h1) (Rels.dp _ _ h2 hp))
    · cases h
  | non => cases h
  | bl => cases h
  | int => cases h
  | str => cases h
  | ty => cases h
def inD (d : D) (ds : List D) : Bool := ds.any fun z => D.eqv z d
theorem inD_pys (d : D) : ∀ ds : List D, (D.pys ds).any (fun z => PyData.eqv z (D.py d)) = inD d ds
  | [] => by simp [D.pys, inD]
  | x :: ds => by
    have ih := inD_pys d ds
    unfold inD at ih ⊢
    simp only [D.pys, List.any_cons, ih]
    rfl
theorem ro_inS {neg : Bool} {ds : List D} (hs : seqD μ e = some ds) (h1 : D.ok d = true) (h2 : D.ok (.tup ds) = true) (q : Φ (.bl (if neg then !inD d ds else inD d ds)) μ) : RO K (rInS K neg) d e μ Φ := fun H x y c r1 r2 Q k => by
  unfold D.ok at h1 h2
  rw [Bool.and_eq_true] at h1 h2
  have p2 : D.plains ds = true := by simpa only [D.plain] using h2.1
  refine ⟨_, D.pys ds, Rel.dp _ _ r1 h1.1, seq_dp c r2 hs p2, h1.2, ?_, ?_⟩
  · have h3 := h2.2
    simp only [D.py] at h3
    exact h3
  · rw [inD_pys]
    exact k _ μ _ H Fr.refl c (.bl _) q
end
/-- a def of the text with its promise -/
structure Def (P : Program) (w : World) (K : PySem.W.Frag) (mg : Str → Option Value) (base : Heap) (x : Str) (ps : List Str) (k : Nat) (sp : Sp) : Prop where
  ex : ∃ f fd, FnOk P w K mg base CX0 k f fd ps sp ∧ mg x = some (.ref f) ∧ PySem.W.keepIn K (.ref f) = true ∧ Binds K fd ps []
section
variable {X : Cx} {k : Nat} {ps : List Str} {sp : Sp} {x : Str} {p pos : Pos} {e : Expr} {es : List Expr} {t : TA}
theorem pe_def (G : Def X.prog X.w X.K X.mg X.base x ps k sp) (hr : Room k X.A) (hg : Gl X x)
    (ha : PA X (e :: es) t) (hdb : (x == ("__debug__" : Str)) = false := by decide) (he : starEach (e :: es) X.env = (false, eval e X.env) :: starEach es X.env := by rfl) (hpl : (backTo pos (starEach es X.env)).any (·.1) = false := by rfl) :
    PE X (.Call (.Name x p) (e :: es) [] pos) (tCall sp [] E0 t) := by
  obtain ⟨f, fd, F, hm, hk, hb⟩ := G.ex
  exact pe_call F hr hg hm hk hb .nil pass0 ha hdb he hpl
end
end Z
namespace Z
open PySem L2
theorem seq_ref {μ : M} {a : Addr} {ds : List D} (h : μ a = some (.lst ds)) : seqD μ (.ref a) = some ds := by
  show (match μ a with | some (.lst ds) => some ds | _ => none) = some ds
  rw [h]
def Sz (n : Nat) (x : Int) : Prop := x.natAbs < 2 ^ n
instance {n : Nat} {x : Int} : Decidable (Sz n x) := inferInstanceAs (Decidable (x.natAbs < 2 ^ n))
theorem sz_mono {a b : Nat} {x : Int} (h : Sz a x) (l : a ≤ b) : Sz b x := Nat.lt_of_lt_of_le h (Nat.pow_le_pow_right (by decide) l)
theorem sz_add {a b : Nat} {x y : Int} (h : Sz a x) (k : Sz b y) : Sz (max a b + 1) (x + y) := by
  have h1 : x.natAbs < 2 ^ (max a b) := Nat.lt_of_lt_of_le h (Nat.pow_le_pow_right (by decide) (Nat.le_max_left _ _))
  have h2 : y.natAbs < 2 ^ (max a b) := Nat.lt_of_lt_of_le k (Nat.pow_le_pow_right (by decide) (Nat.le_max_right _ _))
  have h3 := Int.natAbs_add_le x y
  unfold Sz
  rw [Nat.pow_succ]
  omega
theorem sz_neg {a : Nat} {x : Int} (h : Sz a x) : Sz a (-x) := by
  unfold Sz
  rw [Int.natAbs_neg]
  exact h
theorem sz_sub {a b : Nat} {x y : Int} (h : Sz a x) (k : Sz b y) : Sz (max a b + 1) (x - y) := by
  rw [Int.sub_eq_add_neg]
  exact sz_add h (sz_neg k)
theorem sz_mul {a b : Nat} {x y : Int} (h : Sz a x) (k : Sz b y) : Sz (a + b) (x * y) := wide_lt h k
theorem sz_mod {a : Nat} {x y : Int} (hy : 0 < y) (k : Sz a y) : Sz a (x % y) := by
  have h1 := Int.emod_nonneg x (by omega : y ≠ 0)
  have h2 := Int.emod_lt_of_pos x hy
  have k' : y.natAbs < 2 ^ a := k
  unfold Sz
  omega
theorem sz_b {b : Bool} : Sz 1 (if b then 1 else 0) := by cases b <;> decide
theorem sz_128 {x : Int} (h : decide (x.natAbs < 2 ^ 128) = true) : Sz 128 x := of_decide_eq_true h
theorem sz_2 {x : Int} (h : decide (x.natAbs < 2 ^ 2) = true) : Sz 2 x := of_decide_eq_true h
theorem sz_8 {x : Int} (h : decide (x.natAbs < 2 ^ 8) = true) : Sz 8 x := of_decide_eq_true h
theorem sz_32 {x : Int} (h : decide (x.natAbs < 2 ^ 32) = true) : Sz 32 x := of_decide_eq_true h
theorem hu65_of {k : Nat} {A : Around} (hr : Room k A) : A.units + 65 < cLine := by have := hr.un; omega
theorem mulw_of {a b : Nat} {x y : Int} (h : Sz a x) (k : Sz b y) (l : (a + 1) + (b + 1) ≤ 1000000) : CMulW x y :=
  wide_mul (a := a + 1) (b := b + 1) (sz_mono h (Nat.le_succ a)) (sz_mono k (Nat.le_succ b)) (Nat.succ_pos _) (Nat.succ_pos _) l
theorem divw_of {b : Nat} {x y : Int} (h : 0 < y) (k : Sz b y) (l : b + 1 ≤ 9000) : CDivW x y := wide_div (b := b + 1) h (sz_mono k (Nat.le_succ b)) (Nat.succ_pos _) l
abbrev pt (x y : Int) : D := .tup [.int x, .int y]
def sgn (n : Int) : Int := if 0 < n then 1 else if n < 0 then -1 else 0
section
variable {X : Cx} {K : PySem.W.Frag}
theorem ix_seqK (h : X.K = K) : IxR X (rIx K) := by subst h; exact ix_seq
theorem op_eqDK (h : X.K = K) (hu : X.A.units + 64 < cLine) : OpR X (compareOp .Eq) (rEqD K) := by subst h; exact op_eqD hu
theorem op_neDK (h : X.K = K) (hu : X.A.units + 64 < cLine) : OpR X (compareOp .NotEq) (rNeD K) := by subst h; exact op_neD hu
theorem call_isiK1 (h : X.K = K) : CallR X (.builtin "isinstance") (rIsi K) := by subst h; exact call_isi
theorem call_lenK (h : X.K = K) : CallR X (.builtin "len") (fun xs H Q => ∃ x n, xs = [x] ∧ LenV K x H n ∧ Q (.int n) H) := by subst h; exact call_len
theorem cr_allK (h : X.K = K) (hc : X.calm = true) : CallR X (.builtin "all") (rAll K) := by subst h; exact cr_all hc
theorem call_tupleK (h : X.K = K) : CallR X (.type "tuple") (fun xs H Q => ∃ p ys, xs = [V.ref p] ∧ ((SqL K H p ys ∧ ∀ l, H l = none → Q (.ref l) (upd H l (.tup ys))) ∨ (SqT K H p ys ∧ Q (.ref p) H))) := by subst h; exact call_tuple_of
theorem call_listK (h : X.K = K) : CallR X (.type "list") (fun xs H Q => ∃ p ys, xs = [V.ref p] ∧ (SqL K H p ys ∨ SqT K H p ys) ∧ ∀ l, H l = none → Q (.ref l) (upd H l (.lst ys))) := by subst h; exact call_list_of
theorem pe_fldK {e : Expr} {ta : TE} {f : Str} {pos : Pos} (h : X.K = K) (he : PE X e ta) (hb : attributeBase e f X.env (eval e X.env) = eval e X.env) : PE X (.Attribute e f pos) (tFld K ta f) := by subst h; exact pe_fld he hb
theorem pi_listK {tg l : Expr} {tl : TE} (h : X.K = K) (hl : PE X l tl) : PI X tg l (iList K tl) := by subst h; exact pi_list hl
theorem pi_tupK {tg l : Expr} {tl : TE} (h : X.K = K) (hl : PE X l tl) : PI X tg l (iTup K tl) := by subst h; exact pi_tup hl
end
end Z
namespace Z
open PySem L2
def P_law : PT3 := fun ds μ Φ => ∃ ns : List Int, ds = [.rol (ns.map D.int)] ∧ ns.length ≤ 63 ∧ ∀ μ', Φ (.bl true) μ'
theorem rels_map {K : PySem.W.Frag} {H : Hp} : ∀ ns : List Int, Rels K H (ns.map V.int) (ns.map D.int)
  | [] => .nil
  | n :: ns => .cons (.int n) (rels_map ns)
theorem law_start {K : PySem.W.Frag} {H : Hp} {a : Addr} {ns : List Int} (hl : ns.length ≤ 63) (hO : Only H) (hS : SqL K H a (ns.map V.int)) : spI K P_law [.ref a] H (fun v _ => v = .bl true) fun _ _ _ => False := by
  have hr : RolAt K H a (ns.map V.int) := by
    rcases hS with (h | ⟨o, h⟩) | h
    · rcases hO a with e | ⟨o, xs, e⟩
      · rw [e] at h; cases h
      · rw [e] at h; cases h
    · exact .inl ⟨o, h⟩
    · exact .inr h
  refine ⟨[.rol (ns.map D.int)], fun _ => none, fun d _ => d = .bl true, .cons (.rol hr (rels_map ns)) .nil, fun a m e => (by cases e), ⟨ns, rfl, hl, fun _ => rfl⟩, fun d μ' v H' f c r e => ?_⟩
  subst e
  cases r
  rfl
theorem len_law (ds : List D) (μ : M) (Φ : D → M → Prop) (h : P_law ds μ Φ) : ds.length = 1 := by
  obtain ⟨ns, rfl, _⟩ := h
  rfl
def P_l_cell_at : PT3 := fun ds μ Φ => ∃ (ns : List Int) (k : Int), ds = [.rol (ns.map D.int), .int k] ∧ 0 ≤ k ∧ ∀ z, Φ (.int z) μ
theorem len_l_cell_at (ds : List D) (μ : M) (Φ : D → M → Prop) (h : P_l_cell_at ds μ Φ) : ds.length = 2 := by
  obtain ⟨_, _, rfl, _⟩ := h
  rfl
/-- a bag: what its second number is -/
def BgOk (m : Int) : Prop := 0 ≤ m ∧ m < 2147483648
def P_l_bag : PT3 := fun ds μ Φ => ∃ (ns : List Int) (k : Int), ds = [.rol (ns.map D.int), .int k] ∧ 0 ≤ k ∧ k ≤ 1000 ∧ ∀ p c m, μ p = none → BgOk m → Φ (.ref p) (μ.set p (.lst [.int c, .int m]))
theorem len_l_bag (ds : List D) (μ : M) (Φ : D → M → Prop) (h : P_l_bag ds μ Φ) : ds.length = 2 := by
  obtain ⟨_, _, rfl, _⟩ := h
  rfl
def P_l_take : PT3 := fun ds μ Φ => ∃ (b : Addr) (n c m : Int), ds = [.ref b, .int n] ∧ μ b = some (.lst [.int c, .int m]) ∧ BgOk m ∧ 0 < n ∧ Sz 4000 n ∧ ∀ d c' m', 0 ≤ d → d < n → Sz 4000 d → BgOk m' → Φ (.int d) (μ.set b (.lst [.int c', .int m']))
theorem len_l_take (ds : List D) (μ : M) (Φ : D → M → Prop) (h : P_l_take ds μ Φ) : ds.length = 2 := by
  obtain ⟨_, _, _, _, rfl, _⟩ := h
  rfl
theorem iteNT {A B : Prop} (h : B) : if (!true) = true then A else B := h
theorem iteNF {A B : Prop} (h : A) : if (!false) = true then A else B := h
/-- an if whose test is a comparison -/
theorem ite_d {p : Prop} [Decidable p] {A B : Prop} (h1 : p → A) (h2 : ¬ p → B) : if decide p = true then A else B := by
  by_cases h : p
  · rw [if_pos (decide_eq_true h)]; exact h1 h
  · rw [if_neg (by simpa using h)]; exact h2 h
theorem ite_nd {p : Prop} [Decidable p] {A B : Prop} (h1 : ¬ p → A) (h2 : p → B) : if (!decide p) = true then A else B := by
  by_cases h : p
  · rw [if_neg (by simpa using h)]; exact h2 h
  · rw [if_pos (by simpa using h)]; exact h1 h
theorem map_get {ns : List Int} {k : Int} (h0 : 0 ≤ k) (h1 : k < ns.length) : ∃ z, atI (ns.map D.int) k = some (.int z) := by
  obtain ⟨j, rfl⟩ := Int.eq_ofNat_of_zero_le h0
  have hj : j < ns.length := by omega
  exact ⟨ns[j], atI_nat (by rw [List.getElem?_map, List.getElem?_eq_getElem hj]; rfl)⟩
/-- an if, then a word of what holds behind it -/
theorem if_cut {K : PySem.W.Frag} {τ : T} {μ : M} {N : AEnds} {t1 t2 : TS} {b : Bool} (M0 : T → M → Prop) (h1 : b = true → AS K t1 τ μ { N with nx := M0 }) (h2 : b = false → AS K t2 τ μ { N with nx := M0 }) (k : ∀ τ' μ', M0 τ' μ' → N.nx τ' μ') :
    if b = true then AS K t1 τ μ N else AS K t2 τ μ N := by
  cases b with
  | true => rw [if_pos rfl]; exact (h1 rfl).imp k (fun _ _ h => h) (fun _ _ h => h) fun _ _ h => h
  | false => rw [if_neg Bool.false_ne_true]; exact (h2 rfl).imp k (fun _ _ h => h) (fun _ _ h => h) fun _ _ h => h
section
variable {K : PySem.W.Frag} {τ : T} {μ μ1 μ2 : M} {Φ : D → M → Prop} {tl te : TE} {tt : TT}
theorem sets1 {j : Nat} {x : D} : sets τ [j] [x] = τ.set j (some x) := rfl
theorem filt_step {f : D → D} {p : D → Bool} {ds : List D} {i : Nat} {x : D} (h : ds[i]? = some x) : (ds.take (i + 1)).filter p = (ds.take i).filter p ++ (if p x = true then [x] else []) := by
  rw [List.take_add_one, h, List.filter_append]
  congr 1
  simp only [Option.toList_some, List.filter_cons, List.filter_nil]
theorem lc_pure_turn {j : Nat} (f : D → D) (p : D → Bool) {ds : List D} {i : Nat} {x : D} (hz : ds.length < sizeLine) (hx : ds[i]? = some x)
    (ht : AT K tt (τ.set j (some x)) μ1 fun b μ2 => b = p x ∧ μ2 = μ1) (he : p x = true → AE K te (τ.set j (some x)) μ1 fun y μ2 => y = f x ∧ μ2 = μ1) :
    LcTurn K τ tt te [j] (fun d ds => ds = [d]) x (((ds.take i).filter p).map f) μ1 fun acc μ' => μ' = μ1 ∧ acc = ((ds.take (i + 1)).filter p).map f := by
  refine ⟨[x], rfl, rfl, ?_⟩
  rw [sets1]
  refine ht.imp fun b μ' ⟨e1, e2⟩ => ?_
  subst e2
  rw [filt_step (f := f) hx]
  cases b with
  | true =>
    rw [if_pos rfl]
    refine (he e1.symm).imp fun y μ' ⟨e3, e4⟩ => ?_
    subst e4
    refine ⟨?_, rfl, ?_⟩
    · rw [List.length_map]
      have h1 := List.length_filter_le p (ds.take i)
      have h2 : (ds.take i).length ≤ ds.length := by rw [List.length_take]; omega
      omega
    · rw [if_pos e1.symm, List.map_append, e3]
      rfl
  | false =>
    rw [if_neg Bool.false_ne_true]
    refine ⟨rfl, ?_⟩
    rw [if_neg (by rw [← e1]; exact Bool.false_ne_true), List.append_nil]
end
end Z
namespace Z
open PySem L2
/-- J yields xs in turn while G stands; what is at out is not in the store meanwhile -/
structure WalkD (K : PySem.W.Frag) (J : It) (xs : List D) (out : Addr → Prop) (G : Hp → Prop) : Prop where
  keep : ∀ H H' μ μ', Z.Con K H μ → (∀ a, out a → μ a = none) → G H → Fr μ μ' H H' → G H'
  oo : ∀ H a, G H → out a → ∃ o, H a = some o
  go : ∀ i H, i < xs.length → G H → J.go i H
  stop : ∀ i H, xs.length ≤ i → G H → J.stop i H
  yld : ∀ i H v H', i < xs.length → G H → J.yld i H v H' → ∃ x, xs[i]? = some x ∧ Rel K H' v x ∧ (H' = H ∨ ∃ T vs, H T = none ∧ H' = upd H T (.tup vs))
/-- how the store is put together again -/
structure Back (K : PySem.W.Frag) (μ μw : M) (H H1 : Hp) (back : M → M) : Prop where
  fr : ∀ μ' H', Fr μw μ' H1 H' → Fr μ (back μ') H H'
  con : ∀ μ' H', Fr μw μ' H1 H' → Z.Con K H' μ' → Z.Con K H' (back μ')
  nw : ∀ μ' p, H1 p = none → μ' p = none → back μ' p = none
  old : ∀ b o, μ b = none → H b = some o → H1 b = some o
/-- a source: what follows is told of the items, the store while it is walked, the way back -/
def AI (K : PySem.W.Frag) (wi : TI) (τ : T) (μ : M) (Ψ : List D → M → (M → M) → Prop) : Prop :=
  ∀ σ H, Slots K H τ σ → Z.Con K H μ → ∀ R : It → Hp → Prop,
    (∀ J xs out G H1 μw back, Tx H H1 → Z.Con K H1 μw → WalkD K J xs out G → G H1 → (∀ a, out a → μw a = none) → Back K μ μw H H1 back → Ψ xs μw back → R J H1) → wi σ H R
section
variable {K : PySem.W.Frag} {τ : T} {μ μ1 μ2 : M} {H H1 H2 H' : Hp} {σ : L2.St} {Φ : D → M → Prop} {ta tl te : TE} {tt : TT} {N : AEnds} {ts tb : TS} {g : TG} {wi : TI}
def turnB (N : AEnds) (back : M → M) (P : T → M → Prop) : AEnds := { nx := P, ct := P, rt := fun d μ' => N.rt d (back μ'), bk := fun τ' μ' => N.nx τ' (back μ'), W := N.W, cn := N.cn, xs := fun x dx τ' μ' => N.xs x dx τ' (back μ') }
/-- behind one yield -/
theorem yld_ok {T0 : Addr} {vs : List V} (c : Z.Con K H μ) (h : H T0 = none) : Fr μ μ H (upd H T0 (.tup vs)) ∧ Z.Con K (upd H T0 (.tup vs)) μ := ⟨fr_new h, con_new h c⟩
theorem s_for (h : AI K wi τ μ fun xs μw back => ∃ P : Nat → T → M → Prop, P 0 τ μw ∧ (∀ (i : Nat) x τ' μ', xs[i]? = some x → P i τ' μ' → AG K g x τ' μ' fun τ2 μ2 => AS K tb τ2 μ2 (turnB N back (P (i + 1)))) ∧ ∀ τ' μ', P xs.length τ' μ' → N.nx τ' (back μ')) :
    AS K (tFor wi g tb) τ μ N := fun σ H s c E k => by
  refine h σ H s c _ fun J xs out G H1 μw back tx c1 W g1 o1 B ⟨P, p0, hs, hd⟩ => ?_
  refine ⟨fun i m σ' H' => m = xs.length - i ∧ i ≤ xs.length ∧ ∃ τ' μ', Fr μw μ' H1 H' ∧ Z.Con K H' μ' ∧ Slots K H' τ' σ' ∧ P i τ' μ', ⟨xs.length, by omega, Nat.zero_le _, τ, μw, Fr.refl, c1, s.mono tx, p0⟩, ?_⟩
  rintro i m σ' H' ⟨rfl, hi, τ', μ', f, c', s', p⟩
  have gH : G H' := W.keep _ _ _ _ c1 o1 g1 f
  by_cases hlt : i < xs.length
  · refine .inr ⟨W.go i H' hlt gH, fun σ2 H2 => ∃ τ2 μ2, Fr μw μ2 H1 H2 ∧ Z.Con K H2 μ2 ∧ Slots K H2 τ2 σ2 ∧ P (i + 1) τ2 μ2, fun σ2 H2 ⟨τ2, μ2, f2, c2, s2, p2⟩ => ⟨xs.length - (i + 1), by omega, rfl, hlt, τ2, μ2, f2, c2, s2, p2⟩, fun v H2 y => ?_⟩
    obtain ⟨x, hx, rx, hH⟩ := W.yld i H' v H2 hlt gH y
    have fy : Fr μ' μ' H' H2 ∧ Z.Con K H2 μ' := by
      rcases hH with e | ⟨T0, vs, hT, e⟩
      · rw [e]; exact ⟨Fr.refl, c'⟩
      · rw [e]; exact yld_ok c' hT
    refine hs i x τ' μ' hx p σ' H2 v (s'.mono (fy.1.tx c')) fy.2 rx _ fun τ3 μ3 σ3 H3 f3 c3 s3 q => ?_
    have fa := (f.trans fy.1).trans f3
    refine q σ3 H3 s3 c3 _ ⟨fun τ4 μ4 σ4 H4 f4 c4 s4 p4 => ⟨τ4, μ4, fa.trans f4, c4, s4, p4⟩, fun d4 μ4 v4 H4 f4 c4 r4 p4 => ?_, fun τ4 μ4 σ4 H4 f4 c4 s4 p4 => ?_, fun τ4 μ4 σ4 H4 f4 c4 s4 p4 => ⟨τ4, μ4, fa.trans f4, c4, s4, p4⟩, fun x1 x2 x3 x4 x5 x6 x7 x8 f' c' s' p' => k.wx x1 x2 x3 _ x5 x6 x7 x8 (B.fr _ _ (fa.trans f')) (B.con _ _ (fa.trans f') c') s' p'⟩
    · exact k.rt d4 (back μ4) v4 H4 (B.fr _ _ (fa.trans f4)) (B.con _ _ (fa.trans f4) c4) r4 p4
    · exact k.nx τ4 (back μ4) σ4 H4 (B.fr _ _ (fa.trans f4)) (B.con _ _ (fa.trans f4) c4) s4 p4
  · have e : i = xs.length := by omega
    subst e
    exact .inl ⟨W.stop _ H' (Nat.le_refl _) gH, k.nx τ' (back μ') σ' H' (B.fr _ _ f) (B.con _ _ f c') s' (hd τ' μ' p)⟩
theorem a_lc {js : List Nat} {dec : D → List D → Prop} (hg : TgOk K g js dec)
    (h : AI K wi τ μ fun xs μw back => ∃ P : Nat → List D → M → Prop, P 0 [] μw ∧ (∀ (i : Nat) x acc μ', xs[i]? = some x → P i acc μ' → LcTurn K τ tt te js dec x acc μ' (P (i + 1))) ∧ ∀ acc μ', P xs.length acc μ' → ∀ p, back μ' p = none → Φ (.ref p) ((back μ').set p (.lst acc))) :
    AE K (tLc wi g tt te js) τ μ Φ := fun σ H s c Q k => by
  refine h σ H s c _ fun J xs out G H1 μw back tx c1 W g1 o1 B ⟨P, p0, hs, hd⟩ Dl hD => ?_
  have s1 := s.mono tx
  refine ⟨fun i m H' => m = xs.length - i ∧ i ≤ xs.length ∧ ∃ acc μ', LcAt K Dl μw H1 acc μ' H' ∧ P i acc μ', ⟨xs.length, by omega, Nat.zero_le _, [], μw, lc_start c1 hD, p0⟩, ?_⟩
  rintro i m H' ⟨rfl, hi, acc, μ', L, p⟩
  have gH : G H' := W.keep _ _ _ _ c1 o1 g1 L.fr
  by_cases hlt : i < xs.length
  · refine .inr ⟨W.go i H' hlt gH, fun H2 => ∃ acc2 μ2, LcAt K Dl μw H1 acc2 μ2 H2 ∧ P (i + 1) acc2 μ2, fun H2 ⟨acc2, μ2, L2, p2⟩ => ⟨xs.length - (i + 1), by omega, rfl, hlt, acc2, μ2, L2, p2⟩, fun v H2 y => ?_⟩
    obtain ⟨x, hx, rx, hH⟩ := W.yld i H' v H2 hlt gH y
    have L2 : LcAt K Dl μw H1 acc μ' H2 := by
      rcases hH with e | ⟨T0, vs, hT, e⟩
      · rw [e]; exact L
      · obtain ⟨f2, c2⟩ := yld_ok (vs := vs) L.con hT
        obtain ⟨ws, hw, hr⟩ := L.at_
        rw [e]
        exact ⟨L.fr.trans f2, c2, L.no, ws, by rw [upd_ne (fun z => by rw [z, hT] at hw; cases hw)]; exact hw, Rels.mono (tx_new hT) _ _ hr⟩
    exact lc_step hD hg s1 c1 L2 rx (hs i x acc μ' hx p) fun acc2 μ2 H3 L3 p3 => ⟨acc2, μ2, L3, p3⟩
  · have e : i = xs.length := by omega
    subst e
    obtain ⟨vs, hv, hr⟩ := L.at_
    refine .inl ⟨W.stop _ H' (Nat.le_refl _) gH, ?_⟩
    have hbn : back μ' Dl = none := B.nw _ _ hD L.no
    have fb := B.fr _ _ L.fr
    have cb := B.con _ _ L.fr L.con
    refine k _ _ _ H' (fun b o n e => ?_) (con_back (m := .lst acc) cb ⟨vs, hv, hr⟩) (.ref Dl) (hd acc μ' p Dl hbn)
    obtain ⟨e2, n2⟩ := fb b o n e
    have hb : b ≠ Dl := fun z => by
      have e3 := B.old b o n e
      rw [z, hD] at e3; cases e3
    exact ⟨e2, by rw [set_ne hb]; exact n2⟩
theorem back_id (f : Fr μ μ1 H H1) : Back K μ μ1 H H1 id := ⟨fun _ _ g => f.trans g, fun _ _ _ c => c, fun _ _ _ h => h, fun b o n e => (f b o n e).1⟩
/-- a list set aside -/
theorem back_set {a : Addr} {vs : List V} {ds : List D} (c1 : Z.Con K H1 μ1) (hl : μ1 a = some (.lst ds)) (hx : H1 a = some (.lst vs)) (hr : Rels K H1 vs ds) (f : Fr μ μ1 H H1) : Back K μ (μ1.del a) H H1 (fun μ' => μ'.set a (.lst ds)) where
  fr := fun μ' H' g => fr_back hl f g
  con := fun μ' H' g c => con_back (m := .lst ds) c ⟨vs, (g a _ del_same hx).1, Rels.mono (g.tx (c1.sub del_sub)) _ _ hr⟩
  nw := fun μ' p hp n => by
    rw [set_ne (fun z => by rw [z, hx] at hp; cases hp)]
    exact n
  old := fun b o n e => (f b o n e).1
theorem walk_T {a : Addr} {vs : List V} {ds : List D} (hr : Rels K H1 vs ds) : WalkD K (Itt K a) ds (fun _ => False) (fun H' => TupAt K H' a vs ∧ Rels K H' vs ds) where
  keep := fun H H' μ μ' c _ g f => ⟨g.1.mono (f.tx c), Rels.mono (f.tx c) _ _ g.2⟩
  oo := fun _ _ _ h => h.elim
  go := fun i H' hi g => by
    have hv : i < vs.length := by rw [hr.length]; exact hi
    exact ⟨vs, vs[i], g.1.sq, List.getElem?_eq_getElem hv⟩
  stop := fun i H' hi g => ⟨vs, g.1.sq, by rw [hr.length]; exact hi⟩
  yld := fun i H' v H2 hi g y => by
    obtain ⟨e, q⟩ := y
    obtain ⟨x, h1, h2⟩ := g.2.getV (q vs g.1.sq)
    subst e
    exact ⟨x, h1, h2, .inl rfl⟩
theorem walk_L {a : Addr} {vs : List V} {ds : List D} (hr : Rels K H1 vs ds) : WalkD K (Itl K a) ds (fun b => b = a) (fun H' => H' a = some (.lst vs) ∧ Rels K H' vs ds) where
  keep := fun H H' μ μ' c o g f => ⟨(f a _ (o a rfl) g.1).1, Rels.mono (f.tx c) _ _ g.2⟩
  oo := fun _ b g h => by subst h; exact ⟨_, g.1⟩
  go := fun i H' hi g => by
    have hv : i < vs.length := by rw [hr.length]; exact hi
    exact ⟨vs, vs[i], SqL.of g.1, List.getElem?_eq_getElem hv⟩
  stop := fun i H' hi g => ⟨vs, SqL.of g.1, by rw [hr.length]; exact hi⟩
  yld := fun i H' v H2 hi g y => by
    obtain ⟨e, q⟩ := y
    obtain ⟨x, h1, h2⟩ := g.2.getV (q vs (SqL.of g.1))
    subst e
    exact ⟨x, h1, h2, .inl rfl⟩
theorem walk_N {lo : Int} {n : Nat} : WalkD K (Itr lo n) ((List.range n).map fun (i : Nat) => D.int (lo + i)) (fun _ => False) (fun _ => True) where
  keep := fun _ _ _ _ _ _ _ _ => trivial
  oo := fun _ _ _ h => h.elim
  go := fun i H' hi _ => by
    have h : i < n := by simpa using hi
    exact h
  stop := fun i H' hi _ => by
    have h : n ≤ i := by simpa using hi
    exact h
  yld := fun i H' v H2 hi _ y => by
    obtain ⟨e, e2⟩ := y
    have h : i < n := by simpa using hi
    subst e e2
    exact ⟨.int (lo + i), by simp [h], .int _, .inl rfl⟩
variable {Ψ : List D → M → (M → M) → Prop}
theorem ai_T (h : AE K tl τ μ fun d μ1 => ∃ ds, d = .tup ds ∧ Ψ ds μ1 id) : AI K (iTup K tl) τ μ Ψ := fun σ H s c R k => h σ H s c _ fun d μ1 v H1 f1 c1 r1 ⟨ds, e, q⟩ => by
  subst e
  cases r1 with
  | @tup a xs _ ha hr => exact ⟨a, rfl, ⟨xs, ha.sq⟩, k _ ds _ _ H1 μ1 id (f1.tx c) c1 (walk_T hr) ⟨ha, hr⟩ (fun _ z => z.elim) (back_id f1) q⟩
theorem ai_L (h : AE K tl τ μ fun d μ1 => ∃ a ds, d = .ref a ∧ μ1 a = some (.lst ds) ∧ Ψ ds (μ1.del a) (fun μ' => μ'.set a (.lst ds))) : AI K (iList K tl) τ μ Ψ := fun σ H s c R k => h σ H s c _ fun d μ1 v H1 f1 c1 r1 ⟨a, ds, e, hl, q⟩ => by
  subst e
  cases r1
  obtain ⟨xs, hx, hr⟩ := c1 a _ hl
  exact ⟨a, rfl, ⟨xs, SqL.of hx⟩, k _ ds _ _ H1 (μ1.del a) _ (f1.tx c) (c1.sub del_sub) (walk_L hr) ⟨hx, hr⟩ (fun b z => by rw [z]; exact del_same) (back_set c1 hl hx hr f1) q⟩
theorem ai_1 {ta : TA} (h : AA K ta τ μ fun ds μ1 => ∃ n : Int, ds = [.int n] ∧ -(2 ^ 62) ≤ n ∧ n < 2 ^ 62 ∧ Ψ ((List.range n.toNat).map fun (i : Nat) => D.int (0 + i)) μ1 id) : AI K (iRng1 ta) τ μ Ψ := fun σ H s c R k => h σ H s c _ fun ds μ1 vs H1 f1 c1 r1 ⟨n, e, h1, h2, q⟩ => by
  subst e
  cases r1 with
  | cons r rr =>
    cases r
    cases rr
    exact ⟨n, rfl, h1, h2, k _ _ _ _ H1 μ1 id (f1.tx c) c1 walk_N trivial (fun _ z => z.elim) (back_id f1) q⟩
/-- a comprehension whose turns leave nothing, one name as target -/
theorem a_lc1 {j : Nat} (f : D → D) (p : D → Bool) (h : AI K wi τ μ fun xs μw back => xs.length < sizeLine ∧ (∀ x ∈ xs, AT K tt (τ.set j (some x)) μw fun b μ2 => b = p x ∧ μ2 = μw) ∧ (∀ x ∈ xs, p x = true → AE K te (τ.set j (some x)) μw fun y μ2 => y = f x ∧ μ2 = μw) ∧ ∀ q, back μw q = none → Φ (.ref q) ((back μw).set q (.lst ((xs.filter p).map f)))) :
    AE K (tLc wi (gName j) tt te [j]) τ μ Φ := a_lc tg_name (fun σ H s c R k => h σ H s c R fun J xs out G H1 μw back tx c1 W g1 o1 B ⟨hz, ht, he, q⟩ => k J xs out G H1 μw back tx c1 W g1 o1 B (by
  refine ⟨fun i acc μ' => μ' = μw ∧ acc = ((xs.take i).filter p).map f, ⟨rfl, rfl⟩, ?_, ?_⟩
  · rintro i x acc μ' hx ⟨rfl, rfl⟩
    exact lc_pure_turn f p hz hx (ht x (List.mem_of_getElem? hx)) (he x (List.mem_of_getElem? hx))
  · rintro acc μ' ⟨rfl, rfl⟩ a ha
    rw [List.take_length]
    exact q a ha))
end
end Z
namespace Z
open PySem L2
def Up (Φ : D → M → Prop) : D → M → Prop := fun d μ' => ∃ μ2, Sub μ2 μ' ∧ Φ d μ2
theorem up_of {Φ : D → M → Prop} {d : D} {μ2 μ' : M} (s : Sub μ2 μ') (h : Φ d μ2) : Up Φ d μ' := ⟨μ2, s, h⟩
theorem up {Φ : D → M → Prop} {d : D} {μ' : M} (h : Φ d μ') : Up Φ d μ' := ⟨μ', Sub.refl, h⟩
theorem body_okU {K : PySem.W.Frag} {H : Hp} {ts : TS} {P : PT3} {E : XK} {Ns : List Str} {vs : List V} {Q : VK} (h : spI K P vs H Q E) (hb : ∀ ds μ Φ, P ds μ Φ → AS K ts (startD Ns.length ds) μ { nx := fun _ μ' => Up Φ .non μ', rt := Up Φ }) :
    ts { nx := fun _ H' => Q .non H', rt := Q } (L2.start Ns vs) H := by
  obtain ⟨ds, μ, Φ, r, c, p, k⟩ := h
  refine hb ds μ Φ p _ H (slots_start r) c _ ⟨fun _ μ' _ H' f c' _ q => ?_, fun d μ' v H' f c' r' q => ?_, fun _ _ _ _ _ _ _ q => q.elim, fun _ _ _ _ _ _ _ q => q.elim, fun _ _ _ _ _ _ _ _ _ _ _ q => q.elim⟩
  · obtain ⟨μ2, sb, q⟩ := q
    exact k .non μ2 .non H' (f.sub sb) (c'.sub sb) .non q
  · obtain ⟨μ2, sb, q⟩ := q
    exact k d μ2 v H' (f.sub sb) (c'.sub sb) r' q
def SubB (b : Addr) (μ μ' : M) : Prop := ∀ a m, a ≠ b → μ a = some m → μ' a = some m
section
variable {μ μ' : M} {b l : Addr} {X Y : MO}
theorem sb_refl : SubB b μ μ := fun _ _ _ h => h
theorem sb_self (h : SubB b μ μ') : SubB b μ (μ'.set b Y) := fun a m n e => by rw [set_ne n]; exact h a m n e
theorem sb_new (h : SubB b μ μ') (hn : μ' l = none) : SubB b μ (μ'.set l Y) := fun a m n e => by
  have h2 := h a m n e
  rw [set_ne (fun z => by rw [z, hn] at h2; cases h2)]
  exact h2
theorem sub_new (h : Sub μ μ') (hn : μ' l = none) : Sub μ (μ'.set l Y) := fun a m e => by
  have h2 := h a m e
  rw [set_ne (fun z => by rw [z, hn] at h2; cases h2)]
  exact h2
theorem none_ne {m : MO} (h : (μ.set b m) l = none) : l ≠ b := fun z => by subst z; rw [set_same] at h; cases h
theorem none_back {m : MO} (h : (μ.set b m) l = none) : μ l = none := by
  have n := none_ne h
  rw [set_ne n] at h
  exact h
theorem ne_of_some {m : MO} (h : μ l = none) (k : μ b = some m) : l ≠ b := fun z => by subst z; rw [h] at k; cases k
end
abbrev Fq := Int × Int
abbrev Pl := Fq × Fq
end Z
namespace Z
open PySem L2
section
variable {K : PySem.W.Frag} {μ μ' : M} {Φ : D → M → Prop} {b l : Addr} {X : MO}
theorem ro_isB {a b : Bool} (q : Φ (.bl (decide (a = b))) μ) : RO K rIsB (.bl a) (.bl b) μ Φ := fun H x y c r1 r2 Q k => by
  cases r1; cases r2
  exact ⟨a, b, rfl, rfl, k _ μ _ H Fr.refl c (.bl _) q⟩
theorem ro_notB {a b : Bool} (q : Φ (.bl (!decide (a = b))) μ) : RO K rNotB (.bl a) (.bl b) μ Φ := fun H x y c r1 r2 Q k => by
  cases r1; cases r2
  exact ⟨a, b, rfl, rfl, k _ μ _ H Fr.refl c (.bl _) q⟩
theorem sb_trans {μ2 : M} (h : SubB b μ μ') (k : SubB b μ' μ2) : SubB b μ μ2 := fun a m n e => k a m n (h a m n e)
end
structure Gd (n : Nat) (p : Fq) : Prop where
  pos : 0 < p.2
  s1 : Sz n p.1
  s2 : Sz n p.2
structure GdP (n : Nat) (p : Pl) : Prop where
  x : Gd n p.1
  y : Gd n p.2
theorem Gd.mono {n m : Nat} {p : Fq} (h : Gd n p) (l : n ≤ m) : Gd m p := ⟨h.pos, sz_mono h.s1 l, sz_mono h.s2 l⟩
theorem GdP.mono {n m : Nat} {p : Pl} (h : GdP n p) (l : n ≤ m) : GdP m p := ⟨h.x.mono l, h.y.mono l⟩
end Z
namespace Z
open PySem L2
def AO (K : PySem.W.Frag) (to : TO) (τ : T) (μ : M) (Θ : Option Int → M → Prop) : Prop :=
  ∀ σ H, Slots K H τ σ → Z.Con K H μ → ∀ R : Option Int → Hp → Prop, (∀ o μ' H', Fr μ μ' H H' → Z.Con K H' μ' → Θ o μ' → R o H') → to σ H R
/-- what a slice of d answers -/
def RS (K : PySem.W.Frag) (r : V → Option Int → Option Int → Hp → VK → Prop) (d : D) (lo hi : Option Int) (μ : M) (Φ : D → M → Prop) : Prop :=
  ∀ H x, Z.Con K H μ → Rel K H x d → ∀ Q : VK, (∀ z μ' v H', Fr μ μ' H H' → Z.Con K H' μ' → Rel K H' v z → Φ z μ' → Q v H') → r x lo hi H Q
def cutD (ds : List D) (lo hi : Option Int) : List D := (ds.drop (HT.sIx ds.length 0 lo)).take (HT.sIx ds.length ds.length hi - HT.sIx ds.length 0 lo)
section
variable {K : PySem.W.Frag} {τ : T} {μ μ1 μ2 : M} {H H1 H2 H' : Hp} {σ : L2.St} {Φ : D → M → Prop} {ta tl te : TE} {to tp : TO} {Θ : Option Int → M → Prop} {d e : D}
theorem ao_no (h : Θ none μ) : AO K tNoPart τ μ Θ := fun σ H s c R k => k none μ H Fr.refl c h
theorem ao_pt (h : AE K te τ μ fun d μ1 => ∃ i, d = .int i ∧ Θ (some i) μ1) : AO K (tPart te) τ μ Θ := fun σ H s c R k => h σ H s c _ fun d μ1 v H1 f1 c1 r1 ⟨i, e, q⟩ => by
  subst e
  cases r1
  exact ⟨i, rfl, k (some i) μ1 H1 f1 c1 q⟩
theorem a_sl {r : V → Option Int → Option Int → Hp → VK → Prop} (h : AE K te τ μ fun d μ1 => AO K to τ μ1 fun lo μ2 => AO K tp τ μ2 fun hi μ3 => RS K r d lo hi μ3 Φ) : AE K (L2.tSl r te to tp) τ μ Φ := fun σ H s c Q k =>
  h σ H s c _ fun d μ1 v H1 f1 c1 r1 p1 => p1 σ H1 (s.mono (f1.tx c)) c1 _ fun lo μ2 H2 f2 c2 p2 => p2 σ H2 (s.mono ((f1.trans f2).tx c)) c2 _ fun hi μ3 H3 f3 c3 p3 =>
    p3 H3 v c3 (Rel.mono ((f2.trans f3).tx c1) _ _ r1) Q fun z μ' w H' f c' rz pz => k z μ' w H' (((f1.trans f2).trans f3).trans f) c' rz pz
theorem Rels.cut {vs : List V} {ds : List D} (lo hi : Option Int) (r : Rels K H vs ds) : Rels K H (cutV vs lo hi) (cutD ds lo hi) := by
  unfold cutV cutD
  rw [r.length]
  exact (r.drop _).take _
theorem rs_ref {a : Addr} {ds : List D} {lo hi : Option Int} (h : μ a = some (.lst ds)) (q : ∀ p, μ p = none → Φ (.ref p) (μ.set p (.lst (cutD ds lo hi)))) : RS K (rSlL K) (.ref a) lo hi μ Φ := fun H x c r Q k => by
  cases r
  obtain ⟨xs, hx, hr⟩ := c a _ h
  exact ⟨a, xs, rfl, SqL.of hx, fun p hp => k _ _ _ _ (fr_put hp) (con_put (m := .lst (cutD ds lo hi)) hp c ⟨_, upd_same, Rels.mono (tx_new hp) _ _ (hr.cut lo hi)⟩) (.ref p) (q p (c.free hp))⟩
theorem rs_rol {ds : List D} {lo hi : Option Int} (q : ∀ p, μ p = none → Φ (.ref p) (μ.set p (.lst (cutD ds lo hi)))) : RS K (rSlL K) (.rol ds) lo hi μ Φ := fun H x c r Q k => by
  cases r with
  | @rol a xs _ ht hr => exact ⟨a, xs, rfl, ht.sq, fun p hp => k _ _ _ _ (fr_put hp) (con_put (m := .lst (cutD ds lo hi)) hp c ⟨_, upd_same, Rels.mono (tx_new hp) _ _ (hr.cut lo hi)⟩) (.ref p) (q p (c.free hp))⟩
/-- two lists of the store, put together -/
theorem ro_cat {a b : Addr} {ds es : List D} (h1 : μ a = some (.lst ds)) (h2 : μ b = some (.lst es)) (hz : ds.length + es.length ≤ sizeLine) (q : ∀ p, μ p = none → Φ (.ref p) (μ.set p (.lst (ds ++ es)))) : RO K rCat (.ref a) (.ref b) μ Φ := fun H x y c r1 r2 Q k => by
  cases r1
  cases r2
  obtain ⟨xs, hx, hr⟩ := c a _ h1
  obtain ⟨ys, hy, hr2⟩ := c b _ h2
  exact ⟨a, b, xs, ys, rfl, rfl, hx, hy, by rw [hr.length, hr2.length]; exact hz, fun p hp => k _ _ _ _ (fr_put hp) (con_put (m := .lst (ds ++ es)) hp c ⟨_, upd_same, Rels.mono (tx_new hp) _ _ (hr.append hr2)⟩) (.ref p) (q p (c.free hp))⟩
end
end Z
namespace ZL
open PySem PySem.Spec PyProof.Rows PySem.Calls PySem.W
section
variable {prog : Program} {w : World} {A : Around} {E : Value → Shared → Prop} {s : Shared} {z TI TO T S i1 i2 l1 l2 : Addr} {xs ys : Array Value}
/-- how the zip stands ahead of turn k, while a list S takes its pairs -/
def ZSt (h : Heap) (z TI TO i1 i2 l1 l2 S : Addr) (xs ys : Array Value) (k : Nat) : Prop :=
  (IsPair h TI (.ref i1) (.ref i2) ∧ h.IsTupleIter i1 l1 k ∧ h.IsTupleIter i2 l2 k ∧ h.IsTuple l1 xs ∧ h.IsTuple l2 ys) ∧
  ((IsZip h z TI TO .none ∧ ∃ u v, IsPair h TO u v) ∨ ∃ T f oT, IsZipHeld h z TI TO T f ∧ h.get? T = some oT ∧ T ≠ z ∧ T ≠ i1 ∧ T ≠ i2 ∧ T ≠ S)
structure Off (S z TI TO i1 i2 l1 l2 : Addr) : Prop where
  sz : S ≠ z
  sTI : S ≠ TI
  sTO : S ≠ TO
  s1 : S ≠ i1
  s2 : S ≠ i2
  sl1 : S ≠ l1
  sl2 : S ≠ l2
theorem ZSt.keep {h h' : Heap} {k : Nat} (O : Off S z TI TO i1 i2 l1 l2) (st : ZSt h z TI TO i1 i2 l1 l2 S xs ys k) (hk : ∀ b o, b ≠ S → h.get? b = some o → h'.get? b = some o) : ZSt h' z TI TO i1 i2 l1 l2 S xs ys k := by
  obtain ⟨⟨a1, a2, a3, ⟨o4, a4, b4⟩, ⟨o5, a5, b5⟩⟩, q⟩ := st
  refine ⟨⟨hk _ _ O.sTI.symm a1, a2.at fun o e => hk _ _ O.s1.symm e, a3.at fun o e => hk _ _ O.s2.symm e, ⟨o4, hk _ _ O.sl1.symm a4, b4⟩, ⟨o5, hk _ _ O.sl2.symm a5, b5⟩⟩, ?_⟩
  rcases q with ⟨q1, u, v, q2⟩ | ⟨T, f, oT, q1, q2, n1, n2, n3, n4⟩
  · exact .inl ⟨hk _ _ O.sz.symm q1, u, v, hk _ _ O.sTO.symm q2⟩
  · exact .inr ⟨T, f, oT, hk _ _ O.sz.symm q1, hk _ _ n4 q2, n1, n2, n3, n4⟩
end
/-- what was made: a row of new pairs, each at a greater place -/
structure Row (xs ys : Array Value) (lo : Addr) (h : Heap) (as : List Addr) : Prop where
  rise : as.Pairwise (· < ·)
  above : ∀ a ∈ as, lo < a
  at_ : ∀ (j : Nat) (a : Addr), as[j]? = some a → ∃ x y, xs[j]? = some x ∧ ys[j]? = some y ∧ IsPair h a x y
section
open L2
def look : List Addr → List (V × V) → Addr → Option (V × V)
  | a :: as, z :: zs, b => if b = a then some z else look as zs b
  | _, _, _ => none
theorem look_at : ∀ {as : List Addr} {zs : List (V × V)} {j : Nat} {a : Addr} {z : V × V}, as.Nodup → as[j]? = some a → zs[j]? = some z → look as zs a = some z
  | [], _, _, _, _, _, h, _ => by simp at h
  | _ :: _, [], _, _, _, _, _, h => by simp at h
  | b :: as, y :: zs, 0, a, z, _, h, k => by
    have e1 : b = a := by simpa using h
    have e2 : y = z := by simpa using k
    unfold look
    rw [if_pos e1.symm, e2]
  | b :: as, y :: zs, j + 1, a, z, hn, h, k => by
    have hn' := List.nodup_cons.mp hn
    have h' : as[j]? = some a := by simpa using h
    have ne : a ≠ b := fun e => hn'.1 (by rw [← e]; exact List.mem_of_getElem? h')
    unfold look
    rw [if_neg ne]
    exact look_at hn'.2 h' (by simpa using k)
theorem look_out : ∀ {as : List Addr} {zs : List (V × V)} {a : Addr}, a ∉ as → look as zs a = none
  | [], _, _, _ => by unfold look; rfl
  | _ :: _, [], _, _ => by unfold look; rfl
  | b :: as, y :: zs, a, h => by
    unfold look
    rw [if_neg (fun e => h (by rw [e]; exact List.mem_cons_self))]
    exact look_out fun e => h (List.mem_cons_of_mem _ e)
def lay (H : Hp) (S : Addr) (as : List Addr) (zs : List (V × V)) : Hp := fun b => if b = S then some (.lst (as.map V.ref)) else match look as zs b with
  | some (x, y) => some (.tup [x, y])
  | none => H b
variable {X : Cx} {e e2 : Expr} {ta : TA} {p p2 cpos pos : Pos}
theorem laid {pins : List (Addr × Obj)} {σ : L2.St} {H : Hp} {s : Shared} {h' : Heap} {S : Addr} {acc : Array Value} {c : Nat} {as : List Addr} {xs ys : List V} {us vs : List Value} (I : Inv X pins σ H s) (hS0 : s.heap.objs.size ≤ S) (hk : ∀ b o, s.heap.get? b = some o → h'.get? b = some o) (rx : Vals xs us) (ry : Vals ys vs)
    (hS : h'.get? S = some { cls := .type "list", dict := none, data := .seq acc c, slots := #[] }) (hz : min us.length vs.length ≤ sizeLine) (hl : as.length = min us.length vs.length) (G : Row us.toArray vs.toArray S h' as) (hacc : acc.toList = as.map Value.ref) :
    Inv X pins σ (lay H S as (xs.zip ys)) { s with heap := h' } ∧ (∀ b o, H b = some o → lay H S as (xs.zip ys) b = some o) ∧ H S = none ∧ (∀ (j : Nat) t, as[j]? = some t → H t = none ∧ t ≠ S ∧ ∃ x y, xs[j]? = some x ∧ ys[j]? = some y ∧ lay H S as (xs.zip ys) t = some (.tup [x, y])) := by
  refine Hold.out ?_
  simp (disch := (
  refine Hold.as ?_
  with_unfolding_all (
  have nd : as.Nodup := List.Pairwise.imp (fun {a b} (h : a < b) => Nat.ne_of_lt h) G.rise
  have newS : H S = none := I.hok.fresh hS0
  have new : ∀ t ∈ as, H t = none := fun t ht => I.hok.fresh (Nat.le_of_lt (Nat.lt_of_le_of_lt hS0 (G.above t ht)))
  have offS : ∀ t ∈ as, t ≠ S := fun t ht => Nat.ne_of_gt (G.above t ht)
  have low : ∀ b o, s.heap.get? b = some o → b ∉ as ∧ b ≠ S := fun b o e => ⟨fun z => absurd (Heap.lt_size e) (Nat.not_lt.mpr (Nat.le_of_lt (Nat.lt_of_le_of_lt hS0 (G.above b z)))), Nat.ne_of_lt (Nat.lt_of_lt_of_le (Heap.lt_size e) hS0)⟩
  have eS : lay H S as (xs.zip ys) S = some (.lst (as.map V.ref)) := by unfold lay; rw [if_pos rfl]
  have off : ∀ b, b ∉ as → b ≠ S → lay H S as (xs.zip ys) b = H b := fun b h1 h2 => by unfold lay; rw [if_neg h2, look_out h1]
  have kp : ∀ b u, H b = some u → lay H S as (xs.zip ys) b = some u := fun b u e => by
    rw [off b (fun z => by rw [new b z] at e; cases e) (fun z => by rw [z, newS] at e; cases e)]; exact e
  have at_ : ∀ (j : Nat) t, as[j]? = some t → ∃ x y u v, xs[j]? = some x ∧ ys[j]? = some y ∧ us[j]? = some u ∧ vs[j]? = some v ∧ RelV x u ∧ RelV y v ∧ lay H S as (xs.zip ys) t = some (.tup [x, y]) ∧ IsPair h' t u v := fun j t hj => by
    obtain ⟨u, v, e1, e2, e3⟩ := G.at_ j t hj
    have e1 : us[j]? = some u := by simpa using e1
    have e2 : vs[j]? = some v := by simpa using e2
    have hj1 : j < xs.length := by rw [rx.length]; exact (List.getElem?_eq_some_iff.mp e1).1
    have hj2 : j < ys.length := by rw [ry.length]; exact (List.getElem?_eq_some_iff.mp e2).1
    obtain ⟨u', f1, r1⟩ := rx.get (List.getElem?_eq_getElem hj1)
    obtain ⟨v', f2, r2⟩ := ry.get (List.getElem?_eq_getElem hj2)
    rw [e1] at f1; cases f1
    rw [e2] at f2; cases f2
    refine ⟨xs[j], ys[j], u, v, List.getElem?_eq_getElem hj1, List.getElem?_eq_getElem hj2, e1, e2, r1, r2, ?_, e3⟩
    unfold lay
    rw [if_neg (offS t (List.mem_of_getElem? hj)), look_at (z := (xs[j], ys[j])) nd hj (List.getElem?_zip_eq_some.mpr ⟨List.getElem?_eq_getElem hj1, List.getElem?_eq_getElem hj2⟩)]
  refine ⟨?_, kp, newS, fun j t hj => ?_⟩
  · refine I.call' (ch := []) rfl ⟨fun b o q _ _ _ => hk b o q, fun b o q _ _ _ => ⟨o.slots, hk b o q⟩, fun b o q n _ => ?_, fun b o q _ => ⟨o, hk b o q⟩, fun b xs q => kp b _ q, fun b o u q => kp b _ q, fun b ps q => ⟨#[], by rw [kp b _ q]; simp⟩⟩ (fun b u q => ?_) I.bare fun b z => by simp at z
    · obtain ⟨z1, z2⟩ := low b o q
      rw [off b z1 z2]; exact n
    · by_cases hb : b ∈ as
      · obtain ⟨j, hj⟩ := List.mem_iff_getElem?.mp hb
        obtain ⟨x, y, u', v', _, _, _, _, r1, r2, e3, e4⟩ := at_ j b hj
        rw [e3] at q; cases q
        exact ⟨by show 2 ≤ sizeLine; decide, [u', v'], .cons r1 (.cons r2 .nil), ⟨_, e4, rfl, _, rfl⟩⟩
      · by_cases hb2 : b = S
        · rw [hb2, eS] at q; cases q
          rw [hb2]
          refine ⟨by rw [List.length_map, hl]; exact hz, acc.toList, c, by rw [hacc]; exact LiI.vals_refs as, ?_⟩
          rw [Array.toArray_toList]; exact hS
        · rw [off b hb hb2] at q
          exact (I.hok b u q).stay (fun d v _ y => hk d v y) (fun d y => kp d _ y) fun d xs y => kp d _ y
  · obtain ⟨x, y, _, _, e1, e2, _, _, _, _, e3, _⟩ := at_ j t hj
    exact ⟨new t (List.mem_of_getElem? hj), offS t (List.mem_of_getElem? hj), x, y, e1, e2, e3⟩))) only [↓Hold.on]
end
end ZL
namespace Z
open PySem L2
end Z
namespace Z
open PySem L2
section
variable {K : PySem.W.Frag} {τ : T} {μ μ1 μ2 : M} {H H1 H2 H' : Hp} {σ : L2.St} {Φ : D → M → Prop} {ta tl te : TE} {tt tt1 : TT} {g g1 : TG} {wi wi1 : TI} {d e : D}
theorem cutD_all {ds : List D} {lo hi : Option Int} (h : HT.sIx ds.length 0 lo = 0 ∧ HT.sIx ds.length ds.length hi = ds.length) : cutD ds lo hi = ds := by
  unfold cutD
  rw [h.1, h.2]
  simp
theorem rs_tupA {ds : List D} {lo hi : Option Int} (q : Φ (.tup (cutD ds lo hi)) μ) : RS K (rSlA K) (.tup ds) lo hi μ Φ := fun H x c r Q k => by
  cases r with
  | @tup a xs _ ht hr =>
    refine ⟨a, xs, rfl, ht.sq, fun hw => ?_, fun hw p hp => k _ μ _ _ (fr_new hp) (con_new hp c) (.tup (.inl upd_same) (Rels.mono (tx_new hp) _ _ (hr.cut lo hi))) q⟩
    rw [hr.length] at hw
    rw [cutD_all hw] at q
    exact k _ μ _ _ Fr.refl c (.tup ht hr) q
theorem op_catAK {X : Cx} {K : PySem.W.Frag} (h : X.K = K) : OpR X (binaryOp .Add) (rCatA K) := by subst h; exact op_catA
theorem sl_tupAK {X : Cx} {K : PySem.W.Frag} (h : X.K = K) : SlR X (rSlA K) := by subst h; exact sl_tupA
theorem ro_catA {ds es : List D} (hz : ds.length + es.length ≤ sizeLine) (q : Φ (.tup (ds ++ es)) μ) : RO K (rCatA K) (.tup ds) (.tup es) μ Φ := fun H x y c r1 r2 Q k => by
  cases r1 with
  | @tup a xs _ ht hr =>
    cases r2 with
    | @tup b ys _ ht2 hr2 =>
      refine ⟨a, b, xs, ys, rfl, rfl, ht.sq, ht2.sq, by rw [hr.length, hr2.length]; exact hz, fun z => ?_, fun _ z => ?_, fun _ _ p hp => ?_⟩
      · subst z; cases hr; exact k _ μ _ _ Fr.refl c (.tup ht2 hr2) q
      · subst z; cases hr2; rw [List.append_nil] at q; exact k _ μ _ _ Fr.refl c (.tup ht hr) q
      · exact k _ μ _ _ (fr_new hp) (con_new hp c) (.tup (.inl upd_same) (Rels.mono (tx_new hp) _ _ (hr.append hr2))) q
variable {Ψ : List D → M → (M → M) → Prop}
end
end Z
namespace Z
open PySem L2
/-- plain, and n deep at most -/
structure OkN (n : Nat) (d : D) : Prop where
  p : D.plain d = true
  l : (D.py d).canLay0 = true
  d : (D.py d).depth ≤ n
theorem OkN.mono {n m : Nat} {d : D} (h : OkN n d) (l : n ≤ m) : OkN m d := ⟨h.p, h.l, Nat.le_trans h.d l⟩
theorem OkN.ok {n : Nat} {d : D} (h : OkN n d) (l : n ≤ 64) : D.ok d = true := by
  unfold D.ok SeqAt.shaped
  rw [h.p, h.l, decide_eq_true (Nat.le_trans h.d l)]
  rfl
theorem okn_int {i : Int} : OkN 0 (.int i) := ⟨by simp only [D.plain], by simp only [D.py, PyData.canLay0], by simp only [D.py, PyData.depth]; exact Nat.le_refl _⟩
theorem okn_all {n : Nat} : ∀ {ds : List D}, (∀ x ∈ ds, OkN n x) → D.plains ds = true ∧ PyData.canLayAll0 (D.pys ds) = true ∧ PyData.depthAll (D.pys ds) ≤ n
  | [], _ => ⟨by simp only [D.plains], by simp only [D.pys, PyData.canLayAll0], by simp only [D.pys, PyData.depthAll]; exact Nat.zero_le _⟩
  | x :: ds, h => by
    obtain ⟨h1, h2, h3⟩ := okn_all (ds := ds) fun y hy => h y (List.mem_cons_of_mem _ hy)
    have hx := h x List.mem_cons_self
    refine ⟨by simp only [D.plains, hx.p, h1, Bool.and_self], by simp only [D.pys, PyData.canLayAll0, hx.l, h2, Bool.and_self], ?_⟩
    simp only [D.pys, PyData.depthAll]
    exact Nat.max_le.mpr ⟨hx.d, h3⟩
theorem okn_tup {n : Nat} {ds : List D} (h : ∀ x ∈ ds, OkN n x) : OkN (n + 1) (.tup ds) := by
  obtain ⟨h1, h2, h3⟩ := okn_all h
  exact ⟨by simp only [D.plain]; exact h1, by simp only [D.py, PyData.canLay0]; exact h2, by simp only [D.py, PyData.depth]; omega⟩
theorem eqv_self {n : Nat} {d : D} (h : OkN n d) : D.eqv d d = true := SeqAt.eqv_refl _ h.l
mutual
def D.it : D → Bool
  | .int _ => true
  | .tup ds => D.its ds
  | _ => false
def D.its : List D → Bool
  | [] => true
  | d :: ds => D.it d && D.its ds
end
mutual
theorem eqv_it : ∀ (d e : D), D.it d = true → D.it e = true → (PyData.eqv (D.py d) (D.py e) = true ↔ d = e)
  | .int i, .int j, _, _ => by simp [D.py, PyData.eqv]
  | .int i, .tup es, _, _ => by simp [D.py, PyData.eqv]
  | .tup ds, .int j, _, _ => by simp [D.py, PyData.eqv]
  | .tup ds, .tup es, h, k => by
    simp only [D.it] at h k
    simp only [D.py, PyData.eqv, D.tup.injEq]
    exact eqv_its ds es h k
  | .non, _, h, _ => by simp [D.it] at h
  | .bl _, _, h, _ => by simp [D.it] at h
  | .str _, _, h, _ => by simp [D.it] at h
  | .ty _, _, h, _ => by simp [D.it] at h
  | .rol _, _, h, _ => by simp [D.it] at h
  | .ref _, _, h, _ => by simp [D.it] at h
  | .int _, .non, _, h => by simp [D.it] at h
  | .int _, .bl _, _, h => by simp [D.it] at h
  | .int _, .str _, _, h => by simp [D.it] at h
  | .int _, .ty _, _, h => by simp [D.it] at h
  | .int _, .rol _, _, h => by simp [D.it] at h
  | .int _, .ref _, _, h => by simp [D.it] at h
  | .tup _, .non, _, h => by simp [D.it] at h
  | .tup _, .bl _, _, h => by simp [D.it] at h
  | .tup _, .str _, _, h => by simp [D.it] at h
  | .tup _, .ty _, _, h => by simp [D.it] at h
  | .tup _, .rol _, _, h => by simp [D.it] at h
  | .tup _, .ref _, _, h => by simp [D.it] at h
theorem eqv_its : ∀ (ds es : List D), D.its ds = true → D.its es = true → (PyData.eqvAll (D.pys ds) (D.pys es) = true ↔ ds = es)
  | [], [], _, _ => by simp [D.pys, PyData.eqvAll]
  | [], e :: es, _, _ => by simp [D.pys, PyData.eqvAll]
  | d :: ds, [], _, _ => by simp [D.pys, PyData.eqvAll]
  | d :: ds, e :: es, h, k => by
    simp only [D.its, Bool.and_eq_true] at h k
    have h1 := eqv_it d e h.1 k.1
    have h2 := eqv_its ds es h.2 k.2
    simp only [D.pys, PyData.eqvAll, Bool.and_eq_true, List.cons.injEq]
    rw [h1, h2]
end
theorem deqv {d e : D} (h : D.it d = true) (k : D.it e = true) : D.eqv d e = true ↔ d = e := eqv_it d e h k
end Z
namespace Z
open PySem L2
section
variable {K : PySem.W.Frag} {μ μ' : M} {Φ : D → M → Prop} {a b l : Addr} {X Y : MO}
theorem set_del {p : Addr} {m : MO} (h : μ p = none) : (μ.set p m).del p = μ := by
  funext x
  by_cases hx : x = p
  · subst hx; rw [del_same, h]
  · rw [del_ne hx, set_ne hx]
end
end Z
namespace PySem.HandSPX
open PySem PySem.Spec PySem.Calls
structure NewIn (B : String) (tl : List Value) : Prop where
  b : tl.contains (.type B) = true
  a : tl.contains (.type "AttributeError") = false
  n : tl.contains (.type "NameError") = false
section
variable {prog : Program} {w : World} {A : Around} {E : Value → Shared → Prop} {h : Heap} {g : Array GenState} {d : Drawn} {t : Nat} {os : OsState} {C : Addr} {B newId initId : String} {bmB rest : List Value}
/-- the class of the text at C: its objects are made by newId, B is of its chain, the two classes with fields of their own are not -/
structure OwnAt (h : Heap) (C : Addr) (B newId : String) : Prop where
  obj : ∃ (nm q : Str) (N : Addr) (bs bm : List Value) (hdct : Bool) (sn : List Str) (sub : List Value) (ab : Bool) (col : Option Bool) (dd : Option Addr) (k0 k1 k2 k3 k5 : Option Value), h.get? C = some (excClassObj nm q C N bs bm hdct sn sub ab col dd k0 k1 k2 k3 k5 newId) ∧
    (Value.ref C :: bm).contains (.type B) = true ∧ (Value.ref C :: bm).contains (.type "AttributeError") = false ∧ (Value.ref C :: bm).contains (.type "NameError") = false
/-- newId may be asked for such an object -/
theorem OwnAt.asked (c : OwnAt h C B newId) (F : ExcBaseFacts B newId initId bmB) {M : Model} {Q : Unit → Shared → Prop} (q : Q () ⟨h, g, d, t, os⟩) : wpAny M A (checkBuiltinCall newId ⟨.ref C :: rest, []⟩) Q E ⟨h, g, d, t, os⟩ := by
  obtain ⟨_, _, _, _, _, _, _, _, _, _, _, _, _, _, _, _, at_, isB, _⟩ := c.obj
  have plain := F.noStar
  simp only [checkBuiltinCall, F.newKind, F.newSplit, F.newRow]
  repeat' first
    | refine wpAny_loadPart_at at_ ?_
    | (refine wpAny_isSubtype_exc at_ ?_; rw [isB])
    | refine wpAny_staticBase_exc at_ ?_
    | refine wpAny_madeBy_exc at_ ?_
    | simp only [bne_self_eq_false, Bool.false_eq_true, if_false]
    | wp_step
  exact q
/-- what newId lays: the tuple of the arguments, then the object -/
theorem OwnAt.laid (c : OwnAt h C B newId) (F : ExcBaseFacts B newId initId bmB) (few : rest.length ≤ sizeLine) {R : Result → Shared → Prop}
    (q : R (.ok (.ret (.ref (h.objs.size + 1)))) ⟨(h.push (W.kdv_tup rest)).push (excO C h.objs.size), g, d, t, os⟩) : codeAny (model prog w) A (.builtin newId ⟨.ref C :: rest, []⟩) R ⟨h, g, d, t, os⟩ := by
  obtain ⟨_, _, _, _, _, _, _, _, _, _, _, _, _, _, _, _, at_, isB, notA, notN⟩ := c.obj
  have ends := F.ends
  apply codeAny_builtinAt F.entry
  unfold Builtin.«BaseException.__new__»
  apply wpAt_bind
  show wpAt _ _ _ (stack >>= _) _ _ _
  apply wpAt_bind
  apply wpAt_stack
  intro top below
  apply wpAt_of_wpAny
  wp_walk
  apply wpAt_of_wpAny
  rw [F.owner]
  repeat' first
    | with_reducible refine wpAny_madeHere_exc F.canon at_ ?_
    | with_reducible refine wpAny_loadPart_at at_ ?_
    | (with_reducible refine wpAny_isSubtype_exc at_ ?_; simp only [isB, notA, notN])
    | wp_step
  rw [show h.objs.size + 1 = (h.push (W.kdv_tup rest)).objs.size from (Heap.size_push ..).symm] at q
  exact q
/-- type.__call__ at C: laid, then given to its own __init__, which gives None -/
theorem OwnAt.text (c : OwnAt h C B newId) (F : ExcBaseFacts B newId initId bmB) (few : rest.length ≤ sizeLine) {fI : Addr} {Q : Fin → Shared → Prop} (init : W.Looks (model prog w) h (typeLookup (.ref C) "__init__") (some (.ref fI)))
    (bind : ∀ self, W.Looks (model prog w) h (bindSpecial (.ref fI) self) (.ref fI, [self]))
    (q : codeAny (model prog w) A (.call (.ref fI) ⟨.ref (h.objs.size + 1) :: rest, []⟩) (fun r z => match r with | .ok (.ret v) => v = .none ∧ Q (.done (.ret (.ref (h.objs.size + 1)))) z | .ok _ => False | .error e => E e z)
      ⟨(h.push (W.kdv_tup rest)).push (excO C h.objs.size), g, d, t, os⟩) : wpAny (model prog w) A (Builtin.«type.__call__» ⟨.ref C :: rest, []⟩) Q E ⟨h, g, d, t, os⟩ := by
  refine Hold.out ?_
  simp (disch := (
  refine Hold.as ?_
  with_unfolding_all (
  have c' := c
  obtain ⟨_, _, _, _, bm, _, _, _, _, _, _, _, _, _, _, _, at_, _⟩ := c'.obj
  have more : ∀ b o, h.get? b = some o → ((h.push (W.kdv_tup rest)).push (excO C h.objs.size)).get? b = some o := fun b o e => Heap.get?_push_of_some _ (Heap.get?_push_of_some _ e)
  have new : ((h.push (W.kdv_tup rest)).push (excO C h.objs.size)).get? (h.objs.size + 1) = some (excO C h.objs.size) := by heap_get
  have itself : (Value.ref C :: bm).contains (.ref C) = true := by rw [List.contains_cons, beq_self_eq_true, Bool.true_or]
  repeat' first
    | with_reducible refine wpAny_loadPart_at at_ ?_
    | with_reducible refine wpAny_madeBy_exc at_ ?_
    | wp_step
  apply codeAny_call_builtin_code (Code.quiet_builtin _ F.quiet) (c.asked F _)
  apply c.laid F few
  show wpAny _ _ _ _ _ _
  unfold isInstance
  have at2 := more _ _ at_
  repeat' first
    | with_reducible refine wpAny_loadPart_at new ?_
    | (with_reducible refine wpAny_isSubtype_exc at2 ?_; rw [itself])
    | wp_step
  show wpAny _ _ (typeLookup (.ref C) _) _ _ _
  apply (init.keeps more).at
  apply wpAny_holding
  apply wpAny_bind
  apply ((bind (.ref (h.objs.size + 1))).keeps more).at
  apply wpAny_bind
  apply wpAny_call
  apply codeAny_mono q
  intro r z out
  match r, out with
  | .error _, out => exact out
  | .ok (.ret _), ⟨rfl, out⟩ => first | exact wpAny_pure (wpAny_pure out) | (wp_walk; exact out)))) only [↓Hold.on]
/-- C(..) -/
theorem OwnAt.called (c : OwnAt h C B newId) (F : ExcBaseFacts B newId initId bmB) (few : rest.length ≤ sizeLine) {fI : Addr} {R : Result → Shared → Prop} (init : W.Looks (model prog w) h (typeLookup (.ref C) "__init__") (some (.ref fI)))
    (bind : ∀ self, W.Looks (model prog w) h (bindSpecial (.ref fI) self) (.ref fI, [self]))
    (q : codeAny (model prog w) (A.under (.builtin "type.__call__" ⟨.ref C :: rest, []⟩)) (.call (.ref fI) ⟨.ref (h.objs.size + 1) :: rest, []⟩) (W.InitBack (h.objs.size + 1) R) ⟨(h.push (W.kdv_tup rest)).push (excO C h.objs.size), g, d, t, os⟩) :
    codeAny (model prog w) A (.call (.ref C) ⟨rest, []⟩) R ⟨h, g, d, t, os⟩ := by
  obtain ⟨_, _, _, _, _, _, _, _, _, _, _, _, _, _, _, _, at_, _⟩ := id c.obj
  have looked := tc_lookup
  have bound := tc_bind (.ref C)
  have isType : (⟨h, g, d, t, os⟩ : Shared).TypeIs (.ref C) "type" := ⟨_, at_, rfl⟩
  apply codeAny_of_tree
  show wpAny _ _ (callAny (.ref C) _) _ _ _
  repeat any_goals first
    | assumption
    | with_reducible refine wpAny_loadPart_at at_ ?_
    | wp_step
  refine ⟨rfl, ?_⟩
  apply codeAny_call_builtin_at (Code.quiet_builtin _ (by decide +kernel)) entry_typeCall
  apply wpAny_check_type_call_sub at_
  apply c.text F few init bind
  apply codeAny_mono q
  intro r z out
  match r, out with
  | .error _, out => exact out
  | .ok (.ret _), out => exact out
end
end PySem.HandSPX
namespace XO
open PySem PySem.Spec PyProof.Rows L2
open Builtin Builtin.ObjectAttr
def isR : Value → Bool
  | .ref _ => true
  | _ => false
/-- own classes, then the base's chain -/
def rT (tl l : List Value) : Bool := l.dropWhile isR == tl
theorem isR_ex : ∀ {a : Value}, isR a = true → ∃ c, a = .ref c
  | .ref c, _ => ⟨c, rfl⟩
theorem rT_eq {tl : List Value} {a : Value} {r : List Value} (h : rT tl (a :: r) = true) : (∃ c, a = .ref c ∧ rT tl r = true) ∨ a :: r = tl := by
  unfold rT at h
  rw [List.dropWhile_cons] at h
  by_cases q : isR a = true
  · rw [if_pos q] at h
    obtain ⟨c, e⟩ := isR_ex q
    exact .inl ⟨c, e, h⟩
  · rw [if_neg q] at h
    exact .inr (beq_iff_eq.mp h)
theorem rT_nil {tl : List Value} (h : rT tl [] = true) : [] = tl := beq_iff_eq.mp h
theorem rT_pass {tl : List Value} (hp : ∀ self, refuseLoop self "__setattr__" tl = pure ()) (self : Value) : ∀ l : List Value, rT tl l = true → refuseLoop self "__setattr__" l = pure ()
  | [], h => by rw [rT_nil h]; exact hp self
  | a :: r, h => by
    rcases rT_eq h with ⟨c, e, q⟩ | e
    · rw [e, refuseLoop_ref]; exact rT_pass hp self r q
    · rw [e]; exact hp self
theorem rT_has {tl : List Value} (X : String) : ∀ l : List Value, rT tl l = true → l.contains (.type X) = tl.contains (.type X)
  | [], h => by rw [rT_nil h]
  | a :: r, h => by
    rcases rT_eq h with ⟨c, e, q⟩ | e
    · rw [e, List.contains_cons, rT_has X r q]; rfl
    · rw [e]
/-- such a class as it stands in the heap -/
theorem ownAt {h : Heap} {C N : Addr} {B newId : String} {tl bm bs : List Value} {nm q : Str} {hdct : Bool} {sn : List Str} {sub : List Value} {ab : Bool} {col : Option Bool} {dd : Option Addr} {k0 k1 k2 k3 k5 : Option Value} (NI : PySem.HandSPX.NewIn B tl)
    (at_ : h.get? C = some (excClassObj nm q C N bs bm hdct sn sub ab col dd k0 k1 k2 k3 k5 newId)) (chain : rT tl bm = true) : PySem.HandSPX.OwnAt h C B newId := by
  have other : ∀ (Y : String), (Value.ref C :: bm).contains (.type Y) = tl.contains (.type Y) := fun Y => by
    rw [List.contains_cons, rT_has Y bm chain]
    rfl
  exact ⟨_, _, _, _, bm, _, _, _, _, _, _, _, _, _, _, _, at_, (other _).trans NI.b, (other _).trans NI.a, (other _).trans NI.n⟩
/-- what is asked of a base: its chain is tl -/
structure Bt (tl : List Value) : Prop where
  pass : ∀ self, refuseLoop self "__setattr__" tl = pure ()
  obj : tl.contains (.type "object") = true
theorem rT_some {tl l : List Value} (b : Bt tl) (h : rT tl l = true) : l.isEmpty = false := by
  cases l with
  | nil =>
    have q := b.obj
    rw [← rT_nil h] at q
    cases q
  | cons _ _ => rfl
abbrev tlIE : List Value := [.type "IndexError", .type "LookupError", .type "Exception", .type "BaseException", .type "object"]
abbrev tlVE : List Value := [.type "ValueError", .type "Exception", .type "BaseException", .type "object"]
theorem bt_IE : Bt tlIE := ⟨fun self => by kernel_rfl, by decide +kernel⟩
section
variable {prog : Program} {w : World} {A : Around} {E : Value → Shared → Prop} {R : Result → Shared → Prop} {hp : Heap} {g : Array GenState} {dr : Drawn} {t : Nat} {os : OsState}
/-- the first field of an exception of such a class -/
theorem osa_first {K : W.Frag} {nm : Str} {tk : Tok} {u : Value} {e C : Addr} {fv : Array Value} {cd : ClassData} {tl : List Value} (bt : Bt tl)
    (kin : K.In hp) (at_e : hp.get? e = some { cls := .ref C, data := .fields fv }) (cl : W.clsIn K C = some cd) (ch : rT tl cd.mro = true) (own : cd.hasDict = true) (none_ : W.findIn K (.ref C) nm = some none)
    (fin : ∀ h2 tk2 dx, (∀ b o, b ≠ e → hp.get? b = some o → h2.get? b = some o) → hp.objs.size ≤ dx → dx ≠ e → h2.get? e = some { cls := .ref C, dict := some dx, data := .fields fv } →
      h2.Ns1 dx (fun y => if y = nm then some u else none) → R (.ok (.ret .none)) ⟨h2, g, dr, tk2, os⟩) :
    codeAny (model prog w) A (.call (.builtin "object.__setattr__") ⟨[.ref e, .str nm tk, u], []⟩) R ⟨hp, g, dr, t, os⟩ := by
  refine Hold.out ?_
  simp (disch := (
  refine Hold.as ?_
  with_unfolding_all (
  have inst : W.InstAt hp e { cls := .ref C, data := .fields fv } C none := ⟨at_e, rfl, rfl, trivial⟩
  have sto := F.store_object
  have isO : cd.mro.contains (.type "object") = true := (rT_has "object" _ ch).trans bt.obj
  have ene : e ≠ hp.objs.size := Nat.ne_of_lt (Heap.lt_size at_e)
  have isI : W.Looks (model prog w) hp (isInstance (.ref e) (.type "object")) true :=
    inst.type.andThen (W.looks_mroIn kin (by unfold W.mroIn; rw [cl, Option.bind_some, if_neg (by rw [rT_some bt ch]; decide), isO]))
  refine codeAny_call_builtin sto.slot.plain sto.entry
    (@W.check_slot (model prog w) _ _ ⟨hp, g, dr, t, os⟩ "object.__setattr__" "object" "__setattr__" (.ref e) [.str nm tk, u] [] _ sto.kind sto.split isI (sto.args (.ref e) (.str nm tk) u) ?_)
  have chain : W.Looks (model prog w) hp (mroOf (.ref C)) cd.mro := (W.looks_clsIn kin cl).andThen .now
  have noTaker : W.Looks (model prog w) hp (storeTaker? none) none := .now
  have theCls : W.Looks (model prog w) hp (classData C) cd := W.looks_clsIn kin cl
  rw [W.osa_eq, refuse_eq]
  refine wpAny_bind (wpAny_bind (inst.type.at (wpAny_bind (chain.at ?_))))
  rw [rT_pass bt.pass _ _ ch]
  refine wpAny_pure (wpAny_bind (inst.type.at (wpAny_bind ((W.looks_findIn kin none_).at (wpAny_bind (noTaker.at ?_))))))
  show wpAny _ _ (storeInOwnDict (.ref e) (.ref C) (.str nm tk) nm u false) _ _ _
  obtain ⟨n0, b0, m0, s0, q0, hd0, sn0, sb0, a0, c0, d0⟩ := cd
  dsimp only at own
  subst own
  unfold storeInOwnDict ownDictForStores
  repeat (first | with_reducible refine HandSPX.store_in_new ?_ ?_ | with_reducible refine wpAny_loadPart_at at_e ?_ | with_reducible refine theCls.at ?_ | wp_step)
  · exact ⟨_, #[], _, (Heap.get?_update_ne _ _ _ _ ene.symm).trans (Heap.get?_push_at rfl rfl), rfl, fun e he => absurd he (by simp), fun _ => rfl⟩
  · intro h2 tk2 ns2 same
    have e_old : (hp.push { cls := .type "dict", data := .dict #[] }).get? e = some { cls := .ref C, data := .fields fv } := Heap.get?_push_of_some _ at_e
    refine fin h2 tk2 hp.objs.size (fun b o nb at_b => ?_) (Nat.le_refl _) ene.symm ?_ ns2
    · exact (same.2 b (Nat.ne_of_lt (Heap.lt_size at_b))).trans ((Heap.get?_update_ne _ _ _ _ nb).trans (Heap.get?_push_of_some _ at_b))
    · exact (same.2 e ene).trans (Heap.get?_update_self _ e_old rfl)))) only [↓Hold.on]
end
/-- what the written part says of such a class -/
structure OexB (K : PySem.W.Frag) (C : Addr) (newId : String) (tl : List Value) : Prop where
  cls : ∃ nm q N bs bm sn sub ab col dd k0 k1 k2 k3 k5, K.lookup C = some (excClassObj nm q C N bs bm true sn sub ab col dd k0 k1 k2 k3 k5 newId) ∧ rT tl bm = true
  bt : Bt tl
  sa : PySem.W.findIn K (.ref C) "__setattr__" = some (some (.builtin "object.__setattr__"))
  exC : PySem.W.subIn K (.ref C) (.type "BaseException") = some true
  tyC : PySem.W.typeIn K (.ref C) = some (.type "type")
  kC : PySem.W.keepIn K (.ref C) = true
section
variable {X : Cx} {pins : List (Addr × Obj)} {σ : L2.St} {H : Hp} {s : Shared} {a C dx : Addr} {f : Str} {y : V} {u : Value} {Q : Unit → Shared → Prop} {E : Value → Shared → Prop} {A : Around} {newId : String} {tl : List Value}
theorem put_first (T : OexB X.K C newId tl) (I : Inv X pins σ H s) (e : H a = some (exo a C none)) (none_ : PySem.W.findIn X.K (.ref C) f = some none) (ry : RelV y u)
    (k : ∀ dx s2, H dx = none → dx ≠ a → Inv X pins σ (upd (upd H dx (exd dx [(f, y)])) a (exo a C (some dx))) s2 → Q () s2) : wpAny (model X.prog X.w) A (setAttr (.ref a) f u) Q E s := by
  refine Hold.out ?_
  simp (disch := (
  refine Hold.as ?_
  with_unfolding_all (
  obtain ⟨nm, q, N, bs, bm, sn, sub, ab, col, dd, k0, k1, k2, k3, k5, atC, chain⟩ := T.cls
  have cl : PySem.W.clsIn X.K C = some { name := nm, bases := bs, mro := .ref C :: bm, ns := N, qualname := q, hasDict := true, slotNames := sn, subclasses := sub, abstract := ab, collection := col, hasDel := false } := by
    unfold PySem.W.clsIn; rw [atC] <;> rfl
  have chain2 : rT tl (.ref C :: bm) = true := by unfold rT at chain ⊢; rw [List.dropWhile_cons, if_pos (by rfl)]; exact chain
  obtain ⟨t1, at_a⟩ := exo_at I.hok e
  obtain ⟨hp, g, dr, t, os⟩ := s
  refine PySem.W.set_plain I.kIn (ox := { cls := .ref C, dict := none, data := .fields #[.ref t1, .none, .none, .none, .bool false, .none] }) (od := none) ⟨at_a, rfl, rfl, trivial⟩ T.sa ?_
  refine osa_first T.bt I.kIn at_a cl chain2 rfl none_ (fun h2 tk2 dx keep big dne hx hn => ?_)
  have free : H dx = none := I.hok.fresh big
  have nd : ∀ {b : Addr} {o : Obj}, hp.get? b = some o → b ≠ dx := fun {b o} z => Nat.ne_of_lt (Nat.lt_of_lt_of_le (Heap.lt_size z) big)
  have na : ∀ {b : Addr}, H b = none → b ≠ a := fun {b} n z => by rw [z, e] at n; cases n
  have un : Un X.fs [] H (upd (upd H dx (exd dx [(f, y)])) a (exo a C (some dx))) hp h2 :=
    ⟨fun b o z n _ _ => keep b o (na n) z, fun b o z n _ _ => ⟨o.slots, keep b o (na n) z⟩, fun b o z n _ => by rw [upd_ne (na n), upd_ne (nd z)]; exact n,
      fun b o z _ => by
        by_cases hb : b = a
        · exact ⟨_, by rw [hb]; exact hx⟩
        · exact ⟨o, keep b o hb z⟩,
      fun b xs z => by rw [upd_ne (at_ne e z exo_tup), upd_ne (ne_of_none z free)]; exact z,
      fun b o v z => by rw [upd_ne (at_ne e z exo_frz), upd_ne (ne_of_none z free)]; exact z,
      fun b ps z => ⟨#[], by rw [upd_ne (at_ne e z exo_tbl), upd_ne (ne_of_none z free), z]; simp⟩⟩
  refine k dx _ free dne (I.un (t' := tk2) un fun b o z => ?_)
  by_cases hb : b = a
  · subst hb
    rw [upd_same] at z
    cases z
    exact exo_ok hx
  by_cases hd : b = dx
  · subst hd
    rw [upd_ne hb, upd_same] at z
    cases z
    exact exd_ok hn (relO_put (fs := []) ry fun g => True.intro)
  rw [upd_ne hb, upd_ne hd] at z
  refine (I.hok b o z).stay (fun c v hc r => keep c v ?_ r) (fun c hc => ?_) (fun c xs hc => ?_)
  · rcases hc with hc | hc
    · rw [hc]; exact hb
    · exact at_ne e hc exo_own
  · rw [upd_ne (at_ne e hc exo_own), upd_ne (ne_of_none hc free)]; exact hc
  · rw [upd_ne (at_ne e hc exo_tup), upd_ne (ne_of_none hc free)]; exact hc))) only [↓Hold.on]
end
/-- self.f = e, in the making -/
def tOs1 (K : PySem.W.Frag) (newId : String) (tl : List Value) (f : Str) (to te : TE) : TS := fun D σ H => te σ H fun y H1 => to σ H1 fun x H2 => ∃ a C : Addr, x = .ref a ∧ OexB K C newId tl ∧ PySem.W.findIn K (.ref C) f = some none ∧
  H2 a = some (exo a C none) ∧ ∀ dx, H2 dx = none → dx ≠ a → D.nx σ (upd (upd H2 dx (exd dx [(f, y)])) a (exo a C (some dx)))
theorem ps_os1 {X : Cx} {o e : Expr} {to te : TE} {f : Str} {p pos : Pos} {newId : String} {tl : List Value} (ho : PE X o to) (he : PE X e te) (hs : swapsWith e (some (.Attribute o f p)) pos.line X.env = pure false := by rfl) :
    PS X (.Assign [.Attribute o f p] e pos) (tOs1 X.K newId tl f to te) := by
  refine ⟨fun pins s σ H D I h => ?_⟩
  refine plainObj_wpAny_Assign_Attribute (thn (he.run pins s σ H _ I h) fun v s1 ⟨y, H1, I1, r1, q1⟩ => thn (ho.run pins s1 σ H1 _ I1 q1) fun u s2 ⟨x, H2, I2, r2, a, C, ex, T, none_, ea, q⟩ => ?_) hs
  subst ex
  obtain rfl : u = Value.ref a := r2
  exact put_first T I2 ea none_ r1 fun dx s3 n ne J => ⟨σ, _, J, q dx n ne⟩
/-- __init__(self, v) of such a class -/
def spI1 (K : PySem.W.Frag) (newId : String) (tl : List Value) (f : Str) : Sp := fun vs H Q _ => ∃ (a C : Addr) (y : V), vs = [.ref a, y] ∧ OexB K C newId tl ∧ PySem.W.findIn K (.ref C) f = some none ∧ H a = some (exo a C none) ∧
  ∀ dx, H dx = none → dx ≠ a → Q .non (upd (upd H dx (exd dx [(f, y)])) a (exo a C (some dx)))
/-- C(e) -/
def tMk1 (C : Addr) (f : Str) (ta : TA) : L2.St → Hp → XK → Prop := fun σ H Q => ta σ H fun vs H1 => ∃ y, vs = [y] ∧ ∀ dx, H1 dx = none → Q (.ref C) (some dx) (upd H1 dx (.xd [(f, y)]))
section
variable {X : Cx} {C fI : Addr} {k : Nat} {fd : FuncData} {B newId initId : String} {tl : List Value} {x f p1 p2 : Str} {e : Expr} {es : List Expr} {ta : TA} {p pos : Pos}
theorem pmk_1 {tl0 : List Value} (F : ExcBaseFacts B newId initId tl0) (NI : PySem.HandSPX.NewIn B tl) (T : OexB X.K C newId tl) (none_ : PySem.W.findIn X.K (.ref C) f = some none) (iC : PySem.W.findIn X.K (.ref C) "__init__" = some (some (.ref fI))) (tI : PySem.W.typeIn X.K (.ref fI) = some (.type "function"))
    (G : FnOk X.prog X.w X.K X.mg X.base CX0 k fI fd [p1, p2] (spI1 X.K newId tl f)) (hr : Room (k + 1) X.A) (hb : Binds X.K fd [p1, p2] []) (hg : Gl X x) (hm : X.mg x = some (.ref C)) (ha : PA X (e :: es) ta)
    (hdb : (x == ("__debug__" : Str)) = false := by decide) (he : starEach (e :: es) X.env = (false, eval e X.env) :: starEach es X.env := by rfl) (hpl : (backTo pos (starEach es X.env)).any (·.1) = false := by rfl) :
    PMk X (.Call (.Name x p) (e :: es) [] pos) (tMk1 C f ta) := by
  intro pins s σ H Q I h
  obtain ⟨nm, q, N, bs, bm, sn, sub, ab, col, dd, k0, k1, k2, k3, k5, atC, chain⟩ := T.cls
  refine wpAny_Call_Name_kw (ld_glob I hg hm ?_ hdb)
  refine PySem.W.callWith_K (h₀ := X.base) I.ok.mod.kin T.kC (thn (ha.run pos pins s σ H _ I h) fun us s1 ⟨vs, H1, I1, r1, y, ev, q1⟩ => ⟨I1.kIn, ?_⟩) he hpl
  subst ev
  show wpAny _ _ (call (.ref C) us) _ _ _
  cases r1 with
  | @cons _ u0 _ ur ry rn =>
  cases rn
  obtain ⟨hp, g, dr, tk, os⟩ := s1
  have le1 : hp.objs.size ≤ hp.objs.size + 1 := Nat.le_succ _
  have free : H1 (hp.objs.size + 1) = none := I1.hok.fresh le1
  have old : ∀ b o, hp.get? b = some o → ((hp.push (PySem.W.kdv_tup [u0])).push (PySem.HandSPX.excO C hp.objs.size)).get? b = some o := fun b o z => Heap.get?_push_of_some _ (Heap.get?_push_of_some _ z)
  have hget : ((hp.push (PySem.W.kdv_tup [u0])).push (PySem.HandSPX.excO C hp.objs.size)).get? (hp.objs.size + 1) = some (PySem.HandSPX.excO C hp.objs.size) := by heap_get
  have J : Inv X pins σ (upd H1 (hp.objs.size + 1) (exo (hp.objs.size + 1) C none)) ⟨(hp.push (PySem.W.kdv_tup [u0])).push (PySem.HandSPX.excO C hp.objs.size), g, dr, tk, os⟩ :=
    I1.laid (t' := tk) (a := hp.objs.size + 1) (o := exo (hp.objs.size + 1) C none) old le1 (exo_ok hget)
  have rr : Vals [V.ref (hp.objs.size + 1), y] [Value.ref (hp.objs.size + 1), u0] := .cons rfl (.cons ry .nil)
  have small : [u0].length ≤ sizeLine := by rw [sizeLine_eq]; exact (by decide : 1 ≤ 16777216)
  have bd := hb _ [Value.ref (hp.objs.size + 1), u0] J.kIn rfl
  rw [List.append_nil] at bd
  have ask : spI1 X.K newId tl f [V.ref (hp.objs.size + 1), y] (upd H1 (hp.objs.size + 1) (exo (hp.objs.size + 1) C none))
      (fun v H2 => v = .non ∧ ∃ d, H2 (hp.objs.size + 1) = some (exo (hp.objs.size + 1) C (some d)) ∧ H2 d = some (exd d [(f, y)]) ∧ H1 d = none ∧ Q (.ref C) (some d) (upd (L2.del H2 (hp.objs.size + 1)) d (.xd [(f, y)]))) (fun _ _ _ => False) := by
    refine ⟨_, C, y, rfl, T, none_, upd_same, fun d fr ne => ⟨rfl, d, upd_same, by rw [upd_ne ne, upd_same], by rw [upd_ne ne] at fr; exact fr, ?_⟩⟩
    have e2 : upd (L2.del (upd (upd (upd H1 (hp.objs.size + 1) (exo (hp.objs.size + 1) C none)) d (exd d [(f, y)])) (hp.objs.size + 1) (exo (hp.objs.size + 1) C (some d))) (hp.objs.size + 1)) d (.xd [(f, y)]) = upd H1 d (.xd [(f, y)]) := by
      funext b
      by_cases b1 : b = d
      · rw [b1, upd_same, upd_same]
      · rw [upd_ne b1, upd_ne b1]
        by_cases b2 : b = hp.objs.size + 1
        · rw [b2, del_same, free]
        · rw [L2.del_ne b2, upd_ne b2, upd_ne b1, upd_ne b2]
    rw [e2]
    exact q1 d (by rw [upd_ne ne] at fr; exact fr)
  refine wpAny_call ((ownAt NI (I1.kIn _ _ atC) chain).called F small (PySem.W.looks_findIn I1.kIn iC) (fun self => PySem.W.bind_fn I1.kIn self tI)
    (codeAny_mono (G.run _ X.stack _ _ ⟨[Value.ref (hp.objs.size + 1), u0], []⟩ [Value.ref (hp.objs.size + 1), u0] _ _ (fun _ _ _ => False) (hr.make C [u0] []) (J.env0.make C [u0] []) bd rr ask) fun r s2 res => ?_))
  cases r with
  | error er => exact res.elim
  | ok fl =>
    cases fl with
    | ret u =>
      obtain ⟨v, H2, os2, bare2, un2, hok2, rv, ev, d, ea, ed, hd1, q2⟩ := res
      subst ev
      obtain ⟨h2, g2, d2, t2, o2⟩ := s2
      exact ⟨rv, mk_end (raises_own T.exC T.tyC) I1 le1 old un2 hok2 os2 bare2 ea ed hd1 q2⟩
    | next => exact res.elim
    | brk => exact res.elim
    | cont => exact res.elim
end
/-- the text of such an __init__ keeps spI1 -/
theorem init_ok {P : Program} {w : World} {K : PySem.W.Frag} {newId : String} {tl : List Value} {f p1 p2 : Str} {D : Ends} {vs : List V} {H : Hp} {Q : VK} {E : XK} (h : spI1 K newId tl f vs H Q E) :
    tOs1 K newId tl f (tVar 0) (tVar 1) { nx := fun _ H' => Q .non H', rt := Q } (L2.start [p1, p2] vs) H := by
  obtain ⟨a, C, y, ev, T, none_, ea, q⟩ := h
  subst ev
  exact ⟨y, rfl, _, rfl, a, C, rfl, T, none_, ea, fun dx n ne => q dx n ne⟩
end XO
namespace Z
open PySem L2
/-- o.m(..) where it may let an exception out -/
def tMethX (C : Addr) (m : Str) (sp : Sp) (E : L2.St → XK) (ta : TE) (t : TA) : TE := fun σ H Q => ta σ H fun x H1 => ∃ a dx fs, x = .ref a ∧ H1 a = some (.ins C dx fs) ∧ fs.lookup m = none ∧ t σ H1 fun vs H2 => sp (x :: vs) H2 Q (E σ)
abbrev XW := Str → Option Addr → M → Prop
/-- P args store wish out -/
abbrev PT4 := List D → M → (D → M → Prop) → XW → Prop
def spX (K : PySem.W.Frag) (cn : Str → Option Value) (P : PT4) : Sp := fun vs H Q E => ∃ ds μ Φ Ξ, Rels K H vs ds ∧ Z.Con K H μ ∧ P ds μ Φ Ξ ∧ (∀ d μ' v H', Fr μ μ' H H' → Z.Con K H' μ' → Rel K H' v d → Φ d μ' → Q v H') ∧
  ∀ x dx μ' cls H', cn x = some cls → Fr μ μ' H H' → Z.Con K H' μ' → Ξ x dx μ' → E cls dx H'
section
variable {K : PySem.W.Frag} {τ : T} {μ μ1 μ2 : M} {H H1 H2 : Hp} {σ : L2.St} {Φ Ψ : D → M → Prop} {ta tb tc te : TE} {t u : TT} {x y z d e : D} {N : AEnds} {ts us : TS} {P : PT4} {P3 : PT3} {E : XK} {g : TG} {cn : Str → Option Value}
theorem spX_len {vs : List V} {Q : VK} {n : Nat} (h : spX K cn P vs H Q E) (hn : ∀ ds μ Φ Ξ, P ds μ Φ Ξ → ds.length = n) : vs.length = n := by
  obtain ⟨ds, μ, Φ, Ξ, r, _, p, _⟩ := h
  rw [r.length]; exact hn _ _ _ _ p
abbrev endX (cn : Str → Option Value) (E : XK) (Φ : D → M → Prop) (Ξ : XW) : AEnds := { nx := fun _ μ' => Φ .non μ', rt := Φ, W := fun cls d _ H => E cls d H, cn := cn, xs := fun x dx _ μ' => Ξ x dx μ' }
theorem body_okX {Ns : List Str} {vs : List V} {Q : VK} (h : spX K cn P vs H Q E) (hb : ∀ ds μ Φ Ξ, P ds μ Φ Ξ → AS K ts (startD Ns.length ds) μ (endX cn E Φ Ξ)) :
    ts { nx := fun _ H' => Q .non H', rt := Q } (L2.start Ns vs) H := by
  obtain ⟨ds, μ, Φ, Ξ, r, c, p, k, kx⟩ := h
  exact hb ds μ Φ Ξ p _ H (slots_start r) c _ ⟨fun _ μ' _ H' f c' _ q => k .non μ' .non H' f c' .non q, fun d μ' v H' f c' r' q => k d μ' v H' f c' r' q, fun _ _ _ _ _ _ _ q => q.elim, fun _ _ _ _ _ _ _ q => q.elim,
    fun x dx _ μ' cls _ H' e f c' _ q => kx x dx μ' cls H' e f c' q⟩
/-- a call that lets nothing out here -/
theorem a_callX {ta : TA} (h : AA K ta τ μ fun ds μ1 => P ds μ1 Φ fun _ _ _ => False) : AE K (tCall (spX K cn P) [] E ta) τ μ Φ := fun σ H s c Q k =>
  h σ H s c _ fun ds μ1 vs H1 f1 c1 r1 p => by
    show spX K cn P (vs ++ []) H1 Q E
    rw [List.append_nil]
    exact ⟨ds, μ1, Φ, _, r1, c1, p, fun d μ' v H' f c' r q => k d μ' v H' (f1.trans f) c' r q, fun _ _ _ _ _ _ _ _ q => q.elim⟩
def AEX (K : PySem.W.Frag) (t : TE) (τ : T) (μ : M) (N : AEnds) (Φ : D → M → Prop) : Prop :=
  ∀ σ H, Slots K H τ σ → Con K H μ → ∀ Q : VK, (∀ d μ' v H', Fr μ μ' H H' → Con K H' μ' → Rel K H' v d → Φ d μ' → Q v H') →
    (∀ x dx μ' cls H', N.cn x = some cls → Fr μ μ' H H' → Con K H' μ' → N.xs x dx τ μ' → N.W cls dx σ H') → t σ H Q
theorem x_of {E' : Ends} (k : EndsOk K N μ H E') (s : Slots K H τ σ) (c : Con K H μ) : ∀ x dx μ' cls H', N.cn x = some cls → Fr μ μ' H H' → Con K H' μ' → N.xs x dx τ μ' → N.W cls dx σ H' :=
  fun x dx μ' cls H' e f c' q => k.wx x dx τ μ' cls σ H' e f c' (s.mono (f.tx c)) q
theorem s_dropX (h : AEX K te τ μ N fun _ μ' => N.nx τ μ') : AS K (tDrop te) τ μ N := fun σ H s c E k =>
  h σ H s c _ (fun d μ' v H' f c' r p => k.nx τ μ' σ H' f c' (s.mono (f.tx c)) p) (x_of k s c)
theorem s_asgX (h : AEX K te τ μ N fun d μ' => AG K g d τ μ' N.nx) : AS K (tAsg te g) τ μ N := fun σ H s c E k =>
  h σ H s c _ (fun d μ' v H' f c' r p => p σ H' v (s.mono (f.tx c)) c' r _ fun τ2 μ2 σ2 H2 f2 c2 s2 q => k.nx τ2 μ2 σ2 H2 (f.trans f2) c2 s2 q) (x_of k s c)
theorem x_call {ta : TA} (h : AA K ta τ μ fun ds μ1 => P ds μ1 Φ fun x dx μ' => N.xs x dx τ μ') : AEX K (tCallS (spX K N.cn P) (WE N.W) ta) τ μ N Φ := fun σ H s c Q k kx =>
  h σ H s c _ fun ds μ1 vs H1 f1 c1 r1 p => ⟨ds, μ1, Φ, _, r1, c1, p, fun d μ' v H' f c' r q => k d μ' v H' (f1.trans f) c' r q, fun x dx μ' cls H' e f c' q => kx x dx μ' cls H' e (f1.trans f) c' q⟩
theorem look_none {H1 : Hp} {m : Str} : ∀ {vs : List (Str × V)} {fs : List (Str × D)}, RelKV K H1 vs fs → fs.lookup m = none → vs.lookup m = none := by
  intro vs fs r
  induction r with
  | nil => intro _; rfl
  | cons a _ ih =>
    rename_i p q ps qs _
    obtain ⟨e1, _⟩ := a
    intro h
    rw [List.lookup_cons] at h ⊢
    rw [e1]
    split at h
    · cases h
    · exact ih h
/-- o.m(..), what the instance is made of kept -/
theorem a_methX {C : Addr} {m : Str} {ta : TA} (h : AE K te τ μ fun o μ1 => ∃ a dx fs, o = .ref a ∧ μ1 a = some (.ins C dx fs) ∧ fs.lookup m = none ∧ AA K ta τ μ1 fun ds μ2 => P (o :: ds) μ2 Φ fun _ _ _ => False) :
    AE K (tMeth C m (spX K cn P) [] E te ta) τ μ Φ := fun σ H s c Q k =>
  h σ H s c _ fun o μ1 v H1 f1 c1 r1 ⟨a, dx, fs, e, ha, hm, p1⟩ => by
    subst e
    cases r1
    obtain ⟨vs, hv, hr⟩ := c1 a _ ha
    refine ⟨a, dx, vs, rfl, hv, look_none hr hm, p1 σ H1 (s.mono (f1.tx c)) c1 _ fun ds μ2 us H2 f2 c2 r2 p => ?_⟩
    rw [List.append_nil]
    exact ⟨.ref a :: ds, μ2, Φ, _, .cons (.ref a) r2, c2, p, fun d μ' v H' f c' r q => k d μ' v H' ((f1.trans f2).trans f) c' r q, fun _ _ _ _ _ _ _ _ q => q.elim⟩
theorem x_meth {C : Addr} {m : Str} {ta : TA} (h : AE K te τ μ fun o μ1 => ∃ a dx fs, o = .ref a ∧ μ1 a = some (.ins C dx fs) ∧ fs.lookup m = none ∧ AA K ta τ μ1 fun ds μ2 => P (o :: ds) μ2 Φ fun x dx μ' => N.xs x dx τ μ') :
    AEX K (tMethX C m (spX K N.cn P) (WE N.W) te ta) τ μ N Φ := fun σ H s c Q k kx =>
  h σ H s c _ fun o μ1 v H1 f1 c1 r1 ⟨a, dx, fs, e, ha, hm, p1⟩ => by
    subst e
    cases r1
    obtain ⟨vs, hv, hr⟩ := c1 a _ ha
    exact ⟨a, dx, vs, rfl, hv, look_none hr hm, p1 σ H1 (s.mono (f1.tx c)) c1 _ fun ds μ2 us H2 f2 c2 r2 p =>
      ⟨.ref a :: ds, μ2, Φ, _, .cons (.ref a) r2, c2, p, fun d μ' v H' f c' r q => k d μ' v H' ((f1.trans f2).trans f) c' r q, fun x dx μ' cls H' e f c' q => kx x dx μ' cls H' e ((f1.trans f2).trans f) c' q⟩⟩
/-- C(..) with no __init__ of its own -/
theorem s_raise0 {C : Addr} {x : Str} (hc : N.cn x = some (.ref C)) (h : N.xs x none τ μ) : AS K (fun _ σ H => (fun (_ : L2.St) (H : Hp) (Q : XK) => Q (.ref C) none H) σ H fun cls d H' => N.W cls d σ H') τ μ N := fun σ H s c E k =>
  k.wx x none τ μ (.ref C) σ H hc Fr.refl c s h
theorem s_raise1 {C : Addr} {x f : Str} {ta : TA} (hc : N.cn x = some (.ref C)) (h : AA K ta τ μ fun ds μ' => ∃ d, ds = [d] ∧ ∀ dx, μ' dx = none → N.xs x (some dx) τ (μ'.set dx (.xd [(f, d)]))) :
    AS K (fun _ σ H => XO.tMk1 C f ta σ H fun cls d H' => N.W cls d σ H') τ μ N := fun σ H s c E k =>
  h σ H s c _ fun ds μ1 vs H1 f1 c1 r1 ⟨d, e, q⟩ => by
    subst e
    cases r1 with
    | cons r rn =>
      rename_i v0 _
      cases rn
      refine ⟨_, rfl, fun dx hn => ?_⟩
      have n := c1.free hn
      have cc : Con K (upd H1 dx (.xd [(f, v0)])) (μ1.set dx (.xd [(f, d)])) := con_put hn c1 ⟨_, upd_same, .cons ⟨rfl, Rel.mono (tx_new hn) _ _ r⟩ .nil⟩
      have ff : Fr μ (μ1.set dx (.xd [(f, d)])) H (upd H1 dx (.xd [(f, v0)])) := f1.trans (fr_put hn)
      exact k.wx x (some dx) τ _ (.ref C) σ _ hc ff cc (s.mono (ff.tx c)) (q dx n)
/-- what the clause makes of an exception: caught, b, by this clause's suite, or let through -/
theorem s_tryAs (cn : Str → Option Value) {tb : WX → TS} {tu : Addr → Value → Option Addr → TS} {c : Value} {i : Nat} (hit : Str → Bool) (hm : ∀ x cls, cn x = some cls → PySem.W.exmOne K cls c = some (hit x))
    (hb : ∀ W, AS K (tb W) τ μ { N with W := W, cn := cn, xs := fun x dx τ' μ' => (hit x = true ∧ ∀ a cls, cn x = some cls → AS K (tu a cls dx) (τ'.set i (some (.ref a))) μ'
      { nx := fun τ2 μ2 => N.nx (τ2.set i none) μ2, rt := N.rt, bk := fun τ2 μ2 => N.bk (τ2.set i none) μ2, ct := fun τ2 μ2 => N.ct (τ2.set i none) μ2 }) ∨ (hit x = false ∧ N.cn x = cn x ∧ N.xs x dx τ' μ') }) :
    AS K (fun D σ H => tb (wAs K c i tu N.W D) D σ H) τ μ N := fun σ H s cc E k => by
  refine hb (wAs K c i tu N.W E) σ H s cc E ⟨k.nx, k.rt, k.bk, k.ct, fun x dx τ' μ' cls σ' H' ec f c' s' q => ?_⟩
  refine ⟨hit x, hm x cls ec, fun hx a na => ?_, fun hx => ?_⟩
  · rcases q with ⟨_, q⟩ | ⟨z, _⟩
    · have unset : ∀ {τ2 : T} {σ2 : L2.St} {H2 : Hp}, Slots K H2 τ2 σ2 → Slots K H2 (τ2.set i none) (σ2.set i none) := fun {τ2 σ2 H2} s2 => by
        refine ⟨by rw [List.length_set, List.length_set]; exact s2.1, fun j d e => ?_⟩
        by_cases hj : i = j
        · subst hj
          by_cases hi : i < τ2.length
          · rw [List.getElem?_set_self hi] at e; cases e
          · rw [List.getElem?_eq_none (by rw [List.length_set]; omega)] at e; cases e
        · rw [List.getElem?_set_ne hj] at e ⊢
          exact s2.2 j d e
      exact q a cls ec (σ'.set i (some (.ref a))) H' (s'.set (.ref a) i) c' _ ⟨fun τ2 μ2 σ2 H2 f2 c2 s2 p => k.nx _ μ2 _ H2 (f.trans f2) c2 (unset s2) p, fun d μ2 v H2 f2 c2 r p => k.rt d μ2 v H2 (f.trans f2) c2 r p,
        fun τ2 μ2 σ2 H2 f2 c2 s2 p => k.bk _ μ2 _ H2 (f.trans f2) c2 (unset s2) p, fun τ2 μ2 σ2 H2 f2 c2 s2 p => k.ct _ μ2 _ H2 (f.trans f2) c2 (unset s2) p, fun _ _ _ _ _ _ _ z => by cases z⟩
    · rw [hx] at z; cases z
  · rcases q with ⟨z, _⟩ | ⟨_, q⟩
    · rw [hx] at z; cases z
    · exact k.wx x dx τ' μ' cls σ' H' (q.1.trans ec) f c' s' q.2
end
/-- a def that may let an exception out -/
structure DefX (P : Program) (w : World) (K : PySem.W.Frag) (mg : Str → Option Value) (base : Heap) (x : Str) (ps : List Str) (k : Nat) (sp : Sp) : Prop where
  ex : ∃ f fd, FnOk P w K mg base (L2.CX P w) k f fd ps sp ∧ mg x = some (.ref f) ∧ PySem.W.keepIn K (.ref f) = true ∧ Binds K fd ps []
/-- a method of the class at C -/
structure Mth (P : Program) (w : World) (K : PySem.W.Frag) (mg : Str → Option Value) (base : Heap) (C : Addr) (m : Str) (ps : List Str) (k : Nat) (sp : Sp) : Prop where
  ex : ∃ f fd, FnOk P w K mg base (L2.CX P w) k f fd ps sp ∧ Cls K C ∧ Meth K C m f ∧ Binds K fd ps []
theorem fn_lift {P : Program} {w : World} {K : PySem.W.Frag} {mg : Str → Option Value} {base : Heap} {k : Nat} {f : Addr} {fd : FuncData} {ps : List Str} {sp : Sp} (F : FnOk P w K mg base CX0 k f fd ps sp) : FnOk P w K mg base (L2.CX P w) k f fd ps sp :=
  ⟨F.len, fun A outer s H args us vs Q E hr e b r h => codeAny_mono (F.run A outer s H args us vs Q E hr e b r h) fun r s' q => by
    cases r with
    | error e => exact q.elim
    | ok fl =>
      cases fl with
      | ret u => exact q
      | next => exact q.elim
      | brk => exact q.elim
      | cont => exact q.elim⟩
section
variable {X : Cx} {k : Nat} {ps : List Str} {sp : Sp} {x m : Str} {C : Addr} {p pos apos : Pos} {o e : Expr} {es : List Expr} {to : TE} {t : TA} {W : WX}
/-- how a method's call is read -/
abbrev MCall (X : Cx) (o : Expr) (m : Str) (es : List Expr) (kws : List Keyword) (pos apos : Pos) (pl : Sem Bool) : Prop :=
  eval (.Call (.Attribute o m apos) es kws pos) X.env = (do let ov ← eval o X.env; standAt apos.atName; let (g, own) ← holding [ov] (getMethod ov m pl); callWith pos g own (backTo pos (starEach es X.env)) (backToKw pos (keywordEach kws X.env)))
theorem pe_mthN0 {pl : Sem Bool} (G : Mth X.prog X.w X.K X.mg X.base C m ps k sp) (hr : Room k X.A) (ho : PE X o to)
    (ht : MCall X o m [] [] pos apos pl := by rfl) :
    PE X (.Call (.Attribute o m apos) [] [] pos) (tMeth C m sp [] E0 to tNil) := by
  obtain ⟨f, fd, F, c, hm, hb⟩ := G.ex
  exact pe_meth0 ho c hm F hr hb .nil passL ht
end
end Z
namespace Z
open PySem L2
def kD : Key → D
  | .inl i => .int i
  | .inr s => .str s
abbrev kT (k : List Key) : D := .tup (k.map kD)
section
variable {κ : Type} [DecidableEq κ]
def valD (kvs : List (κ × D)) (k : κ) : Option D := (kvs.find? fun kv => decide (kv.1 = k)).map (·.2)
def putKD (kvs : List (κ × D)) (k : κ) (v : D) : List (κ × D) := if (valD kvs k).isSome = true then kvs.map fun kv => if kv.1 = k then (kv.1, v) else kv else kvs ++ [(k, v)]
theorem valD_cons {p : κ × D} {r : List (κ × D)} {k : κ} : valD (p :: r) k = if p.1 = k then some p.2 else valD r k := by
  unfold valD
  by_cases h : p.1 = k
  · rw [if_pos h]; simp [List.find?_cons, h]
  · rw [if_neg h]; simp [List.find?_cons, h]
theorem putKD_new {r : List (κ × D)} {k : κ} {v : D} (h : valD r k = none) : putKD r k v = r ++ [(k, v)] := by
  unfold putKD; rw [h]; rfl
variable {K : PySem.W.Frag} {H : Hp}
theorem kv_val {vs : List (κ × V)} {kvs : List (κ × D)} (r : RelKV K H vs kvs) (k : κ) : (valV vs k = none ∧ valD kvs k = none) ∨ ∃ v d, valV vs k = some v ∧ valD kvs k = some d ∧ Rel K H v d := by
  induction r with
  | nil => exact .inl ⟨rfl, rfl⟩
  | cons a _ ih =>
    rename_i p q ps qs _
    obtain ⟨e, r⟩ := a
    rw [valD_cons]
    by_cases h : p.1 = k
    · rw [valV_pos h, if_pos (e.symm.trans h)]
      exact .inr ⟨_, _, rfl, rfl, r⟩
    · rw [valV_neg h, if_neg (fun z => h (e.trans z))]
      exact ih
theorem kv_isSome {vs : List (κ × V)} {kvs : List (κ × D)} (r : RelKV K H vs kvs) (k : κ) : (valV vs k).isSome = (valD kvs k).isSome := by
  rcases kv_val r k with ⟨a, b⟩ | ⟨v, d, a, b, _⟩ <;> rw [a, b] <;> rfl
theorem kv_len {vs : List (κ × V)} {kvs : List (κ × D)} (r : RelKV K H vs kvs) : vs.length = kvs.length := Paired.length r
theorem kv_app {vs ws : List (κ × V)} {kvs lws : List (κ × D)} (r : RelKV K H vs kvs) (r2 : RelKV K H ws lws) : RelKV K H (vs ++ ws) (kvs ++ lws) := by
  induction r with
  | nil => exact r2
  | cons a _ ih => exact .cons a ih
theorem kv_get : ∀ {vs : List (κ × V)} {kvs : List (κ × D)} {i : Nat} {k : κ} {v : V}, RelKV K H vs kvs → vs[i]? = some (k, v) → ∃ d, kvs[i]? = some (k, d)
  | [], [], i, k, v, .nil, z => by simp at z
  | p :: vs, q :: kvs, 0, k, v, .cons a b, z => by
    obtain ⟨e1, _⟩ := a
    simp at z
    subst z
    exact ⟨q.2, by simp [show k = q.1 from e1]⟩
  | p :: vs, q :: kvs, i + 1, k, v, .cons a b, z => by
    obtain ⟨d, hd⟩ := kv_get (i := i) b (by simpa using z)
    exact ⟨d, by simpa using hd⟩
theorem kv_map (k : κ) {v : V} {d : D} (rv : Rel K H v d) : ∀ {vs : List (κ × V)} {kvs : List (κ × D)}, RelKV K H vs kvs → RelKV K H (vs.map fun kv => if kv.1 = k then (kv.1, v) else kv) (kvs.map fun kv => if kv.1 = k then (kv.1, d) else kv)
  | [], [], .nil => .nil
  | (g, x) :: vs, (g', y) :: kvs, .cons a b => by
    obtain ⟨e, r⟩ := a
    have e : g = g' := e
    subst e
    rw [List.map_cons, List.map_cons]
    refine .cons ?_ (kv_map k rv b)
    dsimp only
    by_cases h : g = k
    · rw [if_pos h, if_pos h]; exact ⟨rfl, rv⟩
    · rw [if_neg h, if_neg h]; exact ⟨rfl, r⟩
theorem kv_put {vs : List (κ × V)} {kvs : List (κ × D)} (r : RelKV K H vs kvs) (k : κ) {v : V} {d : D} (rv : Rel K H v d) : RelKV K H (putK vs k v) (putKD kvs k d) := by
  have hs := kv_isSome r k
  unfold putK putKD
  rw [valV_any, hs]
  split
  · exact kv_map k rv r
  · exact kv_app r (.cons ⟨rfl, rv⟩ .nil)
end
section
variable {K : PySem.W.Frag} {τ : T} {μ μ1 μ2 : M} {H H1 H2 : Hp} {σ : L2.St} {Φ Ψ : D → M → Prop} {ta tb td te tv ty : TE} {tt : TT} {x y z d e : D} {N : AEnds} {ts us : TS}
theorem rel_key {v : V} {k : Key} (r : Rel K H v (kD k)) : v = kV k := by
  cases k with
  | inl i => cases r; rfl
  | inr s => cases r; rfl
theorem rel_kV (k : Key) : Rel K H (kV k) (kD k) := by
  cases k with
  | inl i => exact .int i
  | inr s => exact .str s
theorem rels_keys : ∀ {k : List Key} {vs : List V}, Rels K H vs (k.map kD) → vs = k.map kV
  | [], _, .nil => rfl
  | k :: ks, _, .cons a b => by rw [List.map_cons, rel_key a, rels_keys b]
theorem rels_kV : ∀ (k : List Key), Rels K H (k.map kV) (k.map kD)
  | [] => .nil
  | k :: ks => .cons (rel_kV k) (rels_kV ks)
theorem rel_kT {v : V} {k : List Key} (r : Rel K H v (kT k)) : ∃ b, v = .ref b ∧ H b = some (.tup (k.map kV)) := by
  cases r with
  | tup h hr =>
    cases h with
    | inl h => exact ⟨_, rfl, by rw [h, rels_keys hr]⟩
/-- {} -/
theorem a_dnewT (h : ∀ p, μ p = none → Φ (.ref p) (μ.set p (.dT []))) : AE K tDNewT τ μ Φ := fun σ H s c Q k p hp =>
  k _ _ _ _ (fr_put hp) (con_put (m := .dT []) hp c ⟨[], upd_same, .nil⟩) (.ref p) (h p (c.free hp))
theorem a_dnewK (h : ∀ p, μ p = none → Φ (.ref p) (μ.set p (.dK []))) : AE K tDNewK τ μ Φ := fun σ H s c Q k p hp =>
  k _ _ _ _ (fr_put hp) (con_put (m := .dK []) hp c ⟨[], upd_same, .nil⟩) (.ref p) (h p (c.free hp))
/-- what the dict at a holds at the key y, by the store -/
def Dg (μ : M) (a : Addr) (y : D) (o : Option D) : Prop :=
  (∃ kvs k, μ a = some (.dK kvs) ∧ y = kD k ∧ o = valD kvs k) ∨ (∃ kvs k, μ a = some (.dT kvs) ∧ y = kT k ∧ o = valD kvs k) ∨ ∃ od us kvs k, μ a = some (.fT od us kvs) ∧ y = kT k ∧ o = valD kvs k
theorem dg_ok {v : V} {a : Addr} {o : Option D} (c : Con K H μ) (g : Dg μ a y o) (r : Rel K H v y) : ∃ p, DGet H a v p ∧ p.isSome = o.isSome ∧ ∀ d, o = some d → ∃ u, p = some u ∧ Rel K H u d := by
  have fin : ∀ {κ : Type} [DecidableEq κ] {vs : List (κ × V)} {kvs : List (κ × D)} (k : κ), RelKV K H vs kvs → o = valD kvs k → (valV vs k).isSome = o.isSome ∧ ∀ d, o = some d → ∃ u, valV vs k = some u ∧ Rel K H u d := by
    intro κ _ vs kvs k rr e
    subst e
    refine ⟨kv_isSome rr k, fun d e => ?_⟩
    rcases kv_val rr k with ⟨_, b⟩ | ⟨v', d', a', b, r'⟩
    · rw [b] at e; cases e
    · rw [b] at e; cases e; exact ⟨v', a', r'⟩
  rcases g with ⟨kvs, k, ha, ey, eo⟩ | ⟨kvs, k, ha, ey, eo⟩ | ⟨od, us, kvs, k, ha, ey, eo⟩
  · subst ey
    obtain ⟨vs, hv, hr⟩ := c a _ ha
    rw [rel_key r]
    exact ⟨_, .inl ⟨vs, k, .inl hv, rfl, rfl⟩, fin k hr eo⟩
  · subst ey
    obtain ⟨vs, hv, hr⟩ := c a _ ha
    obtain ⟨b, e, hb⟩ := rel_kT r
    subst e
    exact ⟨_, .inr ⟨vs, k, b, .inl hv, rfl, hb, rfl⟩, fin k hr eo⟩
  · subst ey
    obtain ⟨vs, hv, hr, _⟩ := c a _ ha
    obtain ⟨b, e, hb⟩ := rel_kT r
    subst e
    exact ⟨_, .inr ⟨vs, k, b, .inr ⟨od, hv⟩, rfl, hb, rfl⟩, fin k hr eo⟩
/-- d[y] -/
theorem a_dget (h : AE K td τ μ fun o μ1 => AE K ty τ μ1 fun y μ2 => ∃ a d, o = .ref a ∧ Dg μ2 a y (some d) ∧ Φ d μ2) : AE K (tDGet td ty) τ μ Φ := fun σ H s c Q k =>
  h σ H s c _ fun o μ1 v H1 f1 c1 r1 p1 => p1 σ H1 (s.mono (f1.tx c)) c1 _ fun y μ2 w H2 f2 c2 r2 ⟨a, d, e, g, q⟩ => by
    subst e
    cases r1
    obtain ⟨p, g', _, hp⟩ := dg_ok c2 g r2
    obtain ⟨u, eu, ru⟩ := hp d rfl
    subst eu
    exact ⟨a, u, rfl, g', k d μ2 u H2 (f1.trans f2) c2 ru q⟩
theorem a_dnotin (h : AE K ty τ μ fun y μ1 => AE K td τ μ1 fun o μ2 => ∃ a p, o = .ref a ∧ Dg μ2 a y p ∧ Φ (.bl (!p.isSome)) μ2) : AE K (tDNotIn ty td) τ μ Φ := fun σ H s c Q k =>
  h σ H s c _ fun y μ1 w H1 f1 c1 r1 p1 => p1 σ H1 (s.mono (f1.tx c)) c1 _ fun o μ2 v H2 f2 c2 r2 ⟨a, p, e, g, q⟩ => by
    subst e
    cases r2
    obtain ⟨p', g', hs, _⟩ := dg_ok c2 g (Rel.mono (f2.tx c1) _ _ r1)
    refine ⟨a, p', rfl, g', ?_⟩
    rw [hs]
    exact k _ μ2 _ H2 (f1.trans f2) c2 (.bl _) q
/-- d[y] = v -/
theorem s_dput (h : AE K tv τ μ fun v μ1 => AE K td τ μ1 fun o μ2 => AE K ty τ μ2 fun y μ3 => ∃ a, o = .ref a ∧
      ((∃ kvs k, μ3 a = some (.dT kvs) ∧ y = kT k ∧ kvs.length < sizeLine ∧ N.nx τ (μ3.set a (.dT (putKD kvs k v)))) ∨ ∃ kvs k, μ3 a = some (.dK kvs) ∧ y = kD k ∧ kvs.length < sizeLine ∧ N.nx τ (μ3.set a (.dK (putKD kvs k v))))) :
    AS K (sDPut td ty tv) τ μ N := fun σ H s c E k =>
  h σ H s c _ fun v μ1 w H1 f1 c1 r1 p1 => p1 σ H1 (s.mono (f1.tx c)) c1 _ fun o μ2 u H2 f2 c2 r2 p2 => p2 σ H2 (s.mono ((f1.trans f2).tx c)) c2 _ fun y μ3 x H3 f3 c3 r3 ⟨a, e, q⟩ => by
    subst e
    cases r2
    have fa := (f1.trans f2).trans f3
    have rw' : Rel K H3 w v := Rel.mono ((f2.trans f3).tx c1) _ _ r1
    rcases q with ⟨kvs, kk, ha, ey, hl, q⟩ | ⟨kvs, kk, ha, ey, hl, q⟩
    · subst ey
      obtain ⟨vs, hv, hr⟩ := c3 a _ ha
      obtain ⟨b, eb, hb⟩ := rel_kT r3
      subst eb
      have fr := fr_mut (H := H3) (o := .dT (putK vs kk w)) (m' := .dT (putKD kvs kk v)) ha
      have tx := tx_mut (o := .dT (putK vs kk w)) c3 ha
      exact ⟨a, _, rfl, .inr ⟨vs, kk, b, hv, rfl, hb, by rw [kv_len hr]; exact hl, rfl⟩, k.nx τ _ σ _ (fa.trans fr) (con_mut c3 ha ⟨_, upd_same, kv_put (RelKV.mono tx hr) kk (Rel.mono tx _ _ rw')⟩) (s.mono ((fa.trans fr).tx c)) q⟩
    · subst ey
      obtain ⟨vs, hv, hr⟩ := c3 a _ ha
      have ek := rel_key r3
      subst ek
      have fr := fr_mut (H := H3) (o := .dK (putK vs kk w)) (m' := .dK (putKD kvs kk v)) ha
      have tx := tx_mut (o := .dK (putK vs kk w)) c3 ha
      exact ⟨a, _, rfl, .inl ⟨vs, kk, hv, rfl, by rw [kv_len hr]; exact hl, rfl⟩, k.nx τ _ σ _ (fa.trans fr) (con_mut c3 ha ⟨_, upd_same, kv_put (RelKV.mono tx hr) kk (Rel.mono tx _ _ rw')⟩) (s.mono ((fa.trans fr).tx c)) q⟩
/-- the dict at p is read, not written, meanwhile -/
theorem a_lockT {p : Addr} {kvs : List (List Key × D)} (hp : μ p = some (.dT kvs)) (h : ∀ od us, AE K te τ (μ.set p (.fT od us kvs)) fun x μ' => μ' p = some (.fT od us kvs) ∧ Φ x (μ'.set p (.dT kvs))) : AE K (tLockE te) τ μ Φ := fun σ H s c Q k => by
  obtain ⟨us, hv, hr⟩ := c p _ hp
  refine ⟨p, .dT us, hv, trivial, fun od => ?_⟩
  have tx := tx_mut (o := .frz od (.dT us)) c hp
  have fr := fr_mut (H := H) (o := .frz od (.dT us)) (m' := .fT od us kvs) hp
  refine h od us σ _ (s.mono tx) (con_mut c hp ⟨us, upd_same, RelKV.mono tx hr, rfl⟩) _ fun x μ' v H' f c' r ⟨hm, q⟩ => ?_
  obtain ⟨ws, hw, hr2, e⟩ := c' p _ hm
  subst e
  have tx2 := tx_mut (o := .dT ws) c' hm
  have fr2 := fr_mut (H := H') (o := .dT ws) (m' := .dT kvs) hm
  exact ⟨hw, k x _ v _ ((fr.trans f).trans fr2) (con_mut c' hm ⟨ws, upd_same, RelKV.mono tx2 hr2⟩) (Rel.mono tx2 _ _ r) q⟩
/-- a comprehension over the keys of a dict that is read -/
theorem a_lcK {g : TG} {js : List Nat} {dec : D → List D → Prop} (hg : TgOk K g js dec)
    (h : AE K td τ μ fun o μ1 => ∃ a od us kvs, o = .ref a ∧ μ1 a = some (.fT od us kvs) ∧ ∃ P : Nat → List D → M → Prop, P 0 [] μ1 ∧ (∀ i acc μ', P i acc μ' → μ' a = some (.fT od us kvs)) ∧
      (∀ (i : Nat) p acc μ', kvs[i]? = some p → P i acc μ' → LcTurn K τ tt te js dec (kT p.1) acc μ' (P (i + 1))) ∧ ∀ acc μ', P kvs.length acc μ' → ∀ p, μ' p = none → Φ (.ref p) (μ'.set p (.lst acc))) :
    AE K (tLc (iKeys td) g tt te js) τ μ Φ := fun σ H s c Q k => h σ H s c _ fun o μ1 v H1 f1 c1 r1 ⟨a, od, us, kvs, e, ha, P, p0, hin, hs, hd⟩ => by
  subst e
  cases r1
  obtain ⟨ws, hw, hr, e⟩ := c1 a _ ha
  subst e
  refine ⟨a, od, rfl, .inr ⟨ws, hw, fun Dl hD => ?_⟩⟩
  have s1 := s.mono (f1.tx c)
  refine ⟨fun i m H' => m = kvs.length - i ∧ i ≤ kvs.length ∧ ∃ acc μ', LcAt K Dl μ1 H1 acc μ' H' ∧ P i acc μ', ⟨kvs.length, by omega, Nat.zero_le _, [], μ1, lc_start c1 hD, p0⟩, ?_⟩
  rintro i m H' ⟨rfl, hi, acc, μ', L, p⟩
  obtain ⟨ws', hw', hr', e⟩ := L.con a _ (hin i acc μ' p)
  subst e
  by_cases hlt : i < kvs.length
  · refine .inr ⟨⟨hw', by rw [kv_len hr']; exact hlt⟩, fun H2 => ∃ acc2 μ2, LcAt K Dl μ1 H1 acc2 μ2 H2 ∧ P (i + 1) acc2 μ2, fun H2 ⟨acc2, μ2, L2, p2⟩ => ⟨kvs.length - (i + 1), by omega, rfl, hlt, acc2, μ2, L2, p2⟩, fun v H2 y => ?_⟩
    obtain ⟨eH, kk, vv, q, hk, ev, hq⟩ := y
    subst eH ev
    have hkv : ∃ d, kvs[i]? = some (kk, d) := kv_get hr' hk
    obtain ⟨d, hkd⟩ := hkv
    exact lc_step hD hg s1 c1 L (.tup (.inl hq) (rels_kV kk)) (hs i _ acc μ' hkd p) fun acc2 μ2 H3 L3 p3 => ⟨acc2, μ2, L3, p3⟩
  · have e : i = kvs.length := by omega
    subst e
    obtain ⟨f2, c2⟩ := lc_end hD L
    exact .inl ⟨⟨hw', by rw [kv_len hr']; exact hi⟩, k _ _ _ H' (f1.trans f2) c2 (.ref Dl) (hd acc μ' p Dl L.no)⟩
end
end Z
namespace ST
open PySem PySem.Spec PyProof.Rows L2 PpSet
section
variable {X : Cx} {pins : List (Addr × Obj)} {σ : L2.St} {H : Hp} {s : Shared} {E : Value → Shared → Prop}
/-- set.add of a tuple of ints -/
theorem add_tup {Dl b : Addr} {L : List (Addr × List Int)} {k : List Int} {Q : Value → Shared → Prop} (hu : X.A.units + 1 < cLine) (I : Inv X pins σ H s) (hD : H Dl = some (SetTO X.prog X.w Dl L)) (hb : H b = some (.tup (k.map V.int)))
    (hL : ∀ p ∈ L, H p.1 = some (.tup (p.2.map V.int))) (few : L.length + 1 < 64)
    (fin : ∀ L2 s2, (k ∈ L.map (·.2) → L2 = L) → (k ∉ L.map (·.2) → L2.Perm ((b, k) :: L)) → Inv X pins σ (upd H Dl (SetTO X.prog X.w Dl L2)) s2 → Q .none s2) :
    wpAny (model X.prog X.w) X.A (call (.builtin "set.add") [.ref Dl, .ref b]) Q E s := by
  have tup : ∀ {c : Addr} {l : List Int}, H c = some (.tup (l.map V.int)) → IsT X.prog X.w s.heap l c := fun h => I.isT (.inl (.inl h))
  have sT : SetT0 X.prog X.w s.heap Dl L := (I.hok Dl _ hD).1
  obtain ⟨es, ep, t, R⟩ := sT.full fun p hp => tup (hL p hp)
  obtain ⟨o, ho, hex, hd⟩ := R.ob
  have isSet : s.TypeIs (.ref Dl) "set" := ⟨o, ho, hex.1⟩
  refine wpAny_call_entry F.slot_set_add isSet F.entry_set_add ?_ (F.args_set_add_2 _ _)
  have hash := fun Q => wpAny_pyHash_tuple (prog := X.prog) (w := X.w) (A := X.A.in1) (E := E) (Q := Q) (show X.A.units + 1 < cLine from hu) (tup hb)
  simp only [Builtin.«set.add», Builtin.Frozenset.oneOther, Builtin.Frozenset.addrOf, setAdd, List.isEmpty_nil, bind_assoc]
  refine wpAny_bind (wpAny_pure (wpAny_bind (wpAny_pure (wpAny_bind (wpAny_holding (wpAny_bind (hash _ ?_)))))))
  refine add_at (s := { s with toks := s.toks + (k.length + 1) }) R (tup hb) (by show X.A.units + 1 < cLine; exact hu) few fun _ h2 L2 es2 ep2 t2 sb R2 c1 c2 => ?_
  obtain ⟨o2, ho2, _⟩ := R2.ob
  show wpAny _ _ (ret Value.none) _ _ _
  exact wpAny_pure ⟨_, rfl, fin L2 _ c1 c2 (I.write (e := Dl) (t' := s.toks + (k.length + 1)) (by rw [hD]; trivial) (.inl rfl) (fun c u hc hu => (sb.2 c hc).trans hu) ⟨o2, ho2⟩ (setTO_new R2.t0))⟩
/-- {elt for target in iter if ..}, elt a tuple of ints: Dl the new set -/
def tScT (P : Program) (w : World) (wi : TI) (g : TG) (tt : TT) (te : TE) (vs : List Nat) : TE := fun σ H Q => wi σ H fun J H1 => ∀ Dl, H1 Dl = none → ∃ W : Nat → Nat → Hp → Prop, (∃ m, W 0 m (upd H1 Dl (SetTO P w Dl []))) ∧ ∀ i m H, W i m H →
  (J.stop i H ∧ Q (.ref Dl) H) ∨ (J.go i H ∧ ∃ Nx : Hp → Prop, (∀ H', Nx H' → ∃ m', m' < m ∧ W (i + 1) m' H') ∧ ∀ x H', J.yld i H x H' → g x (wipe σ vs) H' fun σ2 H2 => wipe σ2 vs = wipe σ vs ∧ tt σ2 H2 fun b H3 =>
    if b = true then te σ2 H3 fun y H4 => ∃ (c : Addr) (k : List Int) (L : List (Addr × List Int)), y = .ref c ∧ H4 c = some (.tup (k.map V.int)) ∧ H4 Dl = some (SetTO P w Dl L) ∧ (∀ p ∈ L, H4 p.1 = some (.tup (p.2.map V.int))) ∧ L.length + 1 < 64 ∧
      ∀ L2, (k ∈ L.map (·.2) → L2 = L) → (k ∉ L.map (·.2) → L2.Perm ((c, k) :: L)) → Nx (upd H4 Dl (SetTO P w Dl L2)) else Nx H3)
theorem fresh_set {P : Program} {w : World} {H : Hp} {h : Heap} : ObjOk P w H (h.push { cls := .type "set", dict := none, data := .set #[] 0 (.fresh 0 0 (!w.params.followText "set-order")) }) h.objs.size (SetTO P w h.objs.size []) :=
  setTO_new (SetTR.t0 (setTR_fresh (P := P) (w := w) (Heap.get?_push_size _ rfl)))
theorem pe_scT {elt tg iter : Expr} {ifs : List Expr} {scope : Scope} {own : List (PySem.Str × Nat)} {pos : Pos} {wi : TI} {g : TG} {tt : TT} {te : TE} (hu : X.A.units + 1 < cLine) (hc : X.calm = true) (hN : X.N.Nodup) (hi : PI X tg iter wi) (ok : BlkOk X.N X.env.scope scope own)
    (hg : ∀ (s : Shared) (H : Hp) (C : Addr) (cl : List (PySem.Str × Addr)) (fp : List Addr), PG (X.blk s H scope (compEnvC scope cl C X.env) fp) tg g)
    (ht : ∀ (s : Shared) (H : Hp) (C : Addr) (cl : List (PySem.Str × Addr)) (fp : List Addr), PTs (X.blk s H scope (compEnvC scope cl C X.env) fp) ifs tt)
    (he : ∀ (s : Shared) (H : Hp) (C : Addr) (cl : List (PySem.Str × Addr)) (fp : List Addr), PE (X.blk s H scope (compEnvC scope cl C X.env) fp) elt te)
    (hs : ∀ x, foldedSetIterable iter X.env x = pure x := by intro _; rfl) :
    PE X (.SetComp elt [⟨tg, iter, ifs, 0⟩] scope pos) (tScT X.prog X.w wi g tt te (own.map (·.2))) := by
  refine ⟨fun pins s0 σ H0 Q I0 ask => ?_⟩
  rw [eval_SetComp]
  have cells : ∀ y ∈ scope.names, y.2 = .free → ∃ c, X.env.cells.lookup y.1 = some c := fun y hy e => I0.ok.has _ (ok.free y hy e)
  refine wpAny_comprehension_free (use := none) rfl hs (closure_ok cells) ok.kind (fun y hy e => by rw [ok.uniq y hy, e]) (thn (hi.run pins s0 σ H0 _ I0 ask) fun xv s1 hx => thn hx fun itv s2 got => ?_)
  obtain ⟨it, fp, tn, J, HI, eit, I2, T, st2, f2, q⟩ := got
  subst eit
  refine newSet_ok (newEnv_comp ?_)
  -- the new set
  obtain ⟨Dl, eD⟩ : ∃ d, d = s2.heap.objs.size := ⟨_, rfl⟩
  rw [← eD]
  obtain ⟨s3, e3⟩ : ∃ z : Shared, z = { s2 with heap := s2.heap.push { cls := .type "set", dict := none, data := .set #[] 0 (.fresh 0 0 (!X.w.params.followText "set-order")) } } := ⟨_, rfl⟩
  rw [← e3]
  have no : HI Dl = none := I2.hok.fresh (Nat.le_of_eq eD.symm)
  obtain ⟨H3, eH⟩ : ∃ z, z = upd HI Dl (SetTO X.prog X.w Dl []) := ⟨_, rfl⟩
  obtain ⟨W, ⟨m0, w0⟩, turn⟩ := q Dl no
  rw [← eH] at w0
  have I3 : Inv X pins σ H3 s3 := by
    subst e3 eH eD
    exact I2.laid (t' := s2.toks) (fun b o e => Heap.get?_push_of_some _ e) (Nat.le_refl _) fresh_set
  have old3 : ∀ b o, s2.heap.get? b = some o → s3.heap.get? b = some o := fun b o e => by subst e3; exact Heap.get?_push_of_some _ e
  have f3 : ∀ b ∈ fp, FpOk X pins H3 b ∧ b < s3.heap.objs.size := fun b hb => by
    obtain ⟨o, ob, _⟩ := T.obj _ _ st2 b hb
    refine ⟨⟨?_, (f2 b hb).2⟩, Heap.lt_size (old3 b o ob)⟩
    rw [eH, upd_ne (by rw [eD]; exact Nat.ne_of_lt (Heap.lt_size ob))]
    exact (f2 b hb).1
  have st3 := T.keep _ _ s3.heap st2 fun b _ o e => old3 b o e
  have I4 := block_start I3 ok hN f3
  have pg := hg s3 H3 s3.heap.objs.size (cellsFrom (s3.heap.objs.size + 1) scope.names (cloFrom X.env.cells scope.names [])) fp
  have pt := ht s3 H3 s3.heap.objs.size (cellsFrom (s3.heap.objs.size + 1) scope.names (cloFrom X.env.cells scope.names [])) fp
  have pe := he s3 H3 s3.heap.objs.size (cellsFrom (s3.heap.objs.size + 1) scope.names (cloFrom X.env.cells scope.names [])) fp
  have Cl : (compEnvC scope (cellsFrom (s3.heap.objs.size + 1) scope.names (cloFrom X.env.cells scope.names [])) s3.heap.objs.size X.env).locals = s3.heap.objs.size := rfl
  show codeAny _ _ (.compStart _ 0 (.ref it) (.ref Dl) (compEnvC scope (cellsFrom (s3.heap.objs.size + 1) scope.names (cloFrom X.env.cells scope.names [])) s3.heap.objs.size X.env)) _ { s3 with heap := pushCells (s3.heap.push { cls := .type "dict", data := .dict #[] }) scope.names }
  generalize compEnvC scope (cellsFrom (s3.heap.objs.size + 1) scope.names (cloFrom X.env.cells scope.names [])) s3.heap.objs.size X.env = ce at I4 pg pt pe Cl ⊢
  obtain ⟨s4, e4⟩ : ∃ z : Shared, z = { s3 with heap := pushCells (s3.heap.push { cls := .type "dict", data := .dict #[] }) scope.names } := ⟨_, rfl⟩
  rw [← e4] at I4 ⊢
  have st4 := T.keep _ _ s4.heap st3 fun b _ o e => by rw [e4]; exact pushCells_keeps _ _ _ _ (Heap.get?_push_of_some _ e)
  have stay : ∀ {σ' : L2.St} {H' : Hp} {s' : Shared}, Inv (X.blk s3 H3 scope ce fp) [] σ' H' s' → (∀ b ∈ fp, H' b = none) → ∀ b ∈ fp, FpOk (X.blk s3 H3 scope ce fp) [] H' b := fun {σ' H' s'} I' hn b hb =>
    ⟨hn b hb, (I'.ok.exf b hb).1, I'.ok.exfs b hb, .inl hb, fun x c e => (I'.ok.exf b hb).2 x c e, fun p hp => nomatch (show p ∈ ([] : List (Addr × Obj)) from hp)⟩
  let Lp : Nat → Shared → Prop := fun n s' => ∃ i H', Inv (X.blk s3 H3 scope ce fp) [] (wipe σ (own.map (·.2))) H' s' ∧ tn i s'.heap ∧ (∀ b ∈ fp, H' b = none) ∧ W i n H'
  refine (fun loop => codeAny_compStart_set loop (T.self X.A 0 s4 _ _ st4 loop)) (compLoopS_any Lp (fun n s5 lp => ?_) m0 ⟨0, H3, I4, st4, fun b hb => (f3 b hb).1.1, w0⟩)
  obtain ⟨i, H5, I5, st5, n5, w5⟩ := lp
  rcases turn i n H5 w5 with ⟨stop, qq⟩ | ⟨go, Nx, hNx, step⟩
  · -- the end: back in the def
    refine thnF (T.done (X.blk s3 H3 scope ce fp) rfl rfl rfl hc i [] s5 _ H5 (fun _ _ => False) I5 (stay I5 n5) st5 stop) fun r s6 ⟨er, I6⟩ => ?_
    subst er
    have I7 : Inv X pins σ H5 s6 := I3.call' (ch := fp) I6.os I6.base I6.hok I6.bare fun b hb => ⟨(f3 b hb).1.2.2.2.1, (f3 b hb).1.2.1, (f3 b hb).1.2.2.2.2.1, (f3 b hb).1.2.2.2.2.2⟩
    have freeC : H5 s3.heap.objs.size = none := by rw [← Cl]; exact I6.free
    obtain ⟨m, hn, _⟩ := I6.loc
    have hn : s6.heap.Ns s3.heap.objs.size m := by rw [← Cl]; exact hn
    obtain ⟨g0, g1, g2, g3, g4, g5⟩ := I3.fpOk (Nat.le_refl _) freeC
    exact ⟨m, hn, fun h2 sb => ⟨.ref Dl, H5, I7.turned (t' := s6.toks) (fun b o hb e => (sb.2 b hb).trans e) g0 g1 g3 g4 g5, rfl, qq⟩⟩
  · refine thnF (T.item (X.blk s3 H3 scope ce fp) rfl rfl rfl hc i [] s5 _ H5 (fun _ _ => False) I5 (stay I5 n5) st5 go) fun r s6 ⟨u, er, h6⟩ => ?_
    subst er
    refine thnF h6 fun _ s7 ⟨x, H7, I7, r7, y7, st7, n7⟩ => ?_
    refine thnF (pg.run _ s7 _ H7 x u _ (I7.pinned (stay I7 n7) (T.obj _ _ st7)) r7 (step x H7 y7)) fun _ s8 ⟨σ8, H8, I8, w8, q8⟩ => ?_
    refine thnF (pt.run _ s8 σ8 H8 _ I8 q8) fun b s9 ⟨H9, I9, q9⟩ => ?_
    have next : ∀ {s' : Shared} {H' : Hp}, Inv (X.blk s3 H3 scope ce fp) ([] ++ pinsAt fp s7.heap) σ8 H' s' → Nx H' → ∃ m, m < n ∧ Lp m s' := fun {s' H'} I' nx => by
      obtain ⟨m2, lt, w2⟩ := hNx H' nx
      have there : ∀ b ∈ fp, ∃ o, s7.heap.get? b = some o ∧ s'.heap.get? b = some o ∧ H' b = none := fun b hb => by
        obtain ⟨o, e, _⟩ := T.obj _ _ st7 b hb
        have z := I'.pin (b, o) (List.mem_append_right _ (List.mem_append_right _ (mem_pinsAt hb e)))
        exact ⟨o, e, z.1, z.2.1⟩
      refine ⟨m2, lt, i + 1, H', (I'.unpinned (pins := [])).weak (by rw [← w8, wipe_length]) (fun j v e => (wipe_some (by rw [← w8] at e; exact e)).1), T.keep _ _ _ st7 fun b hb o e => ?_, fun b hb => ?_, w2⟩
      · obtain ⟨o2, e2, e3', _⟩ := there b hb
        rw [e] at e2; cases e2; exact e3'
      · obtain ⟨_, _, _, z⟩ := there b hb
        exact z
    cases b with
    | false =>
      simp only [Bool.false_eq_true, if_false] at q9 ⊢
      exact next I9 q9
    | true =>
      simp only [if_true] at q9 ⊢
      refine thnF (pe.run _ s9 σ8 H9 _ I9 q9) fun z s10 ⟨yv, H10, I10, r10, c, k, L, ey, hcT, hDl, hL, few, nx⟩ => ?_
      subst ey
      cases (show z = Value.ref c from r10)
      exact add_tup (X := X.blk s3 H3 scope ce fp) hu I10 hDl hcT hL few fun L2 s11 c1 c2 I11 => next I11 (nx L2 c1 c2)
/-- len of it -/
def rLenST (P : Program) (w : World) : List V → Hp → VK → Prop := fun xs H Q => ∃ (a : Addr) (L : List (Addr × List Int)), xs = [.ref a] ∧ H a = some (SetTO P w a L) ∧ Q (.int L.length) H
theorem cr_lenST : CallR X (.builtin "len") (rLenST X.prog X.w) := by
  intro pins s σ H xs us Q I r h
  obtain ⟨a, L, e, ha, q⟩ := h
  subst e
  cases r with
  | @cons _ u _ ur r rn =>
    cases rn
    cases (show u = Value.ref a from r)
    have sT : SetT0 X.prog X.w s.heap a L := (I.hok a _ ha).1
    obtain ⟨es, ep, t, ⟨o, ho, hex, hd⟩, rows, tab, _, _, _, room, few⟩ := sT.ex
    have sz : es.size = L.length := by rw [← Array.length_toList, rows]; exact List.length_map ..
    have fit : t.fits es.size = true := by
      have a1 : t.place.size = L.length := by rw [tab.sz, List.length_map]
      have a2 : t.dummies.size = 0 := by rw [tab.dm]; rfl
      unfold SetTable.fits SetTable.fill
      rw [Bool.and_eq_true, beq_iff_eq, decide_eq_true_eq, a2, sz]
      omega
    refine call_len_set ho hex hd fit (by rw [sz]; have := sizeLine_eq; omega) ⟨.int L.length, H, I.tok _, ⟨_, by rw [sz]⟩, q⟩
end
end ST
namespace Z
open PySem L2 ST
structure StAt (P : Program) (w : World) (K : PySem.W.Frag) (Dl : Addr) (μ : M) (H0 : Hp) (acc : List (List Int)) (H' : Hp) : Prop where
  fr : Fr μ μ H0 H'
  con : Z.Con K H' μ
  no : μ Dl = none
  at_ : ∃ L : List (Addr × List Int), H' Dl = some (SetTO P w Dl L) ∧ (∀ p ∈ L, H' p.1 = some (.tup (p.2.map V.int))) ∧ (L.map (·.2)).Nodup ∧ L.length ≤ acc.length ∧ ∀ k, k ∈ L.map (·.2) ↔ k ∈ acc
theorem seto_ne {P : Program} {w : World} {a : Addr} {L : List (Addr × List Int)} {o : HO} (h : SetTO P w a L = o) (n : ∀ φ, o ≠ .ext φ) : False := n _ h.symm
theorem seto_nc {P : Program} {w : World} {a : Addr} {L : List (Addr × List Int)} {q : Str} (h : SetTO P w a L = LamX.CodeO a q) : False := by
  unfold SetTO LamX.CodeO at h
  injection h with h
  obtain ⟨o, ho⟩ : ∃ o : Obj, o = { cls := .none, data := .fields #[.none, .str q 0] } := ⟨_, rfl⟩
  have e : (Heap.mk (Array.replicate (a + 1) o) {}).get? a = some o := by
    subst ho
    unfold Heap.get?
    simp
  have z := congrFun h (Heap.mk (Array.replicate (a + 1) o) {})
  have k : SetT0 P w (Heap.mk (Array.replicate (a + 1) o) {}) a L := by
    rw [z]
    subst ho
    exact ⟨_, _, 0, e, rfl, rfl⟩
  obtain ⟨es, ep, t, ⟨o2, h2, _, h3⟩, _⟩ := k.ex
  rw [e] at h2
  cases h2
  rw [ho] at h3
  cases h3
theorem rels_ints {K : PySem.W.Frag} {H : Hp} : ∀ {k : List Int} {vs : List V}, Rels K H vs (k.map D.int) → vs = k.map V.int
  | [], _, .nil => rfl
  | _ :: _, _, .cons (.int _) b => by rw [List.map_cons, rels_ints b]
theorem rel_tupI {K : PySem.W.Frag} {H : Hp} {v : V} {k : List Int} (r : Rel K H v (.tup (k.map D.int))) : ∃ c, v = .ref c ∧ H c = some (.tup (k.map V.int)) := by
  cases r with
  | tup h hr =>
    cases h with
    | inl h => exact ⟨_, rfl, by rw [h, rels_ints hr]⟩
section
variable {P : Program} {w : World} {K : PySem.W.Frag} {τ : T} {μ : M} {H H0 H' : Hp} {σ : L2.St} {Φ : D → M → Prop} {te : TE} {wi : TI} {g : TG} {Dl : Addr} {acc : List (List Int)}
theorem st_upd {L L2 : List (Addr × List Int)} (c : Z.Con K H μ) (no : μ Dl = none) (h : H Dl = some (SetTO P w Dl L)) : Tx H (upd H Dl (SetTO P w Dl L2)) ∧ Z.Con K (upd H Dl (SetTO P w Dl L2)) μ := by
  have t : Tx H (upd H Dl (SetTO P w Dl L2)) := ⟨fun a xs e => by rw [upd_ne (fun z => by subst z; rw [h] at e; exact seto_ne (Option.some.inj e) (fun _ z => nomatch z))]; exact e,
    fun a ob xs e => by rw [upd_ne (fun z => by subst z; rw [h] at e; exact seto_ne (Option.some.inj e) (fun _ z => nomatch z))]; exact e,
    fun a q e => by rw [upd_ne (fun z => by subst z; rw [h] at e; exact seto_nc (Option.some.inj e))]; exact e⟩
  exact ⟨t, fun a m e => (c a m e).mono t (upd_ne (fun z => by subst z; rw [no] at e; cases e))⟩
theorem st_start (c : Z.Con K H μ) (hD : H Dl = none) : StAt P w K Dl μ H [] (upd H Dl (SetTO P w Dl [])) :=
  ⟨fr_new hD, con_new hD c, c.free hD, [], upd_same, (fun _ h => absurd h List.not_mem_nil), List.nodup_nil, Nat.le_refl _, fun _ => Iff.rfl⟩
/-- how many different ones there are -/
def NumOf (l : List (List Int)) (n : Nat) : Prop := ∃ d : List (List Int), d.Nodup ∧ (∀ k, k ∈ d ↔ k ∈ l) ∧ n = d.length
theorem a_lenSc {js : List Nat} {dec : D → List D → Prop} (hg : TgOk K g js dec)
    (h : AI K wi τ μ fun xs μw back => ∃ f : D → List Int, xs.length < 63 ∧ (∀ x ∈ xs, ∃ ds, dec x ds ∧ ds.length = js.length ∧ AE K te (sets τ js ds) μw fun y μ2 => y = .tup ((f x).map D.int) ∧ μ2 = μw) ∧ ∀ n, NumOf (xs.map f) n → Φ (.int (n : Int)) (back μw)) :
    AE K (tCB (rLenST P w) (tCons (tScT P w wi g tYes te js) tNil)) τ μ Φ := fun σ H s c Q k => by
  refine h σ H s c _ fun J xs out G H1 μw back tx c1 W g1 o1 B ⟨f, hz, hs, hd⟩ Dl hD => ?_
  have s1 := s.mono tx
  refine ⟨fun i m H' => m = xs.length - i ∧ i ≤ xs.length ∧ StAt P w K Dl μw H1 ((xs.take i).map f) H', ⟨xs.length, by omega, Nat.zero_le _, st_start c1 hD⟩, ?_⟩
  rintro i m H' ⟨rfl, hi, S⟩
  have gH : G H' := W.keep _ _ _ _ c1 o1 g1 S.fr
  by_cases hlt : i < xs.length
  · refine .inr ⟨W.go i H' hlt gH, fun H2 => StAt P w K Dl μw H1 ((xs.take (i + 1)).map f) H2, fun H2 S2 => ⟨xs.length - (i + 1), by omega, rfl, hlt, S2⟩, fun v H2 y => ?_⟩
    obtain ⟨x, hx, rx, hH⟩ := W.yld i H' v H2 hlt gH y
    have S2 : StAt P w K Dl μw H1 ((xs.take i).map f) H2 := by
      rcases hH with e | ⟨T0, vs, hT, e⟩
      · rw [e]; exact S
      · obtain ⟨f2, c2⟩ := yld_ok (vs := vs) S.con hT
        obtain ⟨L, a1, a2, a3, a4, a5⟩ := S.at_
        rw [e]
        exact ⟨S.fr.trans f2, c2, S.no, L, (f2 Dl _ S.no a1).1, fun p hp => (f2.tx S.con).t _ _ (a2 p hp), a3, a4, a5⟩
    obtain ⟨ds, hdec, hl, he⟩ := hs x (List.mem_of_getElem? hx)
    refine hg x ds v _ H2 hdec rx _ fun vs hvs => ⟨by rw [wipe_sets (fun _ h => h), wipe_wipe], ?_⟩
    have s' : Slots K H2 (sets τ js ds) (sets (wipe σ js) js vs) := slots_block (s1.mono (S2.fr.tx c1)) hvs hl
    refine he _ H2 s' S2.con _ fun y μ2 u H4 f4 c4 r4 ⟨ey, em⟩ => ?_
    subst ey em
    obtain ⟨ca, eu, hc⟩ := rel_tupI r4
    subst eu
    obtain ⟨L, a1, a2, a3, a4, a5⟩ := S2.at_
    have b1 : H4 Dl = some (SetTO P w Dl L) := (f4 Dl _ S2.no a1).1
    have b2 : ∀ p ∈ L, H4 p.1 = some (.tup (p.2.map V.int)) := fun p hp => (f4.tx S2.con).t _ _ (a2 p hp)
    have tl : ((xs.take i).map f).length ≤ i := by rw [List.length_map, List.length_take]; omega
    refine ⟨ca, f x, L, rfl, hc, b1, b2, by omega, fun L2 k1 k2 => ?_⟩
    obtain ⟨t5, c5⟩ := st_upd (L2 := L2) c4 S2.no b1
    have more : (xs.take (i + 1)).map f = (xs.take i).map f ++ [f x] := by
      rw [List.take_add_one, hx, List.map_append]; rfl
    have ff : Fr μ2 μ2 H1 (upd H4 Dl (SetTO P w Dl L2)) := fun a o n e => by
      obtain ⟨e2, m2⟩ := (S2.fr.trans f4) a o n e
      exact ⟨by rw [upd_ne (ne_of_none e hD)]; exact e2, m2⟩
    refine ⟨ff, c5, S2.no, L2, upd_same, ?_⟩
    rw [more]
    by_cases hm : f x ∈ L.map (·.2)
    · have e := k1 hm
      subst e
      refine ⟨fun p hp => t5.1 _ _ (b2 p hp), a3, by rw [List.length_append]; omega, fun k => ?_⟩
      rw [List.mem_append, a5 k]
      exact ⟨.inl, fun z => z.elim id fun z => by rw [List.mem_singleton.mp z]; exact (a5 _).mp hm⟩
    · have pm := k2 hm
      refine ⟨fun p hp => t5.1 _ _ ?_, ?_, ?_, fun k => ?_⟩
      · rcases List.mem_cons.mp (pm.mem_iff.mp hp) with e | z
        · rw [e]; exact hc
        · exact b2 p z
      · exact (pm.map (·.2)).nodup_iff.mpr (List.nodup_cons.mpr ⟨hm, a3⟩)
      · rw [pm.length_eq, List.length_cons, List.length_append]
        simp only [List.length_cons, List.length_nil]
        omega
      · rw [(pm.map (·.2)).mem_iff, List.map_cons, List.mem_cons, List.mem_append, List.mem_singleton, a5 k]
        exact ⟨fun z => z.symm, fun z => z.symm⟩
  · have e : i = xs.length := by omega
    subst e
    obtain ⟨L, a1, a2, a3, a4, a5⟩ := S.at_
    rw [List.take_length] at a5
    refine .inl ⟨W.stop _ H' (Nat.le_refl _) gH, ?_⟩
    refine ⟨Dl, L, rfl, a1, k _ (back μw) _ H' (B.fr _ _ S.fr) (B.con _ _ S.fr S.con) (.int _) (hd L.length ⟨L.map (·.2), a3, a5, by rw [List.length_map]⟩)⟩
end
theorem num_all {l : List (List Int)} {n : Nat} (h : l.Nodup) (m : NumOf l n) : n = l.length := by
  obtain ⟨d, h1, h2, e⟩ := m
  rw [e]
  exact Nat.le_antisymm (List.Nodup.length_le_of_subset h1 fun k hk => (h2 k).mp hk) (List.Nodup.length_le_of_subset h fun k hk => (h2 k).mpr hk)
theorem few_of_dup : ∀ (l d : List (List Int)), d.Nodup → (∀ k, k ∈ d → k ∈ l) → ¬ l.Nodup → d.length < l.length
  | [], _, _, _, h => absurd List.nodup_nil h
  | x :: r, d, hd, hs, h => by
    rw [List.length_cons]
    by_cases hx : x ∈ r
    · have := List.Nodup.length_le_of_subset hd fun k hk => by
        rcases List.mem_cons.mp (hs k hk) with e | z
        · rw [e]; exact hx
        · exact z
      omega
    · have hr : ¬ r.Nodup := fun z => h (List.nodup_cons.mpr ⟨hx, z⟩)
      have := few_of_dup r (d.erase x) (hd.erase x) (fun k hk => by
        have hk2 := (List.Nodup.mem_erase_iff hd).mp hk
        rcases List.mem_cons.mp (hs k hk2.2) with e | z
        · exact absurd e hk2.1
        · exact z) hr
      have h2 : d.length ≤ (d.erase x).length + 1 := by rw [List.length_erase]; split <;> omega
      omega
theorem num_some {l : List (List Int)} {n : Nat} (h : ¬ l.Nodup) (m : NumOf l n) : n < l.length := by
  obtain ⟨d, h1, h2, e⟩ := m
  rw [e]
  exact few_of_dup l d h1 (fun k hk => (h2 k).mp hk) h
end Z
namespace Z
open PySem L2 PyProof.Rows
section
variable {X : Cx} {a b c e : Expr} {ta tb tc te : TE} {pos : Pos}
def tChain3 (r1 r2 r3 : R2) (ta tb tc te : TE) : TE := fun σ H Q => ta σ H fun x H1 => tb σ H1 fun y H2 => r1 x y H2 fun z H3 => ∃ k, z = .bl k ∧
  (if k = true then tc σ H3 fun w H4 => r2 y w H4 fun z' H5 => ∃ k', z' = .bl k' ∧ (if k' = true then te σ H5 fun u H6 => r3 w u H6 Q else Q (.bl false) H5) else Q (.bl false) H3)
theorem pe_chain3 {o1 o2 o3 : CmpOp} {r1 r2 r3 : R2} (h1 : OpR X (compareOp o1) r1) (h2 : OpR X (compareOp o2) r2) (h3 : OpR X (compareOp o3) r3) (ha : PE X a ta) (hb : PE X b tb) (hc : PE X c tc) (he : PE X e te)
    (hm : lastMarks [o1, o2, o3] [b, c, e] = false := by with_unfolding_all rfl) : PE X (.Compare a [o1, o2, o3] [b, c, e] pos) (tChain3 r1 r2 r3 ta tb tc te) := by
  refine ⟨fun pins s σ H Q I h => ?_⟩
  refine Compare_chain (thn (ha.run pins s σ H _ I h) fun v s1 ⟨x, H1, I1, k1, q1⟩ => chain_link (thn (hb.run pins s1 σ H1 _ I1 q1) fun u s2 ⟨y, H2, I2, k2, q2⟩ =>
    thn (h1 pins s2 σ H2 x y v u _ I2 k1 k2 q2) fun d s3 ⟨z, H3, I3, k3, b1, eb, q3⟩ => ?_)) hm
  subst eb
  cases k3
  refine wpAny_truthy_bool ?_
  cases b1 with
  | false => exact ite_ff ⟨.bl false, H3, I3, rfl, q3⟩
  | true =>
    refine ite_tt (chain_link (thn (hc.run pins s3 σ H3 _ I3 q3) fun w s4 ⟨z', H4, I4, k4, q4⟩ => thn (h2 pins s4 σ H4 y z' u w _ I4 k2 k4 q4) fun d2 s5 ⟨z2, H5, I5, k5, b2, eb2, q5⟩ => ?_))
    subst eb2
    cases k5
    refine wpAny_truthy_bool ?_
    cases b2 with
    | false => exact ite_ff ⟨.bl false, H5, I5, rfl, q5⟩
    | true => exact ite_tt (chain_last (thn (he.run pins s5 σ H5 _ I5 q5) fun w' s6 ⟨z6, H6, I6, k6, q6⟩ => h3 pins s6 σ H6 z' z6 w w' Q I6 k4 k6 q6))
end
section
variable {K : PySem.W.Frag} {τ : T} {μ μ1 μ2 : M} {H H1 H2 : Hp} {σ : L2.St} {Φ Ψ : D → M → Prop} {ta tb tc td te : TE} {r1 r2 r3 : R2} {d e : D} {N : AEnds}
theorem a_chain3 (h : AE K ta τ μ fun d μ1 => AE K tb τ μ1 fun e μ2 => RO K r1 d e μ2 fun z μ3 => ∃ b, z = .bl b ∧
      if b = true then AE K tc τ μ3 fun w μ4 => RO K r2 e w μ4 fun z' μ5 => ∃ b', z' = .bl b' ∧ if b' = true then AE K te τ μ5 fun u μ6 => RO K r3 w u μ6 Φ else Φ (.bl false) μ5 else Φ (.bl false) μ3) :
    AE K (tChain3 r1 r2 r3 ta tb tc te) τ μ Φ := by
  refine Hold.out ?_
  simp (disch := (
  refine Hold.as ?_
  with_unfolding_all (
  intro σ H s c Q k
  refine h σ H s c _ fun d μ1 v H1 f1 c1 k1 p1 => ?_
  refine p1 σ H1 (s.mono (f1.tx c)) c1 _ fun e μ2 u H2 f2 c2 k2 p2 => ?_
  refine p2 H2 v u c2 (Rel.mono (f2.tx c1) _ _ k1) k2 _ fun z μ3 w H3 f3 c3 kz ⟨b, ez, p3⟩ => ?_
  subst ez
  cases kz
  refine ⟨b, rfl, ?_⟩
  have f13 := (f1.trans f2).trans f3
  cases b with
  | false => exact k _ μ3 _ H3 f13 c3 (.bl false) (show Φ (.bl false) μ3 from p3)
  | true =>
    have p3' : AE K tc τ μ3 fun w μ4 => RO K r2 e w μ4 fun z' μ5 => ∃ b', z' = .bl b' ∧ if b' = true then AE K te τ μ5 fun u μ6 => RO K r3 w u μ6 Φ else Φ (.bl false) μ5 := p3
    rw [if_pos rfl]
    refine p3' σ H3 (s.mono (f13.tx c)) c3 _ fun x4 μ4 w' H4 f4 c4 k4 p4 => ?_
    refine p4 H4 u w' c4 (Rel.mono ((f3.trans f4).tx c2) _ _ k2) k4 _ fun z' μ5 o H5 f5 c5 kz' ⟨b', ez', p5⟩ => ?_
    subst ez'
    cases kz'
    refine ⟨b', rfl, ?_⟩
    have f15 := (f13.trans f4).trans f5
    cases b' with
    | false => exact k _ μ5 _ H5 f15 c5 (.bl false) (show Φ (.bl false) μ5 from p5)
    | true =>
      have p5' : AE K te τ μ5 fun u μ6 => RO K r3 x4 u μ6 Φ := p5
      rw [if_pos rfl]
      refine p5' σ H5 (s.mono (f15.tx c)) c5 _ fun u2 μ6 v6 H6 f6 c6 k6 p6 => ?_
      exact p6 H6 w' v6 c6 (Rel.mono ((f5.trans f6).tx c4) _ _ k4) k6 Q fun z μ7 o7 H7 f7 c7 k7 p7 => k z μ7 o7 H7 ((f15.trans f6).trans f7) c7 k7 p7))) only [↓Hold.on]
end
theorem rc_max3 {K : PySem.W.Frag} {i j l : Int} {μ : M} {Φ : D → M → Prop} (q : Φ (.int (max (max i j) l)) μ) : RC K (rNuC3 nuMax3) [.int i, .int j, .int l] μ Φ := fun H xs c r Q k => by
  cases r with
  | cons a r =>
    cases r with
    | cons b r =>
      cases r with
      | cons d r =>
        cases a; cases b; cases d; cases r
        refine ⟨_, _, _, .int (max (max i j) l), rfl, ?_, k _ μ _ H Fr.refl c (.int _) q⟩
        have m2 : ∀ x y : Int, nuMax2 (.int x) (.int y) = some (.int (max x y)) := fun x y => by
          unfold nuMax2 nuLt nuCB
          simp only [Option.map_some]
          by_cases h : x < y
          · rw [if_pos (decide_eq_true h)]; congr 2; omega
          · rw [if_neg (by simpa using h)]; congr 2; omega
        unfold nuMax3
        rw [m2, Option.bind_some, m2]
def gFld (K : PySem.W.Frag) (to : TE) (f : Str) : TG := fun v σ H Q => to σ H fun x H2 => ∃ a C dx fs, x = .ref a ∧ H2 a = some (.ins C dx fs) ∧ Cls K C ∧ NoAttr K C f ∧ fs.length < 1000 ∧ Q σ (upd H2 a (.ins C dx (putF f v fs)))
theorem pg_fld {X : Cx} {o : Expr} {f : Str} {to : TE} {pos : Pos} (ho : PE X o to) : PG X (.Attribute o f pos) (gFld X.K to f) := by
  refine ⟨fun pins s σ H v u Q I r h => ?_⟩
  rw [PySem.assign_Attribute]
  refine wpAny_bind (wpAny_holding (thn (ho.run pins s σ H _ I h) fun ov s1 ⟨x, H2, I2, rx, a, C, dx, fs, ex, ea, c, n, l, q⟩ => ?_))
  subst ex
  obtain rfl : ov = Value.ref a := rx
  refine wpAny_bind (wpAny_standAt (wpAny_bind (wpAny_holding (setattr_ok I2 ea c n l r fun s3 I3 => ?_))))
  exact wpAny_release ⟨σ, _, I3, q⟩
section
variable {K : PySem.W.Frag} {τ : T} {μ μ1 μ2 : M} {H H1 H2 : Hp} {σ : L2.St} {Φ : D → M → Prop} {to te : TE} {d e : D} {N : AEnds}
theorem kvF_len {vs : List (Str × V)} {fs : List (Str × D)} (r : RelKV K H vs fs) : vs.length = fs.length := Paired.length r
theorem g_fld {f : Str} {Θ : T → M → Prop} (h : AE K to τ μ fun o μ2 => ∃ a C dx fs, o = .ref a ∧ μ2 a = some (.ins C dx fs) ∧ Cls K C ∧ NoAttr K C f ∧ fs.length < 1000 ∧ Θ τ (μ2.set a (.ins C dx (putD f d fs)))) : AG K (gFld K to f) d τ μ Θ := fun σ H v s c r Q k =>
  h σ H s c _ fun o μ2 w H2 f2 c2 r2 ⟨a, C, dx, fs, e, ha, hc, hn, hz, q⟩ => by
    subst e
    cases r2
    obtain ⟨vs, hv, hr⟩ := c2 a _ ha
    have fr := fr_mut (H := H2) (o := .ins C dx (putF f v vs)) (m' := .ins C dx (putD f d fs)) ha
    exact ⟨a, C, dx, vs, rfl, hv, hc, hn, by rw [kvF_len hr]; exact hz, k τ _ σ _ (f2.trans fr) (con_mut c2 ha ⟨_, upd_same, put_rel (Rel.mono ((f2.trans fr).tx c) _ _ r) (RelKV.mono (tx_mut c2 ha) hr)⟩) (s.mono ((f2.trans fr).tx c)) q⟩
theorem a_makeK {C : Addr} {n m : Nat} {cn : Str → Option Value} {P : PT4} {gV : List V → List V → List V} (gD : List D → List D → List D) {E : XK} {t tk : TA} (hg : ∀ H vs zs ds es, Rels K H vs ds → Rels K H zs es → ds.length = n + 1 → es.length = m → Rels K H (gV vs zs) (gD ds es))
    (h : AA K t τ μ fun ds μ1 => AA K tk τ μ1 fun es μ2 => ds.length = n ∧ es.length = m ∧ ∀ x dx, μ2 x = none → P (gD (.ref x :: ds) es) (μ2.set x (.ins C dx [])) (fun v μ3 => v = .non ∧ Φ (.ref x) μ3) fun _ _ _ => False) :
    AE K (tMakeK C n m (spX K cn P) gV E t tk) τ μ Φ := fun σ H s c Q k =>
  h σ H s c _ fun ds μ1 vs H1 f1 c1 r1 p1 => p1 σ H1 (s.mono (f1.tx c)) c1 _ fun es μ2 zs H2 f2 c2 r2 ⟨l1, l2, p2⟩ => by
    refine ⟨by rw [r1.length]; exact l1, by rw [r2.length]; exact l2, fun x dx hx hdx ne => ?_⟩
    have c3 : Con K (upd H2 dx (.own x)) μ2 := con_new hdx c2
    have hx3 : upd H2 dx (.own x) x = none := by rw [upd_ne (Ne.symm ne)]; exact hx
    have c4 : Con K (upd (upd H2 dx (.own x)) x (.ins C dx [])) (μ2.set x (.ins C dx [])) := con_put (m := .ins C dx []) hx3 c3 ⟨[], upd_same, .nil⟩
    have f4 : Fr μ2 (μ2.set x (.ins C dx [])) H2 (upd (upd H2 dx (.own x)) x (.ins C dx [])) := (fr_new hdx).trans (fr_put hx3)
    have r1' := (Rels.mono ((f2.trans f4).tx c1) _ _ r1)
    have r2' := (Rels.mono (f4.tx c2) _ _ r2)
    refine ⟨gD (.ref x :: ds) es, _, _, _, hg _ _ _ _ _ (.cons (.ref x) r1') r2' (by rw [List.length_cons, l1]) l2, c4, p2 x dx (c2.free hx), fun d μ' v H' f c' r ⟨ed, q⟩ => ?_, fun _ _ _ _ _ _ _ _ q => q.elim⟩
    subst ed
    cases r
    exact ⟨rfl, k _ μ' _ H' (((f1.trans f2).trans f4).trans f) c' (.ref x) q⟩
end
end Z
namespace Z
open PySem L2 PyProof.Rows
/-- an own error with one field -/
structure Exc1 (P : Program) (w : World) (K : PySem.W.Frag) (mg : Str → Option Value) (base : Heap) (x f : Str) (C : Addr) : Prop where
  ex : ∃ (B newId initId : String) (tl0 tl : List Value) (fI : Addr) (fd : FuncData) (p1 p2 : Str), ExcBaseFacts B newId initId tl0 ∧ PySem.HandSPX.NewIn B tl ∧ XO.OexB K C newId tl ∧ PySem.W.findIn K (.ref C) "__init__" = some (some (.ref fI)) ∧ PySem.W.typeIn K (.ref fI) = some (.type "function") ∧
    FnOk P w K mg base CX0 1 fI fd [p1, p2] (XO.spI1 K newId tl f) ∧ Binds K fd [p1, p2] []
  no : PySem.W.findIn K (.ref C) f = some none
  mg : mg x = some (.ref C)
  xf : XfC K C
/-- an own error with a text -/
structure Exc0 (K : PySem.W.Frag) (mg : Str → Option Value) (x : Str) (C : Addr) : Prop where
  ex : ∃ (B newId initId : String) (tl : List Value), ExcBaseFacts B newId initId tl ∧ PySem.W.excIn K C tl newId = true
  mg : mg x = some (.ref C)
  kp : PySem.W.keepIn K (.ref C) = true
  r1 : PySem.W.subIn K (.ref C) (.type "BaseException") = some true
  r2 : PySem.W.typeIn K (.ref C) = some (.type "type")
section
variable {X : Cx} {C : Addr} {x f m : Str} {j : Nat} {p p2 pos : Pos} {e : Expr} {es : List Expr} {ta : TA}
theorem pmk_e1 (G : Exc1 X.prog X.w X.K X.mg X.base x f C) (hr : Room 2 X.A) (hg : Gl X x) (ha : PA X (e :: es) ta)
    (hdb : (x == ("__debug__" : Str)) = false := by decide) (he : starEach (e :: es) X.env = (false, eval e X.env) :: starEach es X.env := by rfl) (hpl : (backTo pos (starEach es X.env)).any (·.1) = false := by rfl) :
    PMk X (.Call (.Name x p) (e :: es) [] pos) (XO.tMk1 C f ta) := by
  obtain ⟨B, newId, initId, tl0, tl, fI, fd, p1, p2, F, NI, T, iC, tI, FI, hb⟩ := G.ex
  exact XO.pmk_1 F NI T G.no iC tI FI hr hb hg G.mg ha hdb he hpl
theorem pmk_e0 (G : Exc0 X.K X.mg x C) (hg : Gl X x) (hdb : (x == ("__debug__" : Str)) = false := by decide) : PMk X (.Call (.Name x p) [.Constant (.str m) j p2] [] pos) (fun _ H Q => Q (.ref C) none H) := by
  obtain ⟨B, newId, initId, tl, F, q⟩ := G.ex
  exact pmk_own F q G.mg G.kp (raises_own G.r1 G.r2) hg hdb
end
/-- the values by the parameters' order: behind the written ones, those by name (true) and the lacking ones (false) -/
def gK {α : Type} (π : List (Bool × Nat)) (us mv ws : List α) : List α := us ++ π.filterMap fun p => if p.1 = true then ws[p.2]? else mv[p.2]?
theorem vals_at {vs : List V} {us : List Value} (r : Vals vs us) (i : Nat) : (vs[i]? = none ∧ us[i]? = none) ∨ ∃ v u, vs[i]? = some v ∧ us[i]? = some u ∧ RelV v u := by
  induction r generalizing i with
  | nil => exact .inl ⟨by simp, by simp⟩
  | cons a _ ih =>
    cases i with
    | zero => exact .inr ⟨_, _, by simp, by simp, a⟩
    | succ i => simpa using ih i
theorem rels_at {K : PySem.W.Frag} {H : Hp} : ∀ {vs : List V} {ds : List D} (r : Rels K H vs ds) (i : Nat), (vs[i]? = none ∧ ds[i]? = none) ∨ ∃ v d, vs[i]? = some v ∧ ds[i]? = some d ∧ Rel K H v d
  | [], [], .nil, i => .inl ⟨by simp, by simp⟩
  | v :: vs, d :: ds, .cons a b, 0 => .inr ⟨v, d, by simp, by simp, a⟩
  | v :: vs, d :: ds, .cons a b, i + 1 => by simpa using rels_at b i
theorem vals_gK (π : List (Bool × Nat)) {vs mz zs : List V} {us mv ws : List Value} (r : Vals vs us) (r1 : Vals mz mv) (r2 : Vals zs ws) : Vals (gK π vs mz zs) (gK π us mv ws) := by
  refine r.append ?_
  induction π with
  | nil => exact .nil
  | cons p π ih =>
    have z : (((if p.1 = true then zs[p.2]? else mz[p.2]?) = none ∧ (if p.1 = true then ws[p.2]? else mv[p.2]?) = none)) ∨ ∃ v u, (if p.1 = true then zs[p.2]? else mz[p.2]?) = some v ∧ (if p.1 = true then ws[p.2]? else mv[p.2]?) = some u ∧ RelV v u := by
      by_cases h : p.1 = true
      · rw [if_pos h, if_pos h]; exact vals_at r2 _
      · rw [if_neg h, if_neg h]; exact vals_at r1 _
    rw [List.filterMap_cons, List.filterMap_cons]
    rcases z with ⟨a, b⟩ | ⟨v, u, a, b, k⟩
    · rw [a, b]; exact ih
    · rw [a, b]; exact .cons k ih
theorem rels_gK {K : PySem.W.Frag} {H : Hp} (π : List (Bool × Nat)) {vs mz zs : List V} {us mv ws : List D} (r : Rels K H vs us) (r1 : Rels K H mz mv) (r2 : Rels K H zs ws) : Rels K H (gK π vs mz zs) (gK π us mv ws) := by
  refine r.append ?_
  induction π with
  | nil => exact .nil
  | cons p π ih =>
    have z : (((if p.1 = true then zs[p.2]? else mz[p.2]?) = none ∧ (if p.1 = true then ws[p.2]? else mv[p.2]?) = none)) ∨ ∃ v u, (if p.1 = true then zs[p.2]? else mz[p.2]?) = some v ∧ (if p.1 = true then ws[p.2]? else mv[p.2]?) = some u ∧ Rel K H v u := by
      by_cases h : p.1 = true
      · rw [if_pos h, if_pos h]; exact rels_at r2 _
      · rw [if_neg h, if_neg h]; exact rels_at r1 _
    rw [List.filterMap_cons, List.filterMap_cons]
    rcases z with ⟨a, b⟩ | ⟨v, u, a, b, k⟩
    · rw [a, b]; exact ih
    · rw [a, b]; exact .cons k ih
/-- C(.., k = v, ..), its __init__ keeping sp -/
structure MkK (P : Program) (w : World) (K : PySem.W.Frag) (mg : Str → Option Value) (base : Heap) (x : Str) (C : Addr) (ps : List Str) (n : Nat) (ks : List Str) (π : List (Bool × Nat)) (mz : List V) (k : Nat) (sp : Sp) : Prop where
  ex : ∃ f fd g, Mk K C f ∧ FnOk P w K mg base (L2.CX P w) k f fd ps sp ∧ mg x = some (.ref C) ∧ KBn K fd ps (n + 1) ks g (fun vs zs => gK π vs mz zs)
section
variable {X : Cx} {C : Addr} {x : Str} {ps ks : List Str} {n k : Nat} {π : List (Bool × Nat)} {mz : List V} {sp : Sp} {p pos : Pos} {e : Expr} {es : List Expr} {kws : List Keyword} {t tk : TA}
theorem pe_mkK (G : MkK X.prog X.w X.K X.mg X.base x C ps n ks π mz k sp) (hr : Room (k + 1) X.A) (hg : Gl X x) (ha : PA X (e :: es) t) (hkw : PK X kws tk)
    (hall : (backToKw pos (keywordEach kws X.env)).all (·.1.isSome) = true := by rfl) (hks : (backToKw pos (keywordEach kws X.env)).filterMap (·.1) = ks := by rfl) (hdb : (x == ("__debug__" : Str)) = false := by decide)
    (he : starEach (e :: es) X.env = (false, eval e X.env) :: starEach es X.env := by rfl) (hpl : ((backTo pos (starEach (e :: es) X.env)).any (·.1) || (backToKw pos (keywordEach kws X.env)).any (·.1.isNone)) = false := by rfl) :
    PE X (.Call (.Name x p) (e :: es) kws pos) (tMakeK C n ks.length sp (fun vs zs => gK π vs mz zs) E0 t tk) := by
  obtain ⟨f, fd, g, M, F, hm, hb⟩ := G.ex
  exact pe_makeK M F hr hg hm hb passL ha hkw hall hks hdb he hpl
end
theorem a_mkK {K : PySem.W.Frag} {τ : T} {μ : M} {Φ : D → M → Prop} {C : Addr} {n m : Nat} {π : List (Bool × Nat)} {mz : List V} (mD : List D) (hmz : ∀ H, Rels K H mz mD) {cn : Str → Option Value} {P : PT4} {E : XK} {t tk : TA}
    (h : AA K t τ μ fun ds μ1 => AA K tk τ μ1 fun es μ2 => ds.length = n ∧ es.length = m ∧ ∀ x dx, μ2 x = none → P (gK π (.ref x :: ds) mD es) (μ2.set x (.ins C dx [])) (fun v μ3 => v = .non ∧ Φ (.ref x) μ3) fun _ _ _ => False) :
    AE K (tMakeK C n m (spX K cn P) (fun vs zs => gK π vs mz zs) E t tk) τ μ Φ := a_makeK (fun ds es => gK π ds mD es) (fun H vs zs ds es r1 r2 _ _ => rels_gK π r1 (hmz H) r2) h
/-- a def of a class, its keyword defaults by name -/
theorem kbn_of {K : PySem.W.Frag} {x qual : Str} {params : Arguments} {body : List Stmt} {scope : Scope} {kws : List (Str × V)} {f : Addr} {fd : FuncData} {ps : List Str} (F : FunD K x qual params body scope [] kws f fd) (n : Nat) (ks : List Str) (ms : List (Str × V)) (π : List (Bool × Nat)) (hk : kws ≠ []) (hms : ∀ q ∈ ms, q ∈ kws)
    (h : ∀ (D : Addr) (doc pm : Value) (an : Option Addr) (cdv ct : Value) (us mv ws : List Value), us.length = n → mv.length = ms.length → ws.length = ks.length →
      KwChain D ((ms.map (·.1)).zip mv) (bindArgs (PySem.W.fnOf x qual params body scope .none (.ref D) doc pm an cdv ct) ⟨us, ks.zip ws⟩) (ps.zip (gK π us mv ws))) : ∃ g, KBn K fd ps n ks g (fun vs zs => gK π vs (ms.map (·.2)) zs) := by
  obtain ⟨mv, hb⟩ := F.kbinds0 n ks ms (fun us mv ws => gK π us mv ws) hk hms (fun r1 r2 r3 => vals_gK π r1 r2 r3) h
  exact ⟨_, hb⟩
/-- does «except C» name an error of the class at S -/
theorem exm_pair {K : PySem.W.Frag} {S C : Addr} {b : Bool} (h1 : PySem.W.subIn K (.ref C) (.type "BaseException") = some true) (h2 : PySem.W.isClsIn K C = true) (h3 : PySem.W.typeIn K (.ref C) = some (.type "type")) (h4 : PySem.W.subIn K (.ref S) (.ref C) = some b) :
    PySem.W.exmOne K (.ref S) (.ref C) = some b := by
  have e2 : ((PySem.W.clsIn K C).isSome && PySem.W.typeIn K (.ref C) == some (.type "type")) = true := by
    have h5 : (PySem.W.clsIn K C).isSome = true := h2
    rw [h5, h3] <;> rfl
  have e1 : (PySem.W.subIn K (.ref C) (.type "BaseException") == some true) = true := by rw [h1] <;> rfl
  unfold PySem.W.exmOne
  rw [if_pos e1]
  unfold PySem.W.kitCls
  first
    | (rw [if_pos e2]; exact h4)
    | (simp only [e2, if_true]; exact h4)
section
variable {X : Cx} {K : PySem.W.Frag} {o value : Expr} {f : PySem.Str} {ta tv : TE} {pos pos' : Pos}
theorem ps_fldK (h : X.K = K) (ha : PE X o ta) (hv : PE X value tv) (hs : swapsWith value (some (.Attribute o f pos')) pos.line X.env = pure false) : PS X (.Assign [.Attribute o f pos'] value pos) (sFld K ta tv f) := by
  subst h; exact ps_fld ha hv hs
theorem pg_fldK (h : X.K = K) (ho : PE X o ta) : PG X (.Attribute o f pos) (gFld K ta f) := by subst h; exact pg_fld ho
end
/-- a written constant of the top -/
structure Cst (mg : Str → Option Value) (x : Str) (v : V) : Prop where
  ex : ∃ u, mg x = some u ∧ RelV v u
theorem pe_cst {X : Cx} {x : Str} {v : V} {pos : Pos} (G : Cst X.mg x v) (hg : Gl X x) (hd : (x == ("__debug__" : Str)) = false := by decide) : PE X (.Name x pos) (tC v) := by
  obtain ⟨u, hm, r⟩ := G.ex
  exact pe_glob hg hm r hd
end Z
namespace SD
open PySem PySem.Spec PyProof.Rows L2 PySem.W
end SD
namespace Z
open PySem L2 SD PySem.W
/-- pairs of ints stand as tuples do -/
def leP (p q : Int × Int) : Bool := decide (p.1 < q.1) || (decide (p.1 = q.1) && decide (p.2 ≤ q.2))
end Z
namespace ZT
open PySem PySem.Spec PyProof.Rows L2
section
variable {M : Model} {h : Heap} {a : Addr} {oe : Obj} {vs : Array Value}
theorem lk_type (ha : h.get? a = some oe) : PySem.W.Looks M h (typeOf (.ref a)) oe.cls :=
  fun _ _ _ _ k q => wpAny_typeOf_ref (k _ _ ha) q
end
end ZT
namespace L2H
open PySem PySem.Spec PyProof.Rows L2 HotX
end L2H
namespace ZT
open PySem PySem.Spec PyProof.Rows L2
/-- kinds of records: with any context, with none -/
structure Kind (Z : Value → Option Addr → Obj → Prop) : Prop where
  zc : ∀ {c d o}, Z c d o → Zc c d o
  land : ∀ {M : Model} {A : Around} {E₁ : Value → Shared → Prop} {env : Env} {outer : List Env} {B : Heap} {L a : Addr} {c : Value} {d : Option Addr} {Q : Unit → Shared → Prop} {s : Shared}, A.frames = some (env :: outer) → env.frame = some L →
    Sky B (env :: outer) a (Z c d) L s.heap → (∀ h', HandSPX.FlyingZ B (env :: outer) a (Z c d) h' → s.heap.UpToSlots h' → Q () { s with heap := h' }) →
      wpAny M A (noteFrame (.ref a) env) (fun _ s₂ => wpAny M A (setFlight (.ref a) none) Q E₁ s₂) E₁ s
/-- the own frame is on top -/
structure Top (X : Cx) : Prop where
  ok : X.Ok
  stk : X.stack = X.env :: X.outer
  frm : X.env.frame = some X.env.locals
theorem Top.frames {X : Cx} (t : Top X) (hd : Option Value) : (X.A.mark hd).frames = some (X.env :: X.outer) := t.stk ▸ t.ok.frames
/-- an error at a: sI is the state without it, B the ground -/
structure Aloft (Z : Value → Option Addr → Obj → Prop) (X : Cx) (B : Heap) (sI : Shared) (pins : List (Addr × Obj)) (σ : L2.St) (H : Hp) (c : Value) (d : Option Addr) (a : Addr) (s : Shared) : Prop where
  inv : Inv X pins σ H sI
  gnd : ∀ b o, sI.heap.get? b = some o → b ∉ frs X.stack → B.get? b = some o
  up : sI.heap.UpToSlots s.heap
  sky : Sky B X.stack a (Z c d) X.env.locals s.heap
  na : H a = none
  os : s.os = sI.os
  ag : AllBare s.gens
section
variable {Z : Value → Option Addr → Obj → Prop} {X : Cx} {B : Heap} {sI s : Shared} {pins : List (Addr × Obj)} {σ : L2.St} {H : Hp} {c : Value} {d : Option Addr} {a : Addr}
theorem Aloft.xe {W : WX} (x : Aloft Zc X B sI pins σ H c d a s) (w : W c d σ H) : L2.XE X W (.ref a) s := ⟨a, B, sI, pins, σ, H, c, d, rfl, x.inv, x.gnd, x.up, x.sky, x.na, x.os, x.ag, w⟩
/-- the same, caught: it flies over this frame, noted nowhere -/
structure Got (Z : Value → Option Addr → Obj → Prop) (X : Cx) (B : Heap) (sI : Shared) (pins : List (Addr × Obj)) (σ : L2.St) (H : Hp) (c : Value) (d : Option Addr) (a : Addr) (s : Shared) : Prop where
  top : Top X
  inv : Inv X pins σ H sI
  gnd : ∀ b o, sI.heap.get? b = some o → b ∉ frs X.stack → B.get? b = some o
  up : sI.heap.UpToSlots s.heap
  fl : HandSPX.FlyingZ B (X.env :: X.outer) a (Z c d) s.heap
  na : H a = none
  os : s.os = sI.os
  ag : AllBare s.gens
theorem Got.here (g : Got Z X B sI pins σ H c d a s) : Inv X pins σ H s := g.inv.landed g.gnd g.fl.1 g.up g.os g.ag
/-- its record stands apart from all frames, and from the ground -/
theorem Got.apart (g : Got Z X B sI pins σ H c d a s) : ∃ oe vs, s.heap.get? a = some oe ∧ Z c d oe ∧ oe.data = .fields vs ∧ a ≠ X.env.locals ∧ a ∉ X.fs ∧ X.base.get? a = none := by
  obtain ⟨oe, vs, he, hz, hd⟩ := g.fl.there
  have off : a ∉ frs (X.env :: X.outer) := fun hm => by
    obtain ⟨-, o, e, nf⟩ := g.fl.2.2.1.mem hm
    exact nf vs (Option.some.inj (he.symm.trans e) ▸ hd)
  have nl : a ≠ X.env.locals := fun z => off (List.mem_filterMap.mpr ⟨X.env, List.mem_cons_self, z ▸ g.top.frm⟩)
  have nf : a ∉ X.fs := fun hm => off (by
    obtain ⟨e, he, q⟩ := List.mem_filterMap.mp hm
    exact List.mem_filterMap.mpr ⟨e, List.mem_cons_of_mem _ he, q⟩)
  refine ⟨oe, vs, he, hz, hd, nl, nf, Option.eq_none_iff_forall_not_mem.mpr fun o e => ?_⟩
  have b1 := g.gnd a o (g.inv.bk a o e) (g.top.stk ▸ off)
  exact Option.some_ne_none _ (b1.symm.trans g.fl.2.1)
/-- .. and stays so in a greater heap, or when its flight is told again -/
theorem Got.grow (g : Got Z X B sI pins σ H c d a s) (o : Obj) : Got Z X B sI pins σ H c d a { s with heap := s.heap.push o } := by
  have k : ∀ b u, s.heap.get? b = some u → (s.heap.push o).get? b = some u := fun b u e => Heap.get?_push_of_some _ e
  obtain ⟨f1, f2, f3, oe, vs, T, oT, ts, k1, k2, k3, k4, k5, k6, k7, k8⟩ := g.fl
  exact ⟨g.top, g.inv, g.gnd, g.up.trans (.of_keeps k), ⟨fun b u e => k b u (f1 b u e), f2, f3.of_keeps fun b u e _ => ⟨u, k b u e, rfl⟩, oe, vs, T, oT, ts, k _ _ k1, k2, k3, k4, k5, k6, k _ _ k7, k8⟩, g.na, g.os, g.ag⟩
end
section
variable {X : Cx} {pins : List (Addr × Obj)} {σ : L2.St} {H : Hp} {s : Shared}
/-- h' is h but for the object at L -/
def Off (L : Addr) (h h' : Heap) : Prop := ∀ b, b ≠ L → h'.get? b = h.get? b
theorem Off.cell {L b : Addr} {h h' : Heap} {v : Option Value} (f : Off L h h') (n : b ≠ L) : h.IsCell b v → h'.IsCell b v := fun ⟨o, e, d⟩ => ⟨o, (f b n).trans e, d⟩
theorem Off.un {fs ex : List Addr} {H' : Hp} {L : Addr} {h0 h h' : Heap} (u : Un fs ex H' H h0 h) (f : Off L h h') (n : ∀ b o, h0.get? b = some o → b ≠ L) : Un fs ex H' H h0 h' where
  keep b o e z i j := (f b (n b o e)).trans (u.keep b o e z i j)
  slot b o e z i j := (u.slot b o e z i j).imp fun _ q => (f b (n b o e)).trans q
  free := u.free
  there b o e j := (u.there b o e j).imp fun _ q => (f b (n b o e)).trans q
  tups := u.tups
  frzs := u.frzs
  tbls := u.tbls
theorem Off.hok {P : Program} {w : World} {L : Addr} {h h' : Heap} (k : HOk P w H h) (f : Off L h h') (n : H L = none) : HOk P w H h' := fun b o e =>
  (k b o e).stay (fun x u way q => (f x fun z => way.elim (fun w => by rw [← w, z, n] at e; cases e) fun w => by rw [z, n] at w; cases w).trans q) (fun _ q => q) fun _ _ q => q
end
end ZT
namespace ZT
open PySem PySem.Spec PyProof.Rows L2
/-- the context of a suite, F about what leaves it -/
abbrev sctx (X : Cx) (a : Addr) (pn : List (Addr × Obj)) (F : Value → Shared → Prop) : Cx := { X with A := X.A.mark (some (.ref a)), calm := false, pn := pn, xe := F }
end ZT
namespace ZT
open PySem PySem.Spec PyProof.Rows L2
/-- the names in a clause's tuple -/
inductive NsL (X : Cx) : List Expr → List Value → Prop
  | nil : NsL X [] []
  | cons {x : Str} {c : Value} {np : Pos} {es : List Expr} {cs : List Value} (hc : Names X x c) (r : NsL X es cs) : NsL X (.Name x np :: es) (c :: cs)
/-- a clause's classes, by what they answer -/
inductive Test (X : Cx) : Expr → (Value → Option Bool) → Prop
  | one {x : Str} {c : Value} {np : Pos} (hc : Names X x c) : Test X (.Name x np) (fun cls => PySem.W.exmOne X.K cls c)
  | tup {es : List Expr} {cs : List Value} {k : Nat} {np : Pos} (h : NsL X es cs) (z : cs.length = 2 ∨ cs.length = 3 ∨ cs.length = 4) : Test X (.Tuple es k np) (fun cls => PySem.W.exmAny X.K cls cs)
section
variable {Z : Value → Option Addr → Obj → Prop} {X : Cx} {B : Heap} {sI s : Shared} {pins : List (Addr × Obj)} {σ : L2.St} {H : Hp} {c : Value} {d : Option Addr} {a : Addr}
/-- the state as a suite's -/
theorem Got.suite (g : Got Z X B sI pins σ H c d a s) : ∃ oe, Z c d oe ∧ (∃ vs, oe.data = .fields vs) ∧ X.base.get? a = none ∧ s.heap.get? a = some oe ∧ ∀ F, Inv (sctx X a ((a, oe) :: (X.pn ++ pins)) F) [] σ H s := by
  obtain ⟨oe, vs, he, hz, hd, nl, nf, nb⟩ := g.apart
  exact ⟨oe, hz, ⟨vs, hd⟩, nb, he, fun F => Inv.unwish (X := sctx X a _ F) (E := fun _ _ => False) (g.here.suite he hd g.na nl nf)⟩
theorem name_ld {x : Str} {v : Value} {np : Pos} {pn : List (Addr × Obj)} {Q E : Value → Shared → Prop} (I : Inv (X.suite a pn) [] σ H s) (hc : Names X x v) (q : Q v s) : wpAny (model X.prog X.w) (X.A.mark (some (.ref a))) (eval (.Name x np) X.env) Q E s :=
  match hc with
  | ⟨g, dbg, .inl m⟩ => ld_glob (X := X.suite a pn) I g m q dbg
  | ⟨g, dbg, .inr ⟨m, v, nn⟩⟩ => ld_blt (X := X.suite a pn) I g m v q nn dbg
theorem names_ld {es : List Expr} {cs : List Value} {pos : Pos} {pn : List (Addr × Obj)} {E : Value → Shared → Prop} (I : Inv (X.suite a pn) [] σ H s) (hn : NsL X es cs) : ∀ {Q : List Value → Shared → Prop}, Q cs s → wpAny (model X.prog X.w) (X.A.mark (some (.ref a))) (spliced (backTo pos (starEach es X.env))) Q E s := by
  induction hn with
  | nil => exact fun q => wpAny_items_nil q
  | cons hc _ ih => exact fun q => wpAny_items_cons (name_ld I hc (ih q))
theorem Test.run {te : Expr} {ans : Value → Option Bool} {b : Bool} {G : Bool → Shared → Prop} {E1 E2 : Value → Shared → Prop} (t : Test X te ans) (k : Kind Z) (g : Got Z X B sI pins σ H c d a s) (hb : ans c = some b)
    (q : ∀ h', Got Z X B sI pins σ H c d a { s with heap := h' } → G b { s with heap := h' }) :
    wpAny (model X.prog X.w) (X.A.mark (some (.ref a))) (eval te X.env) (fun v s₁ => wpAny (model X.prog X.w) (X.A.mark (some (.ref a))) (excMatches (.ref a) v) G E2 s₁) E1 s := by
  obtain ⟨oe, hz, -, -, he, J⟩ := g.suite
  have I := J fun _ _ => False
  have ty : PySem.W.Looks (model X.prog X.w) s.heap (typeOf (.ref a)) c := (k.zc hz).1 ▸ lk_type he
  cases t with
  | one hc => exact name_ld I hc ((PySem.W.exm_one I.kIn ty hb).here (q _ g))
  | @tup es cs n np hn z =>
    refine wpAny_Tuple (names_ld I hn ⟨by have := sizeLine_eq; omega, ?_⟩)
    have more : ∀ b o, s.heap.get? b = some o → (s.heap.push { cls := .type "tuple", data := .seq cs.toArray }).get? b = some o := fun b o e => Heap.get?_push_of_some _ e
    have at_ := Heap.get?_push_size s.heap (o := { cls := .type "tuple", data := .seq cs.toArray }) rfl
    have fin := q _ (g.grow { cls := .type "tuple", data := .seq cs.toArray })
    match cs, z, hb with
    | [_, _], _, hb => exact (PySem.W.exm_tup2 (I.kIn.keeps more) (ty.keeps more) at_ hb).here fin
    | [_, _, _], _, hb => exact (PySem.W.exm_tup3 (I.kIn.keeps more) (ty.keeps more) at_ hb).here fin
    | [_, _, _, _], _, hb => exact (PySem.W.exm_tup4 (I.kIn.keeps more) (ty.keeps more) at_ hb).here fin
end
end ZT
namespace Z
open PySem PySem.Spec PyProof.Rows L2
end Z
namespace L2H
open PySem PySem.Spec PyProof.Rows L2 HotX
end L2H
namespace Z
open PySem PySem.Spec PyProof.Rows L2
end Z
namespace Z
open PySem PySem.Spec PyProof.Rows L2
/-- x(.., k = v ..): n places, the names ks; gK π puts them, and the defaults mz, in the parameters' order -/
structure DefN (P : Program) (w : World) (K : PySem.W.Frag) (mg : Str → Option Value) (base : Heap) (x : Str) (ps : List Str) (n : Nat) (ks : List Str) (π : List (Bool × Nat)) (mz : List V) (k : Nat) (sp : Sp) : Prop where
  ex : ∃ f fd g, FnOk P w K mg base (L2.CX P w) k f fd ps sp ∧ mg x = some (.ref f) ∧ PySem.W.keepIn K (.ref f) = true ∧ KBn K fd ps n ks g (fun vs zs => gK π vs mz zs)
end Z
namespace Z
open PySem PySem.Spec PyProof.Rows L2
def rIsX (K : PySem.W.Frag) (cls : Value) (d : Option Addr) (a : Addr) : List V → Hp → VK → Prop := fun xs H Q => ∃ (c : V) (D : Addr) (b : Bool), xs = [.ref a, c] ∧ cls = .ref D ∧ d = none ∧ ExcC K D ∧
  ((∃ u, ClsV c u ∧ PySem.W.kitOne K (.ref D) u = some b) ∨ (∃ (tp : Addr) (cs : List V) (us : List Value), c = .ref tp ∧ H tp = some (.tup cs) ∧ Paired ClsV cs us ∧ PySem.W.kitAny K (.ref D) us = some b)) ∧ Q (.bl b) H
theorem inst_of {h : Heap} {a D : Addr} {oe : Obj} (g : h.get? a = some oe) (hz : Zc (.ref D) none oe) (hf : ∃ vs, oe.data = .fields vs) : PySem.W.InstAt h a oe D none :=
  match oe, hz, hf, g with
  | ⟨_, _, _, _⟩, ⟨rfl, rfl⟩, ⟨_, rfl⟩, g => ⟨g, rfl, rfl, trivial⟩
theorem call_isX {X : Cx} {K : PySem.W.Frag} {a : Addr} {cls : Value} {d : Option Addr} {oe : Obj} {pn : List (Addr × Obj)} (hK : X.K = K) (hz : Zc cls d oe) (hf : ∃ vs, oe.data = .fields vs) : CallR (X.suite a ((a, oe) :: pn)) (.builtin "isinstance") (rIsX K cls d a) := by
  subst hK
  intro pins s σ H xs us Q I r h
  obtain ⟨c, D, b, rfl, rfl, rfl, C, hc, q⟩ := h
  obtain ⟨u1, u2, rfl, r1, r2⟩ := vals2 r
  cases r1
  have J := inst_of (I.pin (a, oe) (List.mem_append_left _ List.mem_cons_self)).1 hz hf
  have Z := PySem.W.handS_kitx_exc (K := X.K) (x := a) (ox := oe) C.hg C.hk C.hs C.hd C.ha C.hn C.ht C.hm
  rcases hc with ⟨u, cv, e⟩ | ⟨tp, cs, ws, rfl, ht, cv, e⟩
  · have e2 := cv.eq r2
    subst e2
    exact PySem.W.kia_one Z I.kIn J e (fun z => nomatch z) fun tk => ⟨.bl b, H, I.kept (t' := tk) fun _ _ z => z, rfl, q⟩
  · cases (show u2 = Value.ref tp from r2)
    obtain ⟨_, its, rv, o, h1, h2, n, h3⟩ := (show ObjOk X.prog X.w H s.heap tp (.tup cs) from I.hok tp _ ht)
    have e3 := ClsV.all cv rv
    subst e3
    obtain ⟨oc, od, dt, sl⟩ := o
    simp only at h2 h3
    subst h2 h3
    exact PySem.W.kia_tup Z I.kIn J h1 e (fun z => nomatch z) fun tk => ⟨.bl b, H, I.kept (t' := tk) fun _ _ z => z, rfl, q⟩
section
variable {K : PySem.W.Frag} {μ : M} {Φ : D → M → Prop} {a : Addr} {cls : Value} {d : Option Addr}
theorem rc_isX1 {D C : Addr} {b : Bool} (ec : cls = .ref D) (ed : d = none) (E : ExcC K D) (h : PySem.W.kitOne K (.ref D) (.ref C) = some b) (q : Φ (.bl b) μ) : RC K (rIsX K cls d a) [.ref a, .ref C] μ Φ := fun H xs c r Q k => by
  cases r with
  | cons r1 rr =>
    cases rr with
    | cons r2 rr =>
      cases rr
      cases r1
      cases r2
      exact ⟨_, D, b, rfl, ec, ed, E, .inl ⟨_, .own C, h⟩, k (.bl b) μ _ H Fr.refl c (.bl b) q⟩
theorem rc_isXb {D : Addr} {n : String} {b : Bool} (ec : cls = .ref D) (ed : d = none) (E : ExcC K D) (h : PySem.W.kitOne K (.ref D) (.type n) = some b) (q : Φ (.bl b) μ) : RC K (rIsX K cls d a) [.ref a, .ty n] μ Φ := fun H xs c r Q k => by
  cases r with
  | cons r1 rr =>
    cases rr with
    | cons r2 rr =>
      cases rr
      cases r1
      cases r2
      exact ⟨_, D, b, rfl, ec, ed, E, .inl ⟨_, .ty n, h⟩, k (.bl b) μ _ H Fr.refl c (.bl b) q⟩
theorem clsV_refs {H : Hp} : ∀ {Cs : List Addr} {vs : List V}, Rels K H vs (Cs.map Z.D.ref) → Paired ClsV vs (Cs.map Value.ref)
  | [], [], .nil => .nil
  | C :: Cs, v :: vs, .cons r rr => by
    cases r
    exact .cons (.own C) (clsV_refs rr)
theorem rc_isXt {D : Addr} (Cs : List Addr) {b : Bool} (ec : cls = .ref D) (ed : d = none) (E : ExcC K D) (h : PySem.W.kitAny K (.ref D) (Cs.map .ref) = some b) (q : Φ (.bl b) μ) : RC K (rIsX K cls d a) [.ref a, .tup (Cs.map Z.D.ref)] μ Φ := fun H xs c r Q k => by
  cases r with
  | cons r1 rr =>
    cases rr with
    | cons r2 rr =>
      cases rr
      cases r1
      cases r2 with
      | tup ht rs =>
        obtain ⟨ht⟩ := ht
        exact ⟨_, D, b, rfl, ec, ed, E, .inr ⟨_, _, _, rfl, ht, clsV_refs rs, h⟩, k (.bl b) μ _ H Fr.refl c (.bl b) q⟩
end
end Z
namespace Z
open PySem
theorem kit_cls {K : PySem.W.Frag} {S C : Addr} {b : Bool} (h2 : PySem.W.isClsIn K C = true) (h3 : PySem.W.typeIn K (.ref C) = some (.type "type")) (h4 : PySem.W.subIn K (.ref S) (.ref C) = some b) : PySem.W.kitCls K (.ref S) (.ref C) = some b := by
  have e2 : ((PySem.W.clsIn K C).isSome && PySem.W.typeIn K (.ref C) == some (.type "type")) = true := by
    have h5 : (PySem.W.clsIn K C).isSome = true := h2
    rw [h5, h3] <;> rfl
  show (if ((PySem.W.clsIn K C).isSome && PySem.W.typeIn K (.ref C) == some (.type "type")) = true then PySem.W.subIn K (.ref S) (.ref C) else none) = some b
  rw [if_pos e2]
  exact h4
theorem kit_own {K : PySem.W.Frag} {S C : Addr} {b : Bool} (hs : PySem.W.subIn K (.ref S) (.ref S) = some true) (h2 : PySem.W.isClsIn K C = true) (h3 : PySem.W.typeIn K (.ref C) = some (.type "type")) (h4 : PySem.W.subIn K (.ref S) (.ref C) = some b) : PySem.W.kitOne K (.ref S) (.ref C) = some b := by
  unfold PySem.W.kitOne
  split
  · rename_i e
    have : S = C := Value.ref.inj (beq_iff_eq.mp e)
    subst this
    rw [hs] at h4
    exact h4
  · exact kit_cls h2 h3 h4
theorem kit_bt {K : PySem.W.Frag} {S : Addr} {n : String} {b : Bool} (hm : PySem.W.kitMeta n = true) (h4 : PySem.W.subIn K (.ref S) (.type n) = some b) : PySem.W.kitOne K (.ref S) (.type n) = some b := by
  unfold PySem.W.kitOne
  rw [if_neg (by simp)]
  show (if PySem.W.kitMeta n = true then PySem.W.subIn K (.ref S) (.type n) else none) = some b
  rw [if_pos hm]
  exact h4
end Z
namespace LK
open PySem PySem.Spec PyProof.Rows L2 LamX NdefX PySem.W
end LK
namespace LK
open PySem PySem.Spec PyProof.Rows L2 LamX NdefX PySem.W
section
variable {X : Cx}
/-- the frame's own objects lie below -/
theorem low {pins : List (Addr × Obj)} {σ : L2.St} {H : Hp} {s : Shared} (I : Inv X pins σ H s) {b : Addr} (h : s.heap.objs.size ≤ b) :
    (b ∈ X.ex ∨ X.s_0.heap.objs.size ≤ b) ∧ b ≠ X.env.locals ∧ (∀ x c, X.env.cells.lookup x = some c → c ≠ b) ∧ ∀ p ∈ X.pn ++ pins, p.1 ≠ b := by
  refine ⟨.inr (Nat.le_trans I.sz h), Nat.ne_of_gt (Nat.lt_of_lt_of_le I.lt h), fun x c e => ?_, fun p hp => ?_⟩
  · obtain ⟨v, o, ho, _⟩ := I.cell x c e
    exact Nat.ne_of_lt (Nat.lt_of_lt_of_le (Heap.lt_size ho) h)
  · exact Nat.ne_of_lt (Nat.lt_of_lt_of_le (Heap.lt_size (I.pin p hp).1) h)
end
end LK
namespace LK
open PySem PySem.Spec PyProof.Rows L2 LamX NdefX PySem.W
structure FunT (K : PySem.W.Frag) (x qual : Str) (st : Stmt) (c f : Addr) (fd : FuncData) : Prop where
  ex : ∃ (oc : Value) (od : Option Addr) (kV doc pm : Value) (an : Option Addr) (ct : Value) (osl : Array (Option Value)),
    fd = PySem.W.fnOf x qual (defArgs st) (defBody st) (defScope st) .none kV doc pm an (.ref c) ct ∧ K.lookup f = some ⟨oc, od, .func fd, osl⟩ ∧ PySem.W.codeIn K (.ref c) qual = true
  kp : PySem.W.keepIn K (.ref f) = true
section
variable {P : Program} {w : World} {K : PySem.W.Frag} {mg : Str → Option Value} {base : Heap} {x qual : Str} {st : Stmt} {c f : Addr} {fd : FuncData}
theorem FunT.ok {CX : CXT} {N ps : List Str} {k : Nat} {sp : Sp} (F : FunT K x qual st c f fd) (S : FnScope N ps (defScope st)) (len : ∀ vs H Q E, sp vs H Q E → vs.length = ps.length)
    (hbody : ∀ (A : Around) (outer : List Env) (s : Shared) (H : Hp) (vs : List V) (Q : VK) (E : XK), Room k (A.deeper (envOfC qual (defScope st) s.heap.objs.size f (.ref c))) → sp vs H Q E →
      ∃ t, PSs (cxOf CX P w K mg base N qual (defScope st) f (.ref c) A outer s H E) (defBody st) t ∧ t { nx := fun _ H' => Q .non H', rt := Q } (start N vs) H) : FnOk P w K mg base CX (k + 1) f fd ps sp := by
  obtain ⟨oc, od, kV, doc, pm, an, ct, osl, rfl, lk, hcd⟩ := F.ex
  exact fn_of lk hcd S len hbody
theorem FunT.fn (F : FunT K x qual st c f fd) : Fun K x qual st f fd := by
  obtain ⟨oc, od, kV, doc, pm, an, ct, osl, e, lk, hcd⟩ := F.ex
  exact ⟨⟨oc, od, kV, doc, pm, an, .ref c, ct, osl, e, lk, hcd⟩, F.kp⟩
end
end LK
namespace Z
open PySem L2 LK PySem.W
end Z
namespace EK
open PySem PySem.Spec PyProof.Rows L2
end EK
namespace Z
open PySem L2 EK
end Z
namespace OD
open PySem PySem.Spec PyProof.Rows L2 PySem.W
end OD
namespace Z
open PySem L2 OD PySem.W
abbrev t3 (a b c : Int) : D := .tup [.int a, .int b, .int c]
/-- p stands ahead of q -/
def lt3 (p q : Int × Int × Int) : Bool := decide (p.1 < q.1) || (decide (p.1 = q.1) && (decide (p.2.1 < q.2.1) || (decide (p.2.1 = q.2.1) && decide (p.2.2 < q.2.2))))
end Z
namespace Z
open PySem PySem.Spec PyProof.Rows L2 LK LamX
end Z
namespace Z
open PySem L2
section
variable {K : PySem.W.Frag} {τ : T} {μ μ1 μ2 : M} {Φ : D → M → Prop} {te : TE} {tt tt1 : TT} {wi wi1 : TI} {g g1 : TG}
theorem a_methI {P : PT3} {E : XK} {C : Addr} {m : Str} {ta : TA} (h : AE K te τ μ fun o μ1 => ∃ a dx fs, o = .ref a ∧ μ1 a = some (.ins C dx fs) ∧ fs.lookup m = none ∧ AA K ta τ μ1 fun ds μ2 => P (o :: ds) μ2 Φ) :
    AE K (tMeth C m (spI K P) [] E te ta) τ μ Φ := fun σ H s c Q k =>
  h σ H s c _ fun o μ1 v H1 f1 c1 r1 ⟨a, dx, fs, e, ha, hm, p1⟩ => by
    subst e
    cases r1
    obtain ⟨vs, hv, hr⟩ := c1 a _ ha
    refine ⟨a, dx, vs, rfl, hv, look_none hr hm, p1 σ H1 (s.mono (f1.tx c)) c1 _ fun ds μ2 us H2 f2 c2 r2 p => ?_⟩
    rw [List.append_nil]
    exact ⟨.ref a :: ds, μ2, Φ, .cons (.ref a) r2, c2, p, fun d μ' v H' f c' r q => k d μ' v H' ((f1.trans f2).trans f) c' r q⟩
theorem eqv_lists (ds es : List D) : PyData.eqv (.list (D.pys ds)) (.list (D.pys es)) = D.eqv (.tup ds) (.tup es) := by
  unfold D.eqv
  simp only [D.py, PyData.eqv]
theorem okn_list {n : Nat} {ds : List D} (ok : ∀ x ∈ ds, OkN n x) (hn : n < 64) : SeqAt.shaped (.list (D.pys ds)) = true := by
  obtain ⟨h1, h2, h3⟩ := okn_all ok
  unfold SeqAt.shaped
  simp only [PyData.canLay0, PyData.depth, h2, Bool.true_and]
  exact decide_eq_true (by omega)
theorem ro_eqL {a b : Addr} {n : Nat} {ds es : List D} (h1 : μ a = some (.lst ds)) (h2 : μ b = some (.lst es)) (ok1 : ∀ x ∈ ds, OkN n x) (ok2 : ∀ x ∈ es, OkN n x) (hn : n < 64) (q : Φ (.bl (D.eqv (.tup ds) (.tup es))) μ) : RO K (rEqD K) (.ref a) (.ref b) μ Φ := fun H x y c r1 r2 Q k => by
  cases r1; cases r2
  obtain ⟨vs, hv, hr⟩ := c _ _ h1
  obtain ⟨ws, hw, hs⟩ := c _ _ h2
  refine ⟨_, _, .lst (SqL.of hv) (Rels.dp _ _ hr (okn_all ok1).1), .lst (SqL.of hw) (Rels.dp _ _ hs (okn_all ok2).1), okn_list ok1 hn, okn_list ok2 hn, ?_⟩
  rw [eqv_lists]
  exact k _ μ _ H Fr.refl c (.bl _) q
end
end Z
namespace L2
namespace DCT
open PySem PySem.Spec PyProof.Rows
section
variable {Y : Cx} {tg : Expr} {ifs : List Expr} {J : It} {fp : List Addr} {it : Addr} {tn : Nat → Heap → Prop} {τ : St} {i : Nat} {G : Hp} {z : Shared}
/-- a block between two turns: the source stands at place i, and none of its objects is tracked -/
structure Rest (Y : Cx) (fp : List Addr) (tn : Nat → Heap → Prop) (τ : St) (i : Nat) (G : Hp) (z : Shared) : Prop where
  inv : Inv Y [] τ G z
  src : tn i z.heap
  hid : ∀ b ∈ fp, G b = none
/-- a block of a source's own objects, nothing pinned in it, nothing let out -/
structure Plain (Y : Cx) (fp : List Addr) : Prop where
  ex : Y.ex = fp
  pn : Y.pn = []
  xe : Y.xe = fun _ _ => False
  calm : Y.calm = true
theorem hidden {σ : St} (y : Plain Y fp) (I : Inv Y [] σ G z) (h : ∀ b ∈ fp, G b = none) : ∀ b ∈ fp, FpOk Y [] G b := by
  intro b hb
  have mine : b ∈ Y.ex := y.ex.symm ▸ hb
  have apart := I.ok.exf b mine
  exact ⟨h b hb, apart.1, I.ok.exfs b mine, .inl mine, apart.2, by rw [y.pn]; exact fun _ no => nomatch no⟩
/-- what a turn leaves is at rest again, one place on -/
theorem again {σ : St} {vs : List Nat} {h0 : Heap} (T : Turn Y.prog Y.w Y.K tg J fp it tn) (t : tn i h0) (w : wipe σ vs = τ) (I : Inv Y ([] ++ pinsAt fp h0) σ G z) : Rest Y fp tn τ i G z := by
  have same : ∀ b ∈ fp, ∀ o, h0.get? b = some o → z.heap.get? b = some o ∧ G b = none := by
    intro b hb o e
    have pin := I.pin (b, o) (by simp [mem_pinsAt hb e])
    exact ⟨pin.1, pin.2.1⟩
  subst w
  refine ⟨Inv.weak (Inv.unpinned I) (wipe_length σ vs) fun j v e => (wipe_some e).1, T.keep i h0 z.heap t fun b hb o e => (same b hb o e).1, ?_⟩
  intro b hb
  obtain ⟨o, e, _⟩ := T.obj i h0 t b hb
  exact (same b hb o e).2
/-- one turn, up to what the tests say -/
theorem turn {g : TG} {tt : TT} {vs : List Nat} {Φ : Bool → St → Hp → Prop} {W : Bool → Shared → Prop} {N : Shared → Prop} {E : Value → Shared → Prop} (y : Plain Y fp) (T : Turn Y.prog Y.w Y.K tg J fp it tn) (pg : PG Y tg g) (pt : PTs Y ifs tt)
    (R : Rest Y fp tn τ i G z) (go : J.go i G) (step : ∀ x G', J.yld i G x G' → g x τ G' fun σ2 G2 => wipe σ2 vs = τ ∧ tt σ2 G2 fun b G3 => Φ b σ2 G3)
    (rest : ∀ b pl σ2 G3 z3, Inv Y pl σ2 G3 z3 → Φ b σ2 G3 → (∀ G4 z4, Inv Y pl σ2 G4 z4 → Rest Y fp tn τ (i + 1) G4 z4) → W b z3) :
    wpAny (model Y.prog Y.w) Y.A (pyNext (.ref it)) (fun r s1 => match r with
      | none => N s1
      | some v => wpAny (model Y.prog Y.w) Y.A (letOwnedTupleGo tg (.ref it) v) (fun _ s2 => wpAny (model Y.prog Y.w) Y.A (assign tg Y.env v) (fun _ s3 =>
          wpAny (model Y.prog Y.w) Y.A (forIn ifs true fun c r => if r = true then do let ok ← isTrue c Y.env (eval c Y.env); pure (ForInStep.yield ok) else pure (ForInStep.yield r)) W E s3) E s2) E s1) E z := by
  have none_out : ∀ {α : Type} {m : Sem α} {A B : α → Shared → Prop} {s}, wpAny (model Y.prog Y.w) Y.A m A Y.xe s → (∀ a s, A a s → B a s) → wpAny (model Y.prog Y.w) Y.A m B E s := by
    intro α m A B s h k
    rw [y.xe] at h
    exact thnF h k
  apply thnF (T.item Y rfl rfl rfl y.calm i [] z τ G (fun _ _ => False) R.inv (hidden y R.inv R.hid) R.src go)
  rintro _ s1 ⟨u, rfl, more⟩
  apply thnF more
  rintro _ s2 ⟨x, G2, I2, ru, yld, src, hid⟩
  have P2 := I2.pinned (hidden y I2 hid) fun b hb => T.obj (i + 1) s2.heap src b hb
  apply none_out (pg.run _ s2 τ G2 x u _ P2 ru (step x G2 yld))
  rintro _ s3 ⟨σ3, G3, I3, w3, h3⟩
  apply none_out (pt.run _ s3 σ3 G3 _ I3 h3)
  rintro b s4 ⟨G4, I4, h4⟩
  exact rest b _ σ3 G4 s4 I4 h4 fun G5 z5 I5 => again T src w3 I5
end
end DCT
end L2
namespace Z
open PySem L2 PySem.W L2.DCT
end Z
namespace Z
open PySem L2 PySem.W
end Z
namespace Z
open PySem PySem.Spec PyProof.Rows L2
structure MthN (P : Program) (w : World) (K : PySem.W.Frag) (mg : Str → Option Value) (base : Heap) (C : Addr) (m : Str) (ps : List Str) (n : Nat) (ks : List Str) (π : List (Bool × Nat)) (mz : List V) (k : Nat) (sp : Sp) : Prop where
  ex : ∃ f fd g, FnOk P w K mg base (L2.CX P w) k f fd ps sp ∧ Cls K C ∧ Meth K C m f ∧ KBn K fd ps (n + 1) ks g (fun vs zs => gK π vs mz zs)
section
variable {X : Cx} {CX : CXT} {k n : Nat} {f C : Addr} {fd : FuncData} {ps ks : List Str} {sp : Sp} {E : XK} {x m : Str} {p pos apos : Pos} {e o : Expr} {es : List Expr} {kws : List Keyword} {t tk : TA} {to : TE} {g : List Value → List Value → List Value} {gV : List V → List V → List V} {W : WX} {π : List (Bool × Nat)} {mz : List V}
/-- what a call by a kept promise leaves: its answer, or what is raised -/
theorem come_back {pins : List (Addr × Obj)} {σ : L2.St} {H : Hp} {s : Shared} {R : VK} (out : PassesAt CX X σ E) (I : L2.Inv X pins σ H s) : ∀ {r : Result} {z : Shared}, CR CX X.stack X.prog X.w H s R E r z →
    match r with
    | .ok (.ret u) => ∃ v H', L2.Inv X pins σ H' z ∧ L2.RelV v u ∧ R v H'
    | .ok _ => False
    | .error e => X.xe e z
  | .ok (.ret _), _, q => I.after q
  | .ok .next, _, q | .ok .brk, _, q | .ok .cont, _, q => q
  | .error e, z, q => out pins H s e z I q
/-- the places, then the names, then the call itself: f is kept by the table -/
theorem kw_call {fA : Addr} {own : List Value} {s : Shared} {σ : L2.St} {H : Hp} {pins : List (Addr × Obj)} {Q : VK} {e : Expr} {es : List Expr} {kws : List Keyword} {t tk : TA} {pos : Pos} {G : List V → List V → Hp → Prop} (I : L2.Inv X pins σ H s) (kp : PySem.W.keepIn X.K (.ref fA) = true) (ha : PA X (e :: es) t) (hkw : PK X kws tk)
    (hall : (backToKw pos (keywordEach kws X.env)).all (·.1.isSome) = true) (hks : (backToKw pos (keywordEach kws X.env)).filterMap (·.1) = ks) (he : starEach (e :: es) X.env = (false, eval e X.env) :: starEach es X.env) (hpl : ((backTo pos (starEach (e :: es) X.env)).any (·.1) || (backToKw pos (keywordEach kws X.env)).any (·.1.isNone)) = false)
    (h : t σ H fun vs H1 => tk σ H1 fun zs H2 => G vs zs H2) (go : ∀ us ws vs zs H2 s2, L2.Inv X pins σ H2 s2 → Vals vs us → Vals zs ws → G vs zs H2 → wpAny (model X.prog X.w) X.A (call (.ref fA) (own ++ us) (ks.zip ws)) (EP X pins σ Q) X.xe s2) :
    wpAny (model X.prog X.w) X.A (callWith pos (.ref fA) own (backTo pos (starEach (e :: es) X.env)) (backToKw pos (keywordEach kws X.env))) (EP X pins σ Q) X.xe s :=
  PySem.W.callWith_KW (h₀ := X.base) I.ok.mod.kin kp hall (thn (ha.run pos pins s σ H _ I h) fun us s1 ⟨vs, H1, I1, r, q⟩ => thn (hkw.run pos pins s1 σ H1 _ I1 q) fun ws s2 ⟨zs, H2, I2, rz, q2⟩ => ⟨I2.kIn, hks ▸ go us ws vs zs H2 s2 I2 r rz q2⟩) hpl he
/-- C(..) where its __init__ may raise -/
def tMakeKS (C : Addr) (n m : Nat) (sp : Sp) (gV : List V → List V → List V) (E : L2.St → XK) (t tk : TA) : TE := fun σ H Q => t σ H fun vs H1 => tk σ H1 fun zs H2 => vs.length = n ∧ zs.length = m ∧ ∀ x dx, H2 x = none → H2 dx = none → dx ≠ x →
  sp (gV (.ref x :: vs) zs) (upd (upd H2 dx (.own x)) x (.ins C dx [])) (fun v H3 => v = .non ∧ Q (.ref x) H3) (E σ)
theorem run_makeKS {pins : List (Addr × Obj)} {σ : L2.St} {H : Hp} {s : Shared} {Q : VK} {us ws : List Value} {vs zs : List V} (M : Mk X.K C f) (F : FnOk X.prog X.w X.K X.mg X.base CX k f fd ps sp) (hr : Room (k + 1) X.A) (hb : KBn X.K fd ps (n + 1) ks g gV) (out : PassesAt CX X σ E)
    (I : L2.Inv X pins σ H s) (r : Vals vs us) (rz : Vals zs ws) (l1 : vs.length = n) (l2 : zs.length = ks.length)
    (h : ∀ x dx, H x = none → H dx = none → dx ≠ x → sp (gV (.ref x :: vs) zs) (upd (upd H dx (.own x)) x (.ins C dx [])) (fun v H2 => v = .non ∧ Q (.ref x) H2) E) :
    wpAny (model X.prog X.w) X.A (call (.ref C) us (ks.zip ws)) (EP X pins σ Q) X.xe s := by
  have below : ∀ {a : Addr}, s.heap.objs.size ≤ a → H a = none := I.hok.fresh
  have J := Inv.made (C := C) I
  have self : Vals (V.ref (s.heap.objs.size + 1) :: vs) (Value.ref (s.heap.objs.size + 1) :: us) := .cons rfl r
  have bound := hb.to _ (Value.ref (s.heap.objs.size + 1) :: us) ws J.kIn (by rw [← self.length, List.length_cons, l1]) (by rw [← rz.length, l2])
  have ran := F.run _ X.stack _ _ ⟨Value.ref (s.heap.objs.size + 1) :: us, ks.zip ws⟩ _ _ _ E (hr.make C us (ks.zip ws)) (J.env0.make C us (ks.zip ws)) bound (hb.rel self rz) (h _ _ (below (Nat.le_succ _)) (below (Nat.le_refl _)) (Nat.ne_of_lt (Nat.lt_succ_self _)))
  apply wpAny_call
  apply make_map (f := f) I.kIn M.makes M.init (beq_iff_eq.mp M.fn)
  apply codeAny_mono ran
  intro res z q
  have back := come_back out J q
  match res, back with
  | .error _, raised => exact raised
  | .ok (.ret _), ⟨_, G, JG, ru, rfl, done⟩ => exact ⟨ru, V.ref (s.heap.objs.size + 1), G, JG, rfl, done⟩
theorem pe_mkKX (tkk : Takes X W) (G : MkK X.prog X.w X.K X.mg X.base x C ps n ks π mz k sp) (hr : Room (k + 1) X.A) (hg : Gl X x) (ha : PA X (e :: es) t) (hkw : PK X kws tk)
    (hall : (backToKw pos (keywordEach kws X.env)).all (·.1.isSome) = true := by rfl) (hks : (backToKw pos (keywordEach kws X.env)).filterMap (·.1) = ks := by rfl) (hdb : (x == ("__debug__" : Str)) = false := by decide)
    (he : starEach (e :: es) X.env = (false, eval e X.env) :: starEach es X.env := by rfl) (hpl : ((backTo pos (starEach (e :: es) X.env)).any (·.1) || (backToKw pos (keywordEach kws X.env)).any (·.1.isNone)) = false := by rfl) :
    PE X (.Call (.Name x p) (e :: es) kws pos) (tMakeKS C n ks.length sp (fun vs zs => gK π vs mz zs) (WE W) t tk) := by
  obtain ⟨f, fd, g, M, F, hm, hb⟩ := G.ex
  exact ⟨fun pins s σ H Q I h => wpAny_Call_Name_kw (ld_glob I hg hm (kw_call (own := []) I M.kp ha hkw hall hks he hpl h fun _ _ _ _ _ _ J r rz ⟨l1, l2, q⟩ => run_makeKS (E := WE W σ) M F hr hb (passAt tkk σ) J r rz l1 l2 q) hdb)⟩
end
section
variable {K : PySem.W.Frag} {τ : T} {μ μ1 μ2 : M} {Φ : D → M → Prop} {te : TE} {N : AEnds} {P : PT4} {n m : Nat} {π : List (Bool × Nat)} {mz : List V} {t tk : TA} {cn : Str → Option Value}
theorem x_mkK {C : Addr} (mD : List D) (hmz : ∀ H, Rels K H mz mD)
    (h : AA K t τ μ fun ds μ1 => AA K tk τ μ1 fun es μ2 => ds.length = n ∧ es.length = m ∧ ∀ x dx, μ2 x = none → P (gK π (.ref x :: ds) mD es) (μ2.set x (.ins C dx [])) (fun v μ3 => v = .non ∧ Φ (.ref x) μ3) fun x dx μ' => N.xs x dx τ μ') :
    AEX K (tMakeKS C n m (spX K N.cn P) (fun vs zs => gK π vs mz zs) (WE N.W) t tk) τ μ N Φ := fun σ H s c Q k kx =>
  h σ H s c _ fun ds μ1 vs H1 f1 c1 r1 p1 => p1 σ H1 (s.mono (f1.tx c)) c1 _ fun es μ2 zs H2 f2 c2 r2 ⟨l1, l2, p2⟩ => by
    refine ⟨by rw [r1.length]; exact l1, by rw [r2.length]; exact l2, fun x dx hx hdx ne => ?_⟩
    have c3 : Z.Con K (upd H2 dx (.own x)) μ2 := con_new hdx c2
    have hx3 : upd H2 dx (.own x) x = none := by rw [upd_ne (Ne.symm ne)]; exact hx
    have c4 : Z.Con K (upd (upd H2 dx (.own x)) x (.ins C dx [])) (μ2.set x (.ins C dx [])) := con_put (m := .ins C dx []) hx3 c3 ⟨[], upd_same, .nil⟩
    have f4 : Fr μ2 (μ2.set x (.ins C dx [])) H2 (upd (upd H2 dx (.own x)) x (.ins C dx [])) := (fr_new hdx).trans (fr_put hx3)
    have r1' := (Rels.mono ((f2.trans f4).tx c1) _ _ r1)
    have r2' := (Rels.mono (f4.tx c2) _ _ r2)
    refine ⟨gK π (.ref x :: ds) mD es, _, _, _, rels_gK π (.cons (.ref x) r1') (hmz _) r2', c4, p2 x dx (c2.free hx), fun d μ' v H' f c' r ⟨ed, q⟩ => ?_, fun y dy μ' cls H' e f c' q => kx y dy μ' cls H' e (((f1.trans f2).trans f4).trans f) c' q⟩
    subst ed
    cases r
    exact ⟨rfl, k _ μ' _ H' (((f1.trans f2).trans f4).trans f) c' (.ref x) q⟩
end
end Z
namespace L2M
open PySem PySem.Spec PyProof.Rows L2
end L2M
namespace Z
open PySem L2 L2M
structure HZ where
  c : Value
  oi : Option Nat
  tu : Addr → Value → Option Addr → TS
  hit : Str → Bool
def HZ.t (h : HZ) : Value × Option Nat × (Addr → Value → Option Addr → TS) := (h.c, h.oi, h.tu)
end Z
namespace PySem.W
open PySem PySem.Spec PySem.Calls PyProof.Rows
end PySem.W
namespace Z
open PySem PySem.Spec PyProof.Rows L2
section
variable {K : PySem.W.Frag} {μ : M} {Φ : D → M → Prop} {a : Addr} {cls : Value} {d : Option Addr}
def Xdk (μ : M) (d : Option Addr) : Prop := d = none ∨ ∃ dd fs, d = some dd ∧ μ dd = some (.xd fs)
end
end Z
namespace Z
open PySem PySem.Spec PyProof.Rows L2
end Z
namespace Z
open PySem L2 L2M
end Z
namespace Z
open PySem L2
theorem a_cref {K : PySem.W.Frag} {τ : T} {μ : M} {Φ : D → M → Prop} {a : Addr} (h : Φ (.ref a) μ) : AE K (tC (.ref a)) τ μ Φ := fun σ H s c Q k => k (.ref a) μ _ H Fr.refl c (.ref a) h
theorem ro_neS {K : PySem.W.Frag} {μ : M} {Φ : D → M → Prop} {i j : Str} (q : Φ (.bl (!decide (i = j))) μ) : RO K rNe (.str i) (.str j) μ Φ := fun H x y c r1 r2 Q k => by
  cases r1; cases r2
  refine ⟨rfl, ?_⟩
  have e : decide (V.str i = V.str j) = decide (i = j) := by simp
  rw [e]
  exact k _ μ _ H Fr.refl c (.bl _) q
end Z
namespace RVT
open PySem PySem.Spec PyProof.Rows L2 HT
section
variable {prog : Program} {w : World} {A : Around} {E : Value → Shared → Prop} {s : Shared}
theorem adjust_rev (n : Nat) : Builtin.Slice.sliceAdjust none none (-1) (n : Int) = ((n : Int) - 1, -1) := by
  unfold Builtin.Slice.sliceAdjust
  simp
theorem places_rev (n : Nat) : Builtin.Slice.slicePlaces ((n : Int) - 1) (-1) (-1) = n := by
  unfold Builtin.Slice.slicePlaces
  simp
  try omega
theorem sliceApplied_rev {sl : Addr} {vl vu vs : Value} {n : Nat} {Q : Int × Int × Nat → Shared → Prop} (hs : s.heap.IsSliceOf sl vl vu vs) (pl : IsPart vl none) (pu : IsPart vu none) (ps : IsPart vs (some (-1)))
    (h : Q ((n : Int) - 1, -1, n) s) : wpAny (model prog w) A (Builtin.Slice.sliceApplied (.ref sl) (pure (n : Int))) Q E s := by
  obtain ⟨os, hos, hcs, hds⟩ := id hs
  unfold Builtin.Slice.sliceApplied Builtin.Slice.sliceFields
  refine wpAny_bind (wpAny_bind (wpAny_field hos hds (x := vl) rfl (wpAny_bind (wpAny_field hos hds (x := vu) rfl (wpAny_bind (wpAny_field hos hds (x := vs) rfl (wpAny_pure ?_)))))))
  refine wpAny_bind (slicePart_ ps ?_)
  show wpAny _ _ (if ((-1 : Int) == 0) = true then _ else _) _ _ s
  rw [if_neg (by decide)]
  refine wpAny_bind (slicePart_ pl (wpAny_bind (slicePart_ pu (wpAny_bind (wpAny_pure ?_)))))
  show wpAny _ _ (match Builtin.Slice.sliceAdjust none none (-1) (n : Int) with | (lo, hi) => pure (lo, (-1 : Int), Builtin.Slice.slicePlaces lo hi (-1))) _ _ s
  rw [adjust_rev n]
  show wpAny _ _ (pure ((n : Int) - 1, (-1 : Int), Builtin.Slice.slicePlaces ((n : Int) - 1) (-1) (-1))) _ _ s
  rw [places_rev]
  exact wpAny_pure h
theorem filterMap_on {α β : Type} {f g : α → Option β} : ∀ {l : List α}, (∀ x ∈ l, f x = g x) → l.filterMap f = l.filterMap g
  | [], _ => rfl
  | a :: l, h => by rw [List.filterMap_cons, List.filterMap_cons, h a List.mem_cons_self, filterMap_on fun x hx => h x (List.mem_cons_of_mem _ hx)]
theorem pick_rev (xs : Array Value) : ((List.range xs.size).filterMap fun (m : Nat) => xs[((xs.size : Int) - 1 + (m : Int) * -1).toNat]?).toArray = xs.toList.reverse.toArray := by
  have key : ∀ l : List Value, (List.range l.length).filterMap (fun (m : Nat) => l[((l.length : Int) - 1 + (m : Int) * -1).toNat]?) = l.reverse := by
    intro l
    have e1 : (List.range l.length).filterMap (fun (m : Nat) => l[((l.length : Int) - 1 + (m : Int) * -1).toNat]?) = (List.range l.length).filterMap (fun (m : Nat) => l.reverse[m]?) := by
      refine filterMap_on fun m hm => ?_
      have hm := List.mem_range.mp hm
      rw [List.getElem?_reverse hm]
      congr 1
      omega
    rw [e1]
    have e2 : ∀ l : List Value, (List.range l.length).filterMap (fun (m : Nat) => l[m]?) = l := by
      intro l
      induction l with
      | nil => rfl
      | cons a l ih =>
        rw [List.length_cons, List.range_succ_eq_map, List.filterMap_cons, List.filterMap_map]
        simp only [List.getElem?_cons_zero]
        congr 1
    have := e2 l.reverse
    rw [List.length_reverse] at this
    exact this
  have := key xs.toList
  rw [Array.length_toList] at this
  simp only [Array.getElem?_toList] at this
  rw [this]
/-- the slot's own text, at a slice that runs backwards -/
theorem body_rev {t sl : Addr} {xs : Array Value} {vl vu vs : Value} {Q : Value → Shared → Prop} (ht : IsTup s.heap t xs) (hs : s.heap.IsSliceOf sl vl vu vs) (pl : IsPart vl none) (pu : IsPart vu none) (ps : IsPart vs (some (-1))) (few : xs.size ≤ sizeLine)
    (q : Q (.ref s.heap.objs.size) { s with heap := s.heap.push { cls := .type "tuple", data := .seq xs.toList.reverse.toArray } }) :
    wpAny (model prog w) A (Builtin.«tuple.__getitem__» ⟨[.ref t, .ref sl], []⟩) (fun fin z => ∃ v, fin = .done (.ret v) ∧ Q v z) E s := by
  have isSlice : s.TypeIs (.ref sl) "slice" := by
    obtain ⟨o, at_, cls, _⟩ := hs
    exact ⟨o, at_, cls⟩
  show wpAny _ _ (Builtin.Tuple.tupleItemsOf (.ref t) >>= _) _ _ _
  apply wpAny_bind
  apply tupleItemsOf_ ht
  apply wpAny_bind
  apply wpAny_typeOf isSlice
  simp only [beq_self_eq_true, if_true]
  apply wpAny_bind
  apply sliceApplied_rev hs pl pu ps
  simp only [show ((-1 : Int) == 1) = false from rfl, Bool.and_false, Bool.false_and, Bool.false_eq_true, if_false, pick_rev]
  apply wpAny_bind
  have fits : sizeOk (.seq xs.toList.reverse.toArray) := by
    show xs.toList.reverse.toArray.size ≤ sizeLine
    simpa using few
  refine wpAny_newObj_type ?_ fits
  exact wpAny_pure ⟨_, rfl, q⟩
theorem item_rev {t sl : Addr} {xs : Array Value} {vl vu vs : Value} {Q : Value → Shared → Prop} (ht : IsTup s.heap t xs) (hs : s.heap.IsSliceOf sl vl vu vs) (pl : IsPart vl none) (pu : IsPart vu none) (ps : IsPart vs (some (-1))) (few : xs.size ≤ sizeLine)
    (q : Q (.ref s.heap.objs.size) { s with heap := s.heap.push { cls := .type "tuple", data := .seq xs.toList.reverse.toArray } }) : wpAny (model prog w) A (getItem (.ref t) (.ref sl)) Q E s := by
  have slot := PyProof.Rows.slot_tuple_getitem
  unfold getItem
  apply wpAny_holding
  apply wpAny_bind
  apply wpAny_sequenceKey ht.typeIs (by decide)
  apply wpAny_bind
  apply wpAny_callSpecial?_slot (name := Str.ofString "__getitem__") ht.typeIs slot
  apply wpAny_call_entry slot ht.typeIs entry_tuple_getitem _ (args_tuple_getitem _ _)
  exact body_rev ht hs pl pu ps few (wpAny_pure q)
end
def tRevT (K : PySem.W.Frag) (te : TE) : TE := fun σ H Q => te σ H fun x H1 => ∃ a xs, x = .ref a ∧ SqT K H1 a xs ∧ ∀ p, H1 p = none → Q (.ref p) (upd H1 p (.tup xs.reverse))
/-- the three parts of [::-1]; the slice made of them -/
theorem slice_rev {X : Cx} {pins : List (Addr × Obj)} {σ : L2.St} {H : Hp} {s : Shared} {Q : Value → Shared → Prop} {k : Nat} {p1 p2 p3 : Pos} (I : L2.Inv X pins σ H s)
    (q : ∀ vl vu vs sl z, L2.Inv X pins σ H z → z.heap.IsSliceOf sl vl vu vs → IsPart vl none → IsPart vu none → IsPart vs (some (-1)) → Q (.ref sl) z) :
    wpAny (model X.prog X.w) X.A (eval (.Slice none none (some (.UnaryOp .USub (.Constant (.int 1) k p1) p2)) p3) X.env) Q X.xe s := by
  have none_ : ∀ {s R}, L2.Inv X pins σ H s → (∀ v z, L2.Inv X pins σ H z → IsPart v none → R v z) → wpAny (model X.prog X.w) X.A (evalPart none X.env) R X.xe s := fun I r =>
    thn (po_none.run pins _ σ H (fun o G => o = none ∧ G = H) I ⟨rfl, rfl⟩) fun v z ⟨_, _, J, part, eo, eH⟩ => by
      subst eo eH
      exact r v z J part
  have less : PO X (some (.UnaryOp .USub (.Constant (.int 1) k p1) p2)) (tPart (tUn (rU fun i => .int (-i)) (tC (.int 1)))) := po_some (pe_un un_neg pe_int)
  apply wpAny_Slice
  apply none_ I
  intro vl s1 I1 pl
  apply none_ I1
  intro vu s2 I2 pu
  apply thn (less.run pins s2 σ H (fun o G => o = some (-1) ∧ G = H) I2 ⟨1, rfl, -1, rfl, rfl, rfl⟩)
  rintro vs s3 ⟨_, _, I3, ps, rfl, rfl⟩
  exact q vl vu vs _ _ (I3.kept (t' := s3.toks) fun b o e => Heap.get?_push_of_some { cls := .type "slice", data := .fields #[vl, vu, vs] } e) (Heap.IsSliceOf.new _ vl vu vs) pl pu ps
theorem pe_revT {X : Cx} {K : PySem.W.Frag} (hK : X.K = K) {e : Expr} {te : TE} {k : Nat} {p1 p2 p3 pos : Pos} (he : PE X e te) : PE X (.Subscript e (.Slice none none (some (.UnaryOp .USub (.Constant (.int 1) k p1) p2)) p3) pos) (tRevT K te) := by
  subst hK
  constructor
  intro pins s σ H Q I h
  apply Subscript_
  apply thn (he.run pins s σ H _ I h)
  rintro v s1 ⟨_, H1, I1, r1, a, xs, rfl, isT, q⟩
  obtain rfl : v = .ref a := r1
  apply slice_rev I1
  intro vl vu vs sl z I2 isS pl pu ps
  obtain ⟨ys, rel, at_, few⟩ := I2.tuple isT
  refine tail_any (ops := [.ref a, .ref sl]) at_.typeIs PyProof.Rows.slot_tuple_getitem.lookup ?_ (by with_unfolding_all rfl)
  apply item_rev at_ isS pl pu ps (by rw [List.size_toArray, ← rel.length]; exact few)
  have J := I2.laid (t' := z.toks) (o := .tup xs.reverse) (fun b o e => Heap.get?_push_of_some { cls := .type "tuple", data := .seq ys.toArray.toList.reverse.toArray } e) (Nat.le_refl z.heap.objs.size)
    ⟨by rw [List.length_reverse]; exact few, ys.reverse, rel.reverse, _, Heap.get?_push_size _ rfl, rfl, 0, rfl⟩
  exact ⟨.ref z.heap.objs.size, _, J, rfl, q _ (I2.hok.fresh (Nat.le_refl _))⟩
end RVT
namespace Z
open PySem L2
theorem a_revT {K : PySem.W.Frag} {τ : T} {μ : M} {te : TE} {Φ : D → M → Prop} (h : AE K te τ μ fun d μ1 => ∃ ds, d = .tup ds ∧ Φ (.tup ds.reverse) μ1) : AE K (RVT.tRevT K te) τ μ Φ := fun σ H s c Q k =>
  h σ H s c _ fun d μ1 v H1 f1 c1 r1 ⟨ds, e, q⟩ => by
    subst e
    cases r1 with
    | @tup a xs _ ht hr => exact ⟨a, xs, rfl, ht.sq, fun p hp => k _ _ _ _ (f1.trans (fr_new hp)) (con_new hp c1) (.tup (.inl upd_same) (Rels.mono (tx_new hp) _ _ hr.reverse)) q⟩
end Z
namespace SDT
open PySem PySem.Spec PyProof.Rows L2 PySem.W
end SDT
namespace Z
open PySem L2 SDT PySem.W
end Z
namespace STI
open PySem PySem.Spec PyProof.Rows L2 PySem.W SDT
theorem vals_ints : ∀ {vs : List Value} {k : List Int}, EachIs (fun u (i : Int) => RelV (.int i) u) vs k → Vals (k.map V.int) vs
  | [], [], .nil => .nil
  | _ :: _, _ :: _, .cons a b => .cons a (vals_ints b)
end STI
namespace Z
open PySem L2 STI PySem.W
end Z
namespace Z
open PySem L2 PySem.W
end Z
namespace Z
open PySem L2 SD PySem.W
end Z
namespace Z
open PySem L2 PySem.W
end Z
namespace RZ3
open PySem PySem.Spec PyProof.Rows L2 RZ
end RZ3
namespace Z
open PySem L2 PySem.W RZ3
end Z
namespace Z
open PySem L2 PySem.W
def isN : D → Bool
  | .non => true
  | _ => false
theorem isN_rel {K : PySem.W.Frag} {H : Hp} {x : V} {d : D} (r : Rel K H x d) : decide (x = V.non) = isN d := by
  cases r <;> simp [isN]
theorem ro_isN {K : PySem.W.Frag} {μ : M} {Φ : D → M → Prop} {d : D} (q : Φ (.bl (isN d)) μ) : RO K (fun x y H Q => y = V.non ∧ Q (V.bl (decide (x = V.non))) H) d .non μ Φ := fun H x y c r1 r2 Q k => by
  cases r2
  rw [isN_rel r1]
  exact ⟨rfl, k _ μ _ H Fr.refl c (.bl _) q⟩
theorem ro_notN {K : PySem.W.Frag} {μ : M} {Φ : D → M → Prop} {d : D} (q : Φ (.bl (!isN d)) μ) : RO K (fun x y H Q => y = V.non ∧ Q (V.bl (!decide (x = V.non))) H) d .non μ Φ := fun H x y c r1 r2 Q k => by
  cases r2
  rw [isN_rel r1]
  exact ⟨rfl, k _ μ _ H Fr.refl c (.bl _) q⟩
end Z
namespace EN
open PySem PySem.Spec PyProof.Rows L2
end EN
namespace Z
open PySem L2 EK EN
end Z
namespace Z
open PySem L2 OD PySem.W
end Z
namespace Z
open PySem L2 PySem.W
end Z
namespace ITT
open PySem PySem.Spec PyProof.Rows L2 PySem.W
end ITT
namespace Z
open PySem L2 ITT PySem.W
end Z
namespace OD2
open PySem PySem.Spec PyProof.Rows L2 PySem.W
end OD2
namespace Z
open PySem L2 OD2 PySem.W
end Z
namespace L2T
open PySem PySem.Spec PyProof.Rows L2 L2M
end L2T
namespace Z
open PySem L2 L2M L2T
structure HT where
  cs : List Value
  oi : Option Nat
  tu : Addr → Value → Option Addr → TS
  hit : Str → Bool
def HT.t (h : HT) : List Value × Option Nat × (Addr → Value → Option Addr → TS) := (h.cs, h.oi, h.tu)
end Z
namespace XO
open PySem PySem.Spec PySem.W PySem.Calls PyProof.Rows PySem.HandSPX L2
end XO
namespace Z
open PySem L2 PyProof.Rows
end Z
namespace SIT
open PySem PySem.Spec PyProof.Rows L2 PySem.W SD SDT
/-- values as they were collected, and the data that they tell -/
structure Row (X : Cx) (H : Hp) (us : List Value) (bs : List (V × PyData)) : Prop where
  vals : Vals (bs.map (·.1)) us
  tell : ∀ b ∈ bs, Dp X.K H b.1 b.2 ∧ b.2.depth ≤ 8
  alike : AllAlike (bs.map (·.2))
  can : Sortable (bs.map (·.2))
  few : bs.length ≤ sizeLine
end SIT
namespace Z
open PySem L2 SIT PySem.W
end Z
namespace CNT
open PySem PySem.Spec PyProof.Rows L2 PySem.W PySem.SeqAt
mutual
theorem py_plain : ∀ d : Z.D, Z.D.plain d = true → (Z.D.py d).plain = true
  | .non, _ => by simp only [Z.D.py, PyData.plain]
  | .bl _, _ => by simp only [Z.D.py, PyData.plain]
  | .int _, _ => by simp only [Z.D.py, PyData.plain]
  | .str _, _ => by simp only [Z.D.py, PyData.plain]
  | .tup ds, h => by simp only [Z.D.py, PyData.plain]; exact pys_plain ds (by simpa only [Z.D.plain] using h)
  | .ty _, h => by simp [Z.D.plain] at h
  | .rol _, h => by simp [Z.D.plain] at h
  | .ref _, h => by simp [Z.D.plain] at h
theorem pys_plain : ∀ ds : List Z.D, Z.D.plains ds = true → PyData.plainAll (Z.D.pys ds) = true
  | [], _ => by simp only [Z.D.pys, PyData.plainAll]
  | d :: ds, h => by
    simp only [Z.D.plains, Bool.and_eq_true] at h
    simp only [Z.D.pys, PyData.plainAll, Bool.and_eq_true]
    exact ⟨py_plain d h.1, pys_plain ds h.2⟩
end
def rCntL (K : PySem.W.Frag) : V → List V → Hp → VK → Prop := fun x xs H Q => ∃ (a : Addr) (ys : List V) (y : V) (d : PyData) (ds : List PyData), x = .ref a ∧ xs = [y] ∧ SqL K H a ys ∧ DpAll K H ys ds ∧ Dp K H y d ∧ PyData.plainAll ds = true ∧ d.plain = true ∧ d.depth ≤ 8 ∧
  Q (.int ((ds.countP fun z => PyData.eqv z d : Nat) : Int)) H
theorem mt_cntL {X : Cx} (hu : X.A.units + 64 < cLine) : MtR X "list.count" (rCntL X.K) := by
  intro pins s σ H x xs v us Q I rx rxs h
  obtain ⟨a, ys, y, d, ds, rfl, rfl, hq, hds, hd, p1, p2, dep, q⟩ := h
  cases rx
  obtain ⟨u1, rfl, r1⟩ := vals1 rxs
  obtain ⟨its, rv, pl, hz⟩ := I.list hq
  obtain ⟨as, ra⟩ := Dp.readsAll I ds ys its hds rv
  obtain ⟨bs, rb⟩ := Dp.reads I d y u1 hd r1
  refine count_list_data pl.isList (by rw [List.toList_toArray]; exact ra) rb p1 p2 (by omega) ⟨.int _, H, I.tok _, ⟨_, rfl⟩, q⟩
end CNT
namespace Z
open PySem L2 CNT PySem.W
theorem pys_map : ∀ ds : List D, D.pys ds = ds.map D.py
  | [] => rfl
  | d :: ds => by simp only [D.pys, List.map_cons, pys_map ds]
section
variable {K : PySem.W.Frag} {τ : T} {μ μ1 μ2 : M} {H H1 H2 H' : Hp} {td to te : TE} {ts : TS} {N : AEnds} {Φ : D → M → Prop} {P : Program} {w : World}
theorem cnt_py {ds : List D} {d : D} : (D.pys ds).countP (fun z => PyData.eqv z (D.py d)) = ds.countP fun z => D.eqv z d := by
  rw [pys_map, List.countP_map]
  rfl
/-- xs.count(e) -/
theorem m_cntL {a : Addr} {ds : List D} {d : D} (h : AE K to τ μ fun o μ1 => o = .ref a ∧ (∃ es, μ1 a = some (.lst es)) ∧ AE K te τ μ1 fun y μ2 => y = d ∧ μ2 a = some (.lst ds) ∧ D.plains ds = true ∧ OkN 8 d ∧ Φ (.int ((ds.countP fun z => D.eqv z d : Nat) : Int)) μ2) :
    AE K (tBM K "list" (rCntL K) to (tCons te tNil)) τ μ Φ := fun σ H s c Q k =>
  h σ H s c _ fun o μ1 v H1 f1 c1 r1 ⟨e, ⟨es, he⟩, p1⟩ => by
    subst e
    cases r1
    obtain ⟨xs, hx, hr⟩ := c1 a _ he
    refine ⟨.inl ⟨rfl, xs, SqL.of hx⟩, p1 σ H1 (s.mono (f1.tx c)) c1 _ fun y μ2 u H2 f2 c2 r2 ⟨e0, h2, hp, hd, q⟩ => ?_⟩
    subst e0
    obtain ⟨ys, hy, hr2⟩ := c2 a _ h2
    refine ⟨a, ys, u, _, _, rfl, rfl, SqL.of hy, Rels.dp ds ys hr2 hp, Rel.dp _ _ r2 hd.p, pys_plain ds hp, py_plain _ hd.p, hd.d, ?_⟩
    rw [cnt_py]
    exact k _ _ _ _ (f1.trans f2) c2 (.int _) q
end
end Z
namespace Z
open PySem L2 CNT SIT PySem.W PySem.Spec PyProof.Rows
section
variable {X : Cx} {K : PySem.W.Frag} {e o a : Expr} {te to ta : TE} {p p2 q apos cpos pos : Pos}
theorem mt_cntLK (h : X.K = K) (hu : X.A.units + 64 < cLine) : MtR X "list.count" (rCntL K) := by subst h; exact mt_cntL hu
end
end Z
namespace Z
open PySem L2 PySem.W
section
variable {K : PySem.W.Frag} {τ : T} {μ : M} {Φ : D → M → Prop} {te to : TE} {H1 : Hp}
/-- a text of one sign -/
abbrev sg (c : Nat) : D := .str ⟨#[c]⟩
theorem rs_str {a : Str} {lo hi : Option Int} (hz : a.length ≤ sizeLine) (q : Φ (.str (cutS a lo hi)) μ) : RS K rSlS (.str a) lo hi μ Φ := fun H x c r Q k => by
  cases r
  exact ⟨a, rfl, hz, k _ μ _ H Fr.refl c (.str _) q⟩
theorem ro_addS {a b : Str} (hz : a.length + b.length ≤ sizeLine) (q : Φ (.str (a ++ b)) μ) : RO K (fun x y H Q => ∃ i j, x = .str i ∧ y = .str j ∧ i.length + j.length ≤ sizeLine ∧ Q (.str (i ++ j)) H) (.str a) (.str b) μ Φ := fun H x y c r1 r2 Q k => by
  cases r1; cases r2
  exact ⟨a, b, rfl, rfl, hz, k _ μ _ H Fr.refl c (.str _) q⟩
/-- one sign in a text -/
theorem ro_inSg {n : Nat} {b : Str} (q : Φ (.bl (decide (n ∈ b.cps.toList))) μ) : RO K (fun x y H Q => ∃ (c : Nat) (z : Str), x = .str ⟨#[c]⟩ ∧ y = .str z ∧ Q (.bl (decide (c ∈ z.cps.toList))) H) (sg n) (.str b) μ Φ := fun H x y c r1 r2 Q k => by
  cases r1; cases r2
  exact ⟨n, b, rfl, rfl, k _ μ _ H Fr.refl c (.bl _) q⟩
/-- the parts, one behind the other -/
def AJ (K : PySem.W.Frag) (ts : List TE) (acc : Str) (τ : T) (μ : M) (Ψ : Str → M → Prop) : Prop :=
  ∀ σ H, Slots K H τ σ → Z.Con K H μ → ∀ Q : Str → Hp → Prop, (∀ out μ1 H1, Fr μ μ1 H H1 → Z.Con K H1 μ1 → Ψ out μ1 → Q out H1) → tJs ts acc σ H Q
theorem aj_nil {acc : Str} {Ψ : Str → M → Prop} (q : Ψ acc μ) : AJ K [] acc τ μ Ψ := fun _ H _ c Q k => k acc μ H Fr.refl c q
theorem a_js {ts : List TE} (h : AJ K ts Str.empty τ μ fun out μ1 => Φ (.str out) μ1) : AE K (fun σ H Q => tJs ts Str.empty σ H fun out H1 => Q (.str out) H1) τ μ Φ := fun σ H s c Q k =>
  h σ H s c _ fun out μ1 H1 f1 c1 q => k _ _ _ _ f1 c1 (.str out) q
end
end Z
namespace Z
open PySem PySem.Spec PyProof.Rows L2
end Z
namespace Z
open PySem PySem.Spec PySem.Calls PyProof.Rows L2
/-- a text turned -/
def revS (x : Str) : Str := ⟨x.cps.toList.reverse.toArray⟩
def tRevS (te : TE) : TE := fun σ H Q => te σ H fun v H1 => ∃ x, v = .str x ∧ x.length ≤ sizeLine ∧ Q (.str (revS x)) H1
section
variable {K : PySem.W.Frag} {τ : T} {μ : M} {Φ : D → M → Prop} {te : TE}
theorem a_revS {x : Str} (hz : x.length ≤ sizeLine) (h : AE K te τ μ fun d μ1 => d = .str x ∧ Φ (.str (revS x)) μ1) : AE K (tRevS te) τ μ Φ := fun σ H s c Q k =>
  h σ H s c _ fun d μ1 v H1 f1 c1 r1 ⟨e, q⟩ => by
    subst e
    cases r1
    exact ⟨x, rfl, hz, k _ _ _ _ f1 c1 (.str _) q⟩
end
end Z
namespace Z
open PySem PySem.Spec PySem.Calls PyProof.Rows L2
end Z
namespace Z
open PySem PySem.Spec PyProof.Rows L2
section
variable {K : PySem.W.Frag} {τ : T} {μ : M} {Φ : D → M → Prop} {te to : TE}
/-- how long the texts of these laws grow -/
abbrev lng : Nat := 10000
theorem lng_line {n : Nat} (h : n ≤ lng) : n ≤ sizeLine := Nat.le_trans h (by decide)
end
end Z
namespace Z
open PySem PySem.Spec PyProof.Rows L2
end Z
namespace OWN
open PySem PySem.Spec PyProof.Rows L2
section
variable {X : Cx} {A : Around} {C f : Addr} {fd : FuncData} {ps : List Str} {k : Nat} {sp : Sp} {pins : List (Addr × Obj)} {σ : L2.St} {H : Hp} {s : Shared} {Q : VK}
/-- a def of the text that a builtin calls, somewhere below the running body: it lets nothing out -/
theorem below {us : List Value} {vs : List V} (F : FnOk X.prog X.w X.K X.mg X.base (L2.CX X.prog X.w) k f fd ps sp) (hb : Binds X.K fd ps []) (room : Room k A) (e0 : Env0 X.prog X.w X.K X.mg X.base A X.stack s H)
    (I : Inv X pins σ H s) (r : Vals vs us) (want : sp vs H Q E0) : wpAny (model X.prog X.w) A (call (.ref f) us) (EP X pins σ Q) X.xe s := by
  have many : (us ++ []).length = ps.length := by rw [List.append_nil, ← r.length]; exact F.len _ _ _ _ want
  have bound := hb s us I.kIn many
  rw [List.append_nil] at bound
  refine wpAny_call (codeAny_mono (F.run A X.stack s H ⟨us, []⟩ us vs Q E0 room e0 bound r want) fun out s' back => ?_)
  match out, back with
  | .ok (.ret _), back => exact I.after back
  | .error e, back => exact passL pins σ H s e s' I back
end
end OWN
namespace Z
open PySem L2 OWN
section
variable {K : PySem.W.Frag} {τ : T} {μ : M} {Φ : D → M → Prop} {P : PT3} {C a b dx dy : Addr} {fs gs : List (Str × D)}
structure IsiC (K : PySem.W.Frag) (C : Addr) : Prop where
  ca : PySem.W.findIn K (.ref C) "__class__" = some (some (.builtin "object.__class__"))
  cn : PySem.W.specialIn K (.builtin "object.__class__") "__get__" = some (some (.builtin "getset_descriptor.__get__"))
  ct : PySem.W.takesIn K (.builtin "object.__class__") = some true
  cm : PySem.W.mroIn K C (.type "object") = some true
end
end Z
namespace OWN
open PySem PySem.Spec PyProof.Rows L2
end OWN
namespace OWN
open PySem PySem.Spec PyProof.Rows L2
end OWN
namespace Z
open PySem L2 OWN
end Z
namespace OWN
open PySem PySem.Spec PyProof.Rows L2
end OWN
namespace Z
open PySem L2
structure OwnC (K : PySem.W.Frag) (C : Addr) : Prop where
  isi : IsiC K C
  ne : PySem.W.findIn K (.ref C) "__ne__" = some (some (.builtin "object.__ne__"))
  ic : PySem.W.isClsIn K C = true
  ty : PySem.W.typeIn K (.ref C) = some (.type "type")
  upN : PySem.W.subIn K (.ref C) (.type "NoneType") = some false
  upI : PySem.W.subIn K (.ref C) (.type "int") = some false
  upT : PySem.W.subIn K (.ref C) (.type "tuple") = some false
  upS : PySem.W.subIn K (.ref C) (.type "str") = some false
section
variable {K : PySem.W.Frag} {C : Addr}
theorem OwnC.self (o : OwnC K C) : PySem.W.kitOne K (.ref C) (.ref C) = some true := by
  unfold PySem.W.kitOne
  rw [if_pos (by simp)]
end
end Z
namespace Z
open PySem L2
end Z
namespace CNT
open PySem PySem.Spec PyProof.Rows L2 PySem.W
end CNT
namespace Z
open PySem L2 CNT
end Z
namespace ZH
open PySem PySem.Spec PyProof.Rows L2 L2H HotX RZ
section
variable {prog : Program} {w : World} {A : Around} {E : Value → Shared → Prop} {s : Shared}
/-- e is a StopIteration of this heap -/
def Stop (h : Heap) (e : Addr) : Prop := ∃ o, h.get? e = some o ∧ o.cls = .type "StopIteration"
/-- a new StopIteration is raised: it bears the handled error, nothing else is touched -/
theorem stop_hot {α : Type} {x1 : Addr} {Q : α → Shared → Prop} (hot : HotAt A x1 s.heap) (q : ∀ h' e, (∀ b o, s.heap.get? b = some o → h'.get? b = some o) → Stop h' e → E (.ref e) { s with heap := h' }) : wpAny (model prog w) A (Builtin.SmallTypes.stopIteration : Sem α) Q E s := by
  obtain ⟨hh, o1, vs1, g1, r1⟩ := hot
  have made : wpAny (model prog w) A (newExc (.type "StopIteration") []) (fun v z => ∃ (e : Addr) (o : Obj) (vs : Array Value), v = .ref e ∧ z = { s with heap := z.heap } ∧ s.heap.objs.size ≤ e ∧ z.heap.get? e = some o ∧ o.cls = .type "StopIteration" ∧ o.data = .fields vs ∧ 2 < vs.size ∧ ∀ b o, s.heap.get? b = some o → z.heap.get? b = some o) E s := by
    simp only [newExc, newTuple]
    refine wpAny_bind (wpAny_newObj_type (wpAny_bind (wpAny_of_eq (a := Value.none) (by first | rfl | (simp only [firstArgMember]; rfl)) (wpAny_newObj_type ?_ (by size_fits)))) (by size_fits))
    exact ⟨_, _, _, rfl, rfl, by rw [Heap.size_push]; exact Nat.le_succ _, Heap.get?_push_size _ rfl, rfl, rfl, by rw [Array.size_append]; exact Nat.lt_of_lt_of_le (by decide : 2 < 6) (Nat.le_add_right 6 _), fun b o g => Heap.get?_push_of_some _ (Heap.get?_push_of_some _ g)⟩
  unfold Builtin.SmallTypes.stopIteration
  refine wpAny_bind (thn made ?_)
  rintro _ z ⟨e, o, vs, rfl, ez, young, ge, ce, de, big, old⟩
  have apart : ∀ {b o}, s.heap.get? b = some o → b ≠ e := fun g => Nat.ne_of_lt (Nat.lt_of_lt_of_le (Heap.lt_size g) young)
  refine raiseNew_hot ⟨hh, o1, vs1, old _ _ g1, r1⟩ (apart g1) ge de big ?_
  rw [ez]
  exact q _ e (fun b o' g => (Heap.get?_update_other _ _ (Ne.symm (apart g))).trans (old _ _ g)) ⟨_, Heap.get?_update_self _ ge (Obj.isFreed_of_fields (Obj.data_mapFields de _)), (Obj.cls_mapFields ..).trans ce⟩
/-- an iterator over a row of values, at place i -/
structure Rising (h : Heap) (it : Addr) (i : Nat) (items : Array Value) : Prop where
  at_ : ∃ (o : Obj) (src : Addr) (os : Obj) (n : Nat), h.get? it = some o ∧ o.data = .fields #[.ref src, .int i 0] ∧ h.get? src = some os ∧ os.data = .seq items n
/-- behind its last value it lets its source go and stops -/
theorem Rising.out {bn : Builtin} {it x1 : Addr} {i : Nat} {items : Array Value} {Q : Fin → Shared → Prop} (r : Rising s.heap it i items) (hb : bn = Builtin.«list_iterator.__next__» ∨ bn = Builtin.«tuple_iterator.__next__») (hot : HotAt A x1 s.heap) (apart : x1 ≠ it) (over : items.size ≤ i)
    (q : ∀ h' e, Heap.ExtBut it s.heap h' → Stop h' e → E (.ref e) { s with heap := h' }) : wpAny (model prog w) A (bn ⟨[.ref it], []⟩) Q E s := by
  obtain ⟨hh, o1, vs1, g1, r1⟩ := hot
  obtain ⟨o, src, os, n, gi, di, gs, ds⟩ := r.at_
  have none_ : items[((i : Int)).toNat]? = none := Array.getElem?_eq_none over
  have away : ∀ {b : Addr}, b ≠ it → ∀ f : Obj → Obj, (s.heap.update it f).get? b = s.heap.get? b := fun ne f => Heap.get?_update_other _ _ (Ne.symm ne)
  have last : wpAny (model prog w) A (do setField (.ref it) 0 .none; (Builtin.SmallTypes.stopIteration : Sem Fin)) Q E s :=
    wpAny_bind (wpAny_setField gi di (by simp) (stop_hot ⟨hh, o1, vs1, (away apart _).trans g1, r1⟩ fun h' e keep st => q h' e (fun b o' nb g => keep _ _ ((away nb _).trans g)) st))
  rcases hb with rfl | rfl
  all_goals
    refine (show wpAny (model prog w) A (field (.ref it) 0 >>= _) Q E s from wpAny_bind (wpAny_field gi di (x := .ref src) rfl ?_))
    rw [if_neg (show ¬((Value.ref src == Value.none) = true) from nofun)]
    refine wpAny_bind (wpAny_field gi di (x := .int i 0) rfl (wpAny_bind (wpAny_seqItems gs ds ?_)))
    dsimp only
    rw [none_]
    exact wpAny_bind (wpAny_rule last)
end
end ZH
namespace ZN
open PySem PySem.Spec PyProof.Rows L2 Z
/-- what is known of the context may be forgotten -/
theorem cx_old {P : Program} {w : World} {outer : List Env} {H : Hp} {s : Shared} {E : XK} {u : Value} {s' : Shared} (h : L2N.CX P w outer H s E u s') : L2.CX P w outer H s E u s' :=
  let ⟨a, B, H', cls, d, e, fl, r⟩ := h
  ⟨a, B, H', cls, d, e, L2H.flyingZ_imp (fun _ z => z.zc) fl, r⟩
theorem fn_old {P : Program} {w : World} {K : PySem.W.Frag} {mg : Str → Option Value} {base : Heap} {k : Nat} {f : Addr} {fd : FuncData} {ps : List Str} {sp : Sp} (F : FnOk P w K mg base (L2N.CX P w) k f fd ps sp) : FnOk P w K mg base (L2.CX P w) k f fd ps sp :=
  ⟨F.len, fun A outer s H args us vs Q E hr e b r h => codeAny_mono (F.run A outer s H args us vs Q E hr e b r h) fun r s' q => by
    match r, q with
    | .error e, q => exact cx_old q
    | .ok (.ret u), q => exact q⟩
/-- a def that may let an exception out -/
structure DefX (P : Program) (w : World) (K : PySem.W.Frag) (mg : Str → Option Value) (base : Heap) (x : Str) (ps : List Str) (k : Nat) (sp : Sp) : Prop where
  ex : ∃ f fd, FnOk P w K mg base (L2N.CX P w) k f fd ps sp ∧ mg x = some (.ref f) ∧ PySem.W.keepIn K (.ref f) = true ∧ Binds K fd ps []
/-- a method of the class at C -/
structure Mth (P : Program) (w : World) (K : PySem.W.Frag) (mg : Str → Option Value) (base : Heap) (C : Addr) (m : Str) (ps : List Str) (k : Nat) (sp : Sp) : Prop where
  ex : ∃ f fd, FnOk P w K mg base (L2N.CX P w) k f fd ps sp ∧ Cls K C ∧ Meth K C m f ∧ Binds K fd ps []
structure MthN (P : Program) (w : World) (K : PySem.W.Frag) (mg : Str → Option Value) (base : Heap) (C : Addr) (m : Str) (ps : List Str) (n : Nat) (ks : List Str) (π : List (Bool × Nat)) (mz : List V) (k : Nat) (sp : Sp) : Prop where
  ex : ∃ f fd g, FnOk P w K mg base (L2N.CX P w) k f fd ps sp ∧ Cls K C ∧ Meth K C m f ∧ KBn K fd ps (n + 1) ks g (fun vs zs => gK π vs mz zs)
/-- C(.., k = v, ..), its __init__ keeping sp -/
structure MkK (P : Program) (w : World) (K : PySem.W.Frag) (mg : Str → Option Value) (base : Heap) (x : Str) (C : Addr) (ps : List Str) (n : Nat) (ks : List Str) (π : List (Bool × Nat)) (mz : List V) (k : Nat) (sp : Sp) : Prop where
  ex : ∃ f fd g, Mk K C f ∧ FnOk P w K mg base (L2N.CX P w) k f fd ps sp ∧ mg x = some (.ref C) ∧ KBn K fd ps (n + 1) ks g (fun vs zs => gK π vs mz zs)
/-- x(.., k = v ..): n places, the names ks; gK π puts them, and the defaults mz, in the parameters' order -/
structure DefN (P : Program) (w : World) (K : PySem.W.Frag) (mg : Str → Option Value) (base : Heap) (x : Str) (ps : List Str) (n : Nat) (ks : List Str) (π : List (Bool × Nat)) (mz : List V) (k : Nat) (sp : Sp) : Prop where
  ex : ∃ f fd g, FnOk P w K mg base (L2N.CX P w) k f fd ps sp ∧ mg x = some (.ref f) ∧ PySem.W.keepIn K (.ref f) = true ∧ KBn K fd ps n ks g (fun vs zs => gK π vs mz zs)
section
variable {P : Program} {w : World} {K : PySem.W.Frag} {mg : Str → Option Value} {base : Heap} {x m : Str} {C : Addr} {ps ks : List Str} {n k : Nat} {π : List (Bool × Nat)} {mz : List V} {sp : Sp}
theorem DefX.old (G : ZN.DefX P w K mg base x ps k sp) : Z.DefX P w K mg base x ps k sp := let ⟨f, fd, F, r⟩ := G.ex; ⟨f, fd, fn_old F, r⟩
theorem Mth.old (G : ZN.Mth P w K mg base C m ps k sp) : Z.Mth P w K mg base C m ps k sp := let ⟨f, fd, F, r⟩ := G.ex; ⟨f, fd, fn_old F, r⟩
theorem MthN.old (G : ZN.MthN P w K mg base C m ps n ks π mz k sp) : Z.MthN P w K mg base C m ps n ks π mz k sp := let ⟨f, fd, g, F, r⟩ := G.ex; ⟨f, fd, g, fn_old F, r⟩
theorem MkK.old (G : ZN.MkK P w K mg base x C ps n ks π mz k sp) : Z.MkK P w K mg base x C ps n ks π mz k sp := let ⟨f, fd, g, M, F, r⟩ := G.ex; ⟨f, fd, g, M, fn_old F, r⟩
theorem DefN.old (G : ZN.DefN P w K mg base x ps n ks π mz k sp) : Z.DefN P w K mg base x ps n ks π mz k sp := let ⟨f, fd, g, F, r⟩ := G.ex; ⟨f, fd, g, fn_old F, r⟩
end
end ZN
namespace Z
open PySem L2
theorem pe_bmK {X : Cx} {K : PySem.W.Frag} {o e : Expr} {es : List Expr} {to : TE} {t : TA} {name : Str} {apos cpos : Pos} {T id : String} {r : V → List V → Hp → VK → Prop} (h : X.K = K) (pa : PlainAttrs T) (slot : Slot T name id) (ty : typeOf (.builtin id) = pure (.type "method_descriptor")) (m : MtR X id r) (ho : PE X o to) (ha : PA X (e :: es) t)
    (e1 : attributeBase o name X.env (eval o X.env) = eval o X.env := by rfl)
    (e2 : ((backTo cpos (starEach (e :: es) X.env)).all (fun x => !x.1) && (backToKw cpos (keywordEach [] X.env)).all (fun x => x.1.isSome) && decide ((e :: es).length + ([] : List Keyword).length + (if ([] : List Keyword).isEmpty then 0 else 1) < 30)) = true := by rfl)
    (e3 : (apos.endLine == cpos.line) = true := by rfl) (e4 : starEach (e :: es) X.env = (false, eval e X.env) :: starEach es X.env := by rfl) (e5 : (backTo cpos (starEach es X.env)).any (·.1) = false := by rfl) :
    PE X (.Call (.Attribute o name apos) (e :: es) [] cpos) (tBM K T r to t) := h ▸ pe_bm pa slot ty m ho ha e1 e2 e3 e4 e5
/-- xs.count(e), the list told when it comes -/
theorem m_cntE {K : PySem.W.Frag} {τ : T} {μ : M} {to te : TE} {Φ : D → M → Prop} {d : D} (h : AE K to τ μ fun o μ1 => ∃ (a : Addr) (ds : List D), o = .ref a ∧ μ1 a = some (.lst ds) ∧ D.plains ds = true ∧ OkN 8 d ∧ AE K te τ μ1 fun y μ2 => y = d ∧ μ2 a = some (.lst ds) ∧ Φ (.int ((ds.countP fun z => D.eqv z d : Nat) : Int)) μ2) :
    AE K (tBM K "list" (CNT.rCntL K) to (tCons te tNil)) τ μ Φ := by
  intro σ H s c Q k
  refine h σ H s c _ ?_
  intro o μ1 v H1 f1 c1 r ⟨a, ds, eo, at1, pl, ok, rest⟩
  subst eo
  cases r
  have go := m_cntL (K := K) (to := fun σ H Q => Q (.ref a) H) (τ := τ) (a := a) (ds := ds) (d := d) (te := te) (μ := μ1) (Φ := Φ) (fun _ H2 _ c2 _ k2 => k2 (.ref a) μ1 _ H2 Fr.refl c2 (.ref a) ⟨rfl, ⟨ds, at1⟩, rest.imp fun y μ2 q => ⟨q.1, q.2.1, pl, ok, q.2.2⟩⟩)
  exact go σ H1 (s.mono (f1.tx c)) c1 Q fun d' μ' v' H' f' c' r' q => k d' μ' v' H' (f1.trans f') c' r' q
end Z
namespace XO
open PySem PySem.Spec L2
/-- a base of the program's own stands ahead of a built-in one's line -/
theorem rT_more {tl l : List Value} {c : Addr} (h : rT tl l = true) : rT tl ([Value.ref c] ++ l) = true := by
  unfold rT at *
  rw [List.singleton_append, List.dropWhile_cons_of_pos rfl]
  exact h
end XO
namespace Z
open PySem L2
section
variable {K : PySem.W.Frag} {τ : T} {μ : M} {to te tk : TE} {Φ : D → M → Prop}
/-- an item of a list: data, or a list of data of its own that is not fo -/
inductive NstE (μ : M) (fo : Addr) : D → PyData → Prop
  | ok {d : D} : OkN 5 d → NstE μ fo d (D.py d)
  | lst {a : Addr} {ds : List D} : a ≠ fo → μ a = some (.lst ds) → (∀ x ∈ ds, OkN 5 x) → NstE μ fo (.ref a) (.list (D.pys ds))
inductive Nst (μ : M) (fo : Addr) : List D → List PyData → Prop
  | nil : Nst μ fo [] []
  | cons {d : D} {p : PyData} {ds : List D} {ps : List PyData} : NstE μ fo d p → Nst μ fo ds ps → Nst μ fo (d :: ds) (p :: ps)
theorem Nst.append {fo : Addr} : ∀ {xs ys : List D} {ps qs : List PyData}, Nst μ fo xs ps → Nst μ fo ys qs → Nst μ fo (xs ++ ys) (ps ++ qs)
  | _, _, _, _, .nil, h => h
  | _, _, _, _, .cons a b, h => .cons a (b.append h)
theorem NstE.mono {μ' : M} {fo : Addr} (h : ∀ a ds, a ≠ fo → μ a = some (.lst ds) → μ' a = some (.lst ds)) {d : D} {p : PyData} : NstE μ fo d p → NstE μ' fo d p
  | .ok k => .ok k
  | .lst n e k => .lst n (h _ _ n e) k
theorem Nst.mono {μ' : M} {fo : Addr} (h : ∀ a ds, a ≠ fo → μ a = some (.lst ds) → μ' a = some (.lst ds)) : ∀ {xs : List D} {ps : List PyData}, Nst μ fo xs ps → Nst μ' fo xs ps
  | _, _, .nil => .nil
  | _, _, .cons a b => .cons (a.mono h) (b.mono h)
theorem Nst.all {fo : Addr} : ∀ {xs : List D}, (∀ x ∈ xs, OkN 5 x) → Nst μ fo xs (xs.map D.py)
  | [], _ => .nil
  | x :: xs, h => .cons (.ok (h x List.mem_cons_self)) (Nst.all fun y hy => h y (List.mem_cons_of_mem _ hy))
theorem Nst.length {fo : Addr} : ∀ {xs : List D} {ps : List PyData}, Nst μ fo xs ps → xs.length = ps.length
  | _, _, .nil => rfl
  | _, _, .cons _ b => by rw [List.length_cons, List.length_cons, b.length]
end
end Z
namespace Z
open PySem L2
end Z
namespace HX
open PySem PySem.Spec PyProof.Rows L2 Z
theorem at_ {l : List Bool} (h : l.all id = true) (i : Nat) {b : Bool} (e : l[i]? = some b) : b = true := List.all_eq_true.mp h b (List.mem_of_getElem? e)
def intB (o : Option (Option Value)) (i : Int) : Bool := match o with
  | some (some (.int j _)) => decide (j = i)
  | _ => false
theorem intB_ok {o : Option (Option Value)} {i : Int} (h : intB o i = true) : ∃ t, o = some (some (.int i t)) := by
  match o, h with
  | some (some (.int j t)), h => exact ⟨t, by rw [of_decide_eq_true (show decide (j = i) = true from h)]⟩
/-- an own error's class -/
def excB (K : PySem.W.Frag) (C : Addr) (m : List Value) (nid : String) : Bool := match K.lookup C with
  | some ⟨.type t, _, .cls cd, sl⟩ => decide (t = "type") && (decide (cd.mro = .ref C :: m) && (cd.hasDict && (!cd.hasDel && (match sl.toList with
    | [_, _, _, _, some (.builtin n), _] => decide (n = nid)
    | _ => false))))
  | _ => false
theorem excB_ok {K : PySem.W.Frag} {C : Addr} {m : List Value} {nid : String} (h : excB K C m nid = true) :
    ∃ nm q N bs sn sub ab col dd k0 k1 k2 k3 k5, K.lookup C = some (excClassObj nm q C N bs m true sn sub ab col dd k0 k1 k2 k3 k5 nid) := by
  unfold excB at h
  split at h
  · rename_i t dd cd sl hk
    simp only [Bool.and_eq_true, decide_eq_true_eq, Bool.not_eq_true'] at h
    obtain ⟨h1, h2, h3, h4, h5⟩ := h
    split at h5
    · rename_i k0 k1 k2 k3 n k5 hs
      obtain ⟨nm, bs, mro, ns, qn, hd, sn, sub, ab, col, del⟩ := cd
      have e5 := of_decide_eq_true h5
      dsimp only at h2 h3 h4
      subst h1 h2 h3 h4 e5
      have es : sl = #[k0, k1, k2, k3, some (.builtin n), k5] := by rw [← Array.toList_inj, hs]
      exact ⟨_, _, _, _, _, _, _, _, _, k0, k1, k2, k3, k5, by rw [hk, es]⟩
    · cases h5
  · cases h
theorem fun_out {K : PySem.W.Frag} {x q : Str} {pr : Arguments} {bd : List Stmt} {sc : Scope} {kws : List (Str × V)} {f : Addr} (F : ∃ fd, FunD K x q pr bd sc [] kws f fd) :
    ∃ oc od kV doc pm an cdv ct osl, K.lookup f = some ⟨oc, od, .func (PySem.W.fnOf x q pr bd sc .none kV doc pm an cdv ct), osl⟩ ∧ PySem.W.codeIn K cdv q = true ∧ PySem.W.keepIn K (.ref f) = true ∧ KwdV K kV kws := by
  obtain ⟨fd, ⟨oc, od, dV, kV, doc, pm, an, cdv, ct, osl, rfl, lk, hc, hd, hk⟩, kp⟩ := F
  rcases hd with ⟨_, rfl⟩ | ⟨n, _⟩
  · exact ⟨oc, od, kV, doc, pm, an, cdv, ct, osl, lk, hc, kp, hk⟩
  · exact absurd rfl n
theorem kw_out {K : PySem.W.Frag} {kV : Value} {q : Str × V} {kws : List (Str × V)} (h : KwdV K kV (q :: kws)) : ∃ D, kV = .ref D ∧ ∀ z ∈ (q :: kws), ∃ u, PySem.W.nsIn K D z.1 = some (some u) ∧ RelV z.2 u := by
  rcases h with h | ⟨D, e, h⟩
  · cases h
  · exact ⟨D, e, h⟩
theorem kw_int {K : PySem.W.Frag} {D : Addr} {kws : List (Str × V)} {x : Str} {i : Int} (h : ∀ z ∈ kws, ∃ u, PySem.W.nsIn K D z.1 = some (some u) ∧ RelV z.2 u) (m : (x, V.int i) ∈ kws) : ∃ t, PySem.W.nsIn K D x = some (some (.int i t)) := by
  obtain ⟨u, e, r⟩ := h _ m
  obtain ⟨t, rfl⟩ : ∃ t, u = .int i t := r
  exact ⟨t, e⟩
end HX
namespace HX
open PySem PySem.Spec PyProof.Rows L2 Z
section
open PySem.W
noncomputable def Runs (r : OpenRow) (M : Nat) (w : World) (os : OsState) : Option SharedT := HandSHeadRun.endF (HandSHeadRun.stepQ (HandSHeadRun.denQ HandSHeadRun.tabQ) r.prog w) M r.prog w os
end
end HX
namespace HX
open PySem PySem.Spec PyProof.Rows L2 Z
theorem dc {l : List Bool} (h : l.all id = true) (i : Nat) {p : Prop} {dp : Decidable p} (e : l[i]? = some (@decide p dp)) : p := @of_decide_eq_true p dp (at_ h i e)
/-- what an object leads to -/
def nxt (g : Addr → Option Obj) (a : Addr) : List Addr := match g a with
  | some ⟨_, _, .dict es _, _⟩ => es.toList.flatMap fun e => He.refV e.val
  | some ⟨_, _, .func fd, _⟩ => He.refV fd.code ++ (He.refV fd.kwdefaults ++ He.refV fd.defaults)
  | some ⟨_, _, .cls cd, _⟩ => [cd.ns]
  | _ => []
/-- a list of numbers, each brought to a literal -/
def frL {α : Type} : List Addr → (List Addr → α) → α
  | [], k => k []
  | a :: r, k => HandSHeadRun.frNat a fun a => frL r fun r => k (a :: r)
theorem frL_eq {α : Type} : ∀ (l : List Addr) (k : List Addr → α), frL l k = k l
  | [], _ => rfl
  | a :: r, k => by
    show HandSHeadRun.frNat a (fun a => frL r fun r => k (a :: r)) = _
    rw [HandSHeadRun.frNat_eq, frL_eq r]
/-- so many steps from the module's names -/
def reach {α : Type} (g : Addr → Option Obj) : Nat → List Addr → List Addr → (List Addr → α) → α
  | 0, all, _, k => k all
  | n + 1, all, new, k => frL (new.flatMap (nxt g)) fun new => reach g n (all ++ new) new k
def reachL (g : Addr → Option Obj) : Nat → List Addr → List Addr → List Addr
  | 0, all, _ => all
  | n + 1, all, new => reachL g n (all ++ new.flatMap (nxt g)) (new.flatMap (nxt g))
theorem reach_eq {α : Type} {g : Addr → Option Obj} {k : List Addr → α} : ∀ (n : Nat) (all new : List Addr), reach g n all new k = k (reachL g n all new)
  | 0, _, _ => rfl
  | n + 1, all, new => by
    show frL (new.flatMap (nxt g)) (fun new => reach g n (all ++ new) new k) = _
    rw [frL_eq, reach_eq n]
    rfl
/-- the part of the heap that the head's facts are read off -/
def onK {α : Type} (n : Nat) (g : Addr → Option Obj) (k : PySem.W.Frag → α) : α := reach g n [mainGlobals] [mainGlobals] fun as => k (He.frT g as)
def KN (n : Nat) (g : Addr → Option Obj) : PySem.W.Frag := He.frT g (reachL g n [mainGlobals] [mainGlobals])
theorem onK_eq {α : Type} {n : Nat} {g : Addr → Option Obj} {k : PySem.W.Frag → α} : onK n g k = k (KN n g) := reach_eq n _ _
abbrev AlN : Type := He.AlD × Bool
def obsN (n : Nat) (fn : List He.DefD) (tf : List He.Defn) (ex : PySem.W.Frag → Bool) (g : Addr → Option Obj) : AlN := (onK n g (He.obsD [] fn), onK n g fun K => ex K && He.tabsB g tf K)
def valN (fn : List He.DefD) : AlN := (He.valD fn, true)
theorem says_of {n : Nat} {fn : List He.DefD} {tf : List He.Defn} {ex : PySem.W.Frag → Bool} {w : World} {h : Heap} (e : obsN n fn tf ex h.get? = valN fn) : He.SaysX [] fn [] tf ex w h (KN n h.get?) := by
  obtain ⟨e1, e2⟩ := Prod.mk.inj e
  rw [onK_eq] at e1 e2
  obtain ⟨h1, h2⟩ := He.ba e2
  have key : ∀ p, p ∈ tf → PySem.W.codeHdIn (KN n h.get?) (He.cT (KN n h.get?) p).1 (He.cT (KN n h.get?) p).2 = true ∧ ∃ o, h.get? (He.cT (KN n h.get?) p).2 = some o ∧ He.emptyTab o = true := fun p hp => by
    obtain ⟨h3, h4⟩ := He.ba (List.all_eq_true.mp h2 p hp)
    split at h4
    · rename_i o ho
      exact ⟨h3, o, ho, h4⟩
    · cases h4
  refine ⟨?_, h1, fun p hp => (key p hp).1, fun p hp => ?_, fun p hp => ?_⟩
  · exact Prod.ext e1 rfl
  · obtain ⟨_, o, ho, z⟩ := key p hp
    exact He.frT_none ho z
  · obtain ⟨_, o, ho, z⟩ := key p hp
    rw [ho, He.emptyTab_eq z]
def hookN (n : Nat) (fn : List He.DefD) (tf : List He.Defn) (ex : PySem.W.Frag → Bool) : PySem.W.Hook where
  α := AlN
  obs := fun s => obsN n fn tf ex s.heap.get?
  val := fun _ => valN fn
  says := fun w h => ∃ K : PySem.W.Frag, K.In h ∧ He.SaysX [] fn [] tf ex w h K
  of := fun _ _ e => ⟨_, He.frT_in, says_of e⟩
  keeps := fun _ _ _ ⟨K, hK, c⟩ k => ⟨K, PySem.W.Frag.In.keeps hK k, ⟨c.t, c.more, c.hd, c.out, fun p hp => k _ _ (c.empty p hp)⟩⟩
theorem obsN_eq {n : Nat} {fn : List He.DefD} {tf : List He.Defn} {ex : PySem.W.Frag → Bool} (s : PySem.W.SharedT) : obsN n fn tf ex (HandSHeadRun.getT s) = (hookN n fn tf ex).obs s.abs := by
  have e : HandSHeadRun.getT s = s.abs.heap.get? := funext (HandSHeadRun.getT_eq s)
  rw [e] <;> rfl
section
open PySem.W
theorem run_joinN {r : OpenRow} {q : Program} {n M : Nat} {fn : List He.DefD} {tf : List He.Defn} {ex : Frag → Bool} {loose : List Str} {w : World}
    (A : ∀ os, (Runs r M w os).map (fun s => (HandSHeadRun.looksF r.prog (boot_heap w.params) s.abs, HandSHeadRun.seenQ q loose (importedModules r.prog.main.body) (fun s => xlAt q [] s && recOk r.toRowW.records s) s.abs)) = some (true, openGood q loose))
    (B : ∀ os, (Runs r M w os).map (fun s => onK n (HandSHeadRun.getT s) (He.obsD [] fn)) = some (He.valD fn))
    (C : ∀ os, (Runs r M w os).map (fun s => onK n (HandSHeadRun.getT s) fun K => ex K && He.tabsB (HandSHeadRun.getT s) tf K) = some true) :
    HandSHeadRun.RunEq r q (hookN n fn tf ex) (fun s => obsN n fn tf ex (HandSHeadRun.getT s)) M loose w := fun os => by
  obtain ⟨s, hs, e⟩ := Option.map_eq_some_iff.mp (A os)
  obtain ⟨s2, hs2, e2⟩ := Option.map_eq_some_iff.mp (B os)
  obtain ⟨s3, hs3, e3⟩ := Option.map_eq_some_iff.mp (C os)
  rw [hs] at hs2 hs3
  cases hs2
  cases hs3
  show (Runs r M w os).map _ = _
  rw [hs]
  obtain ⟨e5, e6⟩ := Prod.mk.inj e
  exact congrArg some (Prod.ext e5 (Prod.ext e6 (Prod.ext e2 e3)))
end
end HX
namespace ZA
open PySem PySem.Spec PyProof.Rows L2 Z LK LamX
end ZA
namespace Z
open PySem L2 LK LamX ZA
end Z
namespace Z
open PySem PySem.Spec PyProof.Rows L2 LK LamX
end Z
namespace ZLT
open PySem PySem.Spec PyProof.Rows L2 RZ
/-- pairs of what stands at a place of a list and of a tuple -/
def Ilt (K : PySem.W.Frag) (l t : Addr) (m n : Nat) : It where
  go := fun i H => ∃ xs ys : List V, SqL K H l xs ∧ SqT K H t ys ∧ xs.length = m ∧ ys.length = n ∧ i < m ∧ i < n
  yld := fun i H v H' => ∃ p x y, v = .ref p ∧ H p = none ∧ H' = upd H p (.tup [x, y]) ∧ (∀ xs, SqL K H l xs → xs[i]? = some x) ∧ ∀ ys, SqT K H t ys → ys[i]? = some y
  stop := fun i H => ∃ xs ys : List V, SqL K H l xs ∧ SqT K H t ys ∧ xs.length = m ∧ ys.length = n ∧ (m ≤ i ∨ n ≤ i)
/-- the zip's own five objects at its turn i -/
structure At (h : Heap) (z TI TO j k l t : Addr) (i : Nat) : Prop where
  zip_ : IsZip h z TI TO .none
  ins : IsPair h TI (.ref j) (.ref k)
  out : ∃ x y, IsPair h TO x y
  lst : h.IsListIter j l i
  tup : h.IsTupleIter k t i
theorem At.there {h : Heap} {z TI TO j k l t : Addr} {i : Nat} (a : At h z TI TO j k l t i) : ∀ d ∈ [z, TI, TO, j, k], ∃ o, h.get? d = some o ∧ ∀ v, o.data ≠ .cell v := by
  obtain ⟨rec, ins, ⟨x, y, out⟩, ⟨o1, e1, _, d1⟩, ⟨o2, e2, _, d2⟩⟩ := a
  intro d hd
  simp only [List.mem_cons, List.not_mem_nil, or_false] at hd
  rcases hd with rfl | rfl | rfl | rfl | rfl
  · exact ⟨_, rec, nofun⟩
  · exact ⟨_, ins, nofun⟩
  · exact ⟨_, out, nofun⟩
  · exact ⟨o1, e1, fun v q => nomatch d1.symm.trans q⟩
  · exact ⟨o2, e2, fun v q => nomatch d2.symm.trans q⟩
theorem sep {z TI TO j k l t : Addr} (D : ZipApart z TI TO j k l t) : ZipSep2 z TI TO j k [j, l] [k, t] := by
  have no : ∀ {x y u : Addr}, x ≠ y → x ≠ u → x ∉ [y, u] := fun h g e => (List.mem_cons.mp e).elim h fun e => g (List.mem_singleton.mp e)
  exact { TIz := D.TIz, TOz := D.TOz, TITO := D.TITO, TIi1 := D.TIi1, TIi2 := D.TIi2, mem1 := List.mem_cons_self, mem2 := List.mem_cons_self
          zf1 := no D.i1z.symm D.l1z.symm, zf2 := no D.i2z.symm D.l2z.symm, Tf1 := no D.TOi1 D.l1TO.symm, Tf2 := no D.TOi2 D.l2TO.symm
          sep1_2 := no D.i12 D.l2i1.symm, sep2_1 := no D.i12.symm D.l1i2.symm }
theorem turn {P : Program} {w : World} {K : PySem.W.Frag} {elts : List Expr} {kk : Nat} {tpos : Pos} {l t z TI TO j k : Addr} {m n : Nat} (D : ZipApart z TI TO j k l t) :
    Turn P w K (.Tuple elts kk tpos) (Ilt K l t m n) [z, TI, TO, j, k] z (fun i h => i ≤ m ∧ i ≤ n ∧ At h z TI TO j k l t i) where
  mem := List.mem_cons_self
  obj := fun i h ⟨_, _, a⟩ => a.there
  keep := fun i h h' ⟨m1, m2, a⟩ s => by
    obtain ⟨x, y, out⟩ := a.out
    exact ⟨m1, m2, s z (by simp) _ a.zip_, s TI (by simp) _ a.ins, ⟨x, y, s TO (by simp) _ out⟩, a.lst.at fun o q => s j (by simp) o q, a.tup.at fun o q => s k (by simp) o q⟩
  item := by
    rintro X rfl rfl rfl hc i pins s σ H E I hf ⟨_, _, a⟩ ⟨xs, ys, qx, qy, rfl, rfl, l1, l2⟩
    have old : ∀ d ∈ [z, TI, TO, j, k], d < s.heap.objs.size := fun d hd => let ⟨_, g, _⟩ := a.there d hd; Heap.lt_size g
    obtain ⟨us, ru, pu, _⟩ := I.list qx
    obtain ⟨vs, rv, pv, _⟩ := I.tuple qy
    have n1 := ru.length
    have n2 := rv.length
    obtain ⟨x0, y0, out⟩ := a.out
    have hh := I.ok.hd hc
    have fin : ∀ {L : List Value} {b : Value}, L.toArray[i]? = some b → L[i]? = some b := fun {L b} e => by rw [List.getElem?_toArray] at e; exact e
    refine wpAny_pyNext_zipD2_item (sep D) (Draws.list (A := X.A.in1) hh j l D.l1i1 us.toArray) (Draws.tuple (A := X.A.in1) hh k t D.l2i2 vs.toArray) a.zip_ a.ins out ⟨a.lst, pu.isList⟩ ⟨a.tup, pv⟩ (by rw [List.size_toArray]; omega) (by rw [List.size_toArray]; omega) fun u v ha tk gu gv za TOa sa sb Ta _ keep => ⟨_, rfl, wpAny_letOwnedTupleGo_zip (s := { s with heap := ha, toks := tk }) za fun hb zb but => ?_⟩
    have lz := old z List.mem_cons_self
    obtain ⟨x, hx⟩ : ∃ x, xs[i]? = some x := ⟨_, List.getElem?_eq_getElem l1⟩
    obtain ⟨y, hy⟩ : ∃ y, ys[i]? = some y := ⟨_, List.getElem?_eq_getElem l2⟩
    obtain ⟨u', hu, rx⟩ := ru.get hx
    obtain ⟨v', hv, ry⟩ := rv.get hy
    obtain rfl : u' = u := Option.some.inj (hu.symm.trans (fin gu))
    obtain rfl : v' = v := Option.some.inj (hv.symm.trans (fin gv))
    have I1 := I.turnedNew (t' := tk) (ob := .tup [x, y]) (ch := [z, TI, TO, j, k]) (fun c o nc g => by
      simp only [List.mem_cons, List.not_mem_nil, or_false, not_or] at nc
      exact (but.2 c nc.1).trans (keep c o nc.1 nc.2.2.1 nc.2.2.2.1 nc.2.2.2.2 g)) hf (Nat.le_refl _) ⟨by show 2 ≤ sizeLine; decide, [u', v'], .cons rx (.cons ry .nil), ⟨_, (but.2 _ (Nat.ne_of_gt lz)).trans Ta, rfl, _, rfl⟩⟩
    refine ⟨.ref s.heap.objs.size, _, I1, rfl, ⟨_, x, y, rfl, I.hok.fresh (Nat.le_refl _), rfl, fun l hl => I.list_inj qx hl ▸ hx, fun l hl => I.tuple_inj qy hl ▸ hy⟩, ⟨l1, l2, zb, ?_, ⟨u', v', (but.2 _ D.TOz).trans TOa⟩, sa.1.at fun o q => (but.2 _ D.i1z).trans q, sb.1.at fun o q => (but.2 _ D.i2z).trans q⟩, fun d hd => (upd_ne (Nat.ne_of_lt (old d hd))).trans (hf d hd).1⟩
    exact (but.2 _ D.TIz).trans (keep _ _ D.TIz D.TITO D.TIi1 D.TIi2 a.ins)
  done := by
    rintro X rfl rfl rfl hc i pins s σ H E I hf ⟨m1, m2, a⟩ ⟨xs, ys, qx, qy, rfl, rfl, hend⟩
    obtain ⟨us, ru, pu, _⟩ := I.list qx
    obtain ⟨vs, rv, pv, _⟩ := I.tuple qy
    have n1 := ru.length
    have n2 := rv.length
    obtain ⟨x0, y0, out⟩ := a.out
    have hh := I.ok.hd hc
    refine wpAny_pyNext_zipD2_end (sep D) (Draws.list (A := X.A.in1) hh j l D.l1i1 us.toArray) (Draws.tuple (A := X.A.in1) hh k t D.l2i2 vs.toArray) a.zip_ a.ins out ⟨a.lst, pu.isList⟩ ⟨a.tup, pv⟩ (by rw [List.size_toArray]; omega) (by rw [List.size_toArray]; omega) (by rw [List.size_toArray, List.size_toArray]; omega) fun ha tk keep => ⟨rfl, I.turnedL (t' := tk) (ch := [z, TI, TO, j, k]) (fun c o nc g => ?_) hf⟩
    simp only [List.mem_cons, List.not_mem_nil, or_false, not_or] at nc
    exact keep c o nc.1 nc.2.2.1 nc.2.2.2.1 nc.2.2.2.2 g
  self := fun A i s Q E st h => wpAny_pyIter_zip st.2.2.zip_ h
end ZLT
namespace Z
open PySem L2 PySem.W ZLT
section
variable {K : PySem.W.Frag} {τ : T} {μ : M} {Φ : D → M → Prop} {to te : TE} {Ψ : List D → M → (M → M) → Prop}
/-- a comprehension over a list that stays in the store -/
theorem a_lcS {tt : TT} {tl : TE} {g : TG} {js : List Nat} {dec : D → List D → Prop} (hg : TgOk K g js dec)
    (h : AE K tl τ μ fun d μ1 => ∃ (a : Addr) (ds : List D) (P : Nat → List D → M → Prop), d = .ref a ∧ P 0 [] μ1 ∧ (∀ i acc μ', P i acc μ' → μ' a = some (.lst ds)) ∧
      (∀ (i : Nat) x acc μ', ds[i]? = some x → P i acc μ' → LcTurn K τ tt te js dec x acc μ' (P (i + 1))) ∧ ∀ acc μ', P ds.length acc μ' → ∀ p, μ' p = none → Φ (.ref p) (μ'.set p (.lst acc))) :
    AE K (tLc (iList K tl) g tt te js) τ μ Φ := fun σ H s c Q k => by
  refine h σ H s c _ fun d μ1 v H1 f1 c1 r1 ⟨a, ds, P, e, p0, hk, hs, hd⟩ => ?_
  subst e
  cases r1
  obtain ⟨vs0, hv0, _⟩ := c1 a _ (hk _ _ _ p0)
  have s1 := s.mono (f1.tx c)
  refine ⟨a, rfl, ⟨vs0, SqL.of hv0⟩, fun Dl hD => ?_⟩
  refine ⟨fun i m H' => m = ds.length - i ∧ i ≤ ds.length ∧ ∃ acc μ', LcAt K Dl μ1 H1 acc μ' H' ∧ P i acc μ', ⟨ds.length, by omega, Nat.zero_le _, [], μ1, lc_start c1 hD, p0⟩, ?_⟩
  rintro i m H' ⟨rfl, hi, acc, μ', L, p⟩
  obtain ⟨vs, hv, hr⟩ := L.con a _ (hk _ _ _ p)
  by_cases hlt : i < ds.length
  · refine .inr ⟨⟨vs, vs[i]'(by rw [hr.length]; exact hlt), SqL.of hv, List.getElem?_eq_getElem _⟩, fun H2 => ∃ acc2 μ2, LcAt K Dl μ1 H1 acc2 μ2 H2 ∧ P (i + 1) acc2 μ2, fun H2 ⟨acc2, μ2, L2, p2⟩ => ⟨ds.length - (i + 1), by omega, rfl, hlt, acc2, μ2, L2, p2⟩, fun v H2 y => ?_⟩
    obtain ⟨e, q⟩ := y
    subst e
    obtain ⟨x, hx, rx⟩ := hr.getV (q vs (SqL.of hv))
    exact lc_step hD hg s1 c1 L rx (hs i x acc μ' hx p) fun acc2 μ2 H3 L3 p3 => ⟨acc2, μ2, L3, p3⟩
  · obtain rfl : i = ds.length := by omega
    obtain ⟨f2, c2⟩ := lc_end hD L
    exact .inl ⟨⟨vs, SqL.of hv, by rw [hr.length]; exact Nat.le_refl _⟩, k _ _ _ H' (fun b o n e => by
      obtain ⟨e1, n1⟩ := f1 b o n e
      exact f2 b o n1 e1) c2 (.ref Dl) (hd acc μ' p Dl L.no)⟩
end
end Z
namespace ZTL
open PySem PySem.Spec PyProof.Rows L2 RZ
/-- pairs of what stands at a place of a tuple and of a list -/
def Itl (K : PySem.W.Frag) (t l : Addr) (m n : Nat) : It where
  go := fun i H => ∃ xs ys : List V, SqT K H t xs ∧ SqL K H l ys ∧ xs.length = m ∧ ys.length = n ∧ i < m ∧ i < n
  yld := fun i H v H' => ∃ p x y, v = .ref p ∧ H p = none ∧ H' = upd H p (.tup [x, y]) ∧ (∀ xs, SqT K H t xs → xs[i]? = some x) ∧ ∀ ys, SqL K H l ys → ys[i]? = some y
  stop := fun i H => ∃ xs ys : List V, SqT K H t xs ∧ SqL K H l ys ∧ xs.length = m ∧ ys.length = n ∧ (m ≤ i ∨ n ≤ i)
/-- the zip's own five objects at its turn i -/
structure At (h : Heap) (z TI TO j k t l : Addr) (i : Nat) : Prop where
  zip_ : IsZip h z TI TO .none
  ins : IsPair h TI (.ref j) (.ref k)
  out : ∃ x y, IsPair h TO x y
  tup : h.IsTupleIter j t i
  lst : h.IsListIter k l i
theorem At.there {h : Heap} {z TI TO j k t l : Addr} {i : Nat} (a : At h z TI TO j k t l i) : ∀ d ∈ [z, TI, TO, j, k], ∃ o, h.get? d = some o ∧ ∀ v, o.data ≠ .cell v := by
  obtain ⟨rec, ins, ⟨x, y, out⟩, ⟨o1, e1, _, d1⟩, ⟨o2, e2, _, d2⟩⟩ := a
  intro d hd
  simp only [List.mem_cons, List.not_mem_nil, or_false] at hd
  rcases hd with rfl | rfl | rfl | rfl | rfl
  · exact ⟨_, rec, nofun⟩
  · exact ⟨_, ins, nofun⟩
  · exact ⟨_, out, nofun⟩
  · exact ⟨o1, e1, fun v q => nomatch d1.symm.trans q⟩
  · exact ⟨o2, e2, fun v q => nomatch d2.symm.trans q⟩
theorem sep {z TI TO j k t l : Addr} (D : ZipApart z TI TO j k t l) : ZipSep2 z TI TO j k [j, t] [k, l] := by
  have no : ∀ {x y u : Addr}, x ≠ y → x ≠ u → x ∉ [y, u] := fun h g e => (List.mem_cons.mp e).elim h fun e => g (List.mem_singleton.mp e)
  exact { TIz := D.TIz, TOz := D.TOz, TITO := D.TITO, TIi1 := D.TIi1, TIi2 := D.TIi2, mem1 := List.mem_cons_self, mem2 := List.mem_cons_self
          zf1 := no D.i1z.symm D.l1z.symm, zf2 := no D.i2z.symm D.l2z.symm, Tf1 := no D.TOi1 D.l1TO.symm, Tf2 := no D.TOi2 D.l2TO.symm
          sep1_2 := no D.i12 D.l2i1.symm, sep2_1 := no D.i12.symm D.l1i2.symm }
theorem turn {P : Program} {w : World} {K : PySem.W.Frag} {elts : List Expr} {kk : Nat} {tpos : Pos} {t l z TI TO j k : Addr} {m n : Nat} (D : ZipApart z TI TO j k t l) :
    Turn P w K (.Tuple elts kk tpos) (Itl K t l m n) [z, TI, TO, j, k] z (fun i h => i ≤ m ∧ i ≤ n ∧ At h z TI TO j k t l i) where
  mem := List.mem_cons_self
  obj := fun i h ⟨_, _, a⟩ => a.there
  keep := fun i h h' ⟨m1, m2, a⟩ s => by
    obtain ⟨x, y, out⟩ := a.out
    exact ⟨m1, m2, s z (by simp) _ a.zip_, s TI (by simp) _ a.ins, ⟨x, y, s TO (by simp) _ out⟩, a.tup.at fun o q => s j (by simp) o q, a.lst.at fun o q => s k (by simp) o q⟩
  item := by
    rintro X rfl rfl rfl hc i pins s σ H E I hf ⟨_, _, a⟩ ⟨xs, ys, qx, qy, rfl, rfl, l1, l2⟩
    have old : ∀ d ∈ [z, TI, TO, j, k], d < s.heap.objs.size := fun d hd => let ⟨_, g, _⟩ := a.there d hd; Heap.lt_size g
    obtain ⟨us, ru, pu, _⟩ := I.tuple qx
    obtain ⟨vs, rv, pv, _⟩ := I.list qy
    have n1 := ru.length
    have n2 := rv.length
    obtain ⟨x0, y0, out⟩ := a.out
    have hh := I.ok.hd hc
    have fin : ∀ {L : List Value} {b : Value}, L.toArray[i]? = some b → L[i]? = some b := fun {L b} e => by rw [List.getElem?_toArray] at e; exact e
    refine wpAny_pyNext_zipD2_item (sep D) (Draws.tuple (A := X.A.in1) hh j t D.l1i1 us.toArray) (Draws.list (A := X.A.in1) hh k l D.l2i2 vs.toArray) a.zip_ a.ins out ⟨a.tup, pu⟩ ⟨a.lst, pv.isList⟩ (by rw [List.size_toArray]; omega) (by rw [List.size_toArray]; omega) fun u v ha tk gu gv za TOa sa sb Ta _ keep => ⟨_, rfl, wpAny_letOwnedTupleGo_zip (s := { s with heap := ha, toks := tk }) za fun hb zb but => ?_⟩
    have lz := old z List.mem_cons_self
    obtain ⟨x, hx⟩ : ∃ x, xs[i]? = some x := ⟨_, List.getElem?_eq_getElem l1⟩
    obtain ⟨y, hy⟩ : ∃ y, ys[i]? = some y := ⟨_, List.getElem?_eq_getElem l2⟩
    obtain ⟨u', hu, rx⟩ := ru.get hx
    obtain ⟨v', hv, ry⟩ := rv.get hy
    obtain rfl : u' = u := Option.some.inj (hu.symm.trans (fin gu))
    obtain rfl : v' = v := Option.some.inj (hv.symm.trans (fin gv))
    have I1 := I.turnedNew (t' := tk) (ob := .tup [x, y]) (ch := [z, TI, TO, j, k]) (fun c o nc g => by
      simp only [List.mem_cons, List.not_mem_nil, or_false, not_or] at nc
      exact (but.2 c nc.1).trans (keep c o nc.1 nc.2.2.1 nc.2.2.2.1 nc.2.2.2.2 g)) hf (Nat.le_refl _) ⟨by show 2 ≤ sizeLine; decide, [u', v'], .cons rx (.cons ry .nil), ⟨_, (but.2 _ (Nat.ne_of_gt lz)).trans Ta, rfl, _, rfl⟩⟩
    refine ⟨.ref s.heap.objs.size, _, I1, rfl, ⟨_, x, y, rfl, I.hok.fresh (Nat.le_refl _), rfl, fun l hl => I.tuple_inj qx hl ▸ hx, fun l hl => I.list_inj qy hl ▸ hy⟩, ⟨l1, l2, zb, ?_, ⟨u', v', (but.2 _ D.TOz).trans TOa⟩, sa.1.at fun o q => (but.2 _ D.i1z).trans q, sb.1.at fun o q => (but.2 _ D.i2z).trans q⟩, fun d hd => (upd_ne (Nat.ne_of_lt (old d hd))).trans (hf d hd).1⟩
    exact (but.2 _ D.TIz).trans (keep _ _ D.TIz D.TITO D.TIi1 D.TIi2 a.ins)
  done := by
    rintro X rfl rfl rfl hc i pins s σ H E I hf ⟨m1, m2, a⟩ ⟨xs, ys, qx, qy, rfl, rfl, hend⟩
    obtain ⟨us, ru, pu, _⟩ := I.tuple qx
    obtain ⟨vs, rv, pv, _⟩ := I.list qy
    have n1 := ru.length
    have n2 := rv.length
    obtain ⟨x0, y0, out⟩ := a.out
    have hh := I.ok.hd hc
    refine wpAny_pyNext_zipD2_end (sep D) (Draws.tuple (A := X.A.in1) hh j t D.l1i1 us.toArray) (Draws.list (A := X.A.in1) hh k l D.l2i2 vs.toArray) a.zip_ a.ins out ⟨a.tup, pu⟩ ⟨a.lst, pv.isList⟩ (by rw [List.size_toArray]; omega) (by rw [List.size_toArray]; omega) (by rw [List.size_toArray, List.size_toArray]; omega) fun ha tk keep => ⟨rfl, I.turnedL (t' := tk) (ch := [z, TI, TO, j, k]) (fun c o nc g => ?_) hf⟩
    simp only [List.mem_cons, List.not_mem_nil, or_false, not_or] at nc
    exact keep c o nc.1 nc.2.2.1 nc.2.2.2.1 nc.2.2.2.2 g
  self := fun A i s Q E st h => wpAny_pyIter_zip st.2.2.zip_ h
end ZTL
namespace Z
open PySem L2 PySem.W ZTL
end Z
namespace ZG
open PySem PySem.Spec PyProof.Rows L2 Z LK LamX
/-- such a def -/
structure FnG (P : Program) (w : World) (K : PySem.W.Frag) (mg : Str → Option Value) (base : Heap) (k : Nat) (f : Addr) (fd : FuncData) (ps : List Str) (sp : Sp) : Prop where
  len : ∀ vs H Q E, sp vs H Q E → vs.length = ps.length
  run : ∀ (A : Around) (outer : List Env) (s : Shared) (H : Hp) (args : Args) (us : List Value) (vs : List V) (Q : VK) (E : XK), A.guards = some [] → Room k A → Env0 P w K mg base A outer s H →
    BindsTo s fd args (ps.zip us) → Vals vs us → sp vs H Q E → codeAny (model P w) A (.call (.ref f) args) (CR CX0 outer P w H s Q E) s
theorem free_ok {P : Program} {w : World} {K : PySem.W.Frag} {mg : Str → Option Value} {base : Heap} {x qual : Str} {st : Stmt} {f : Addr} {fd : FuncData} {N ps : List Str} {k : Nat} {sp : Sp} (F : L2.Fun K x qual st f fd) (S : FnScope N ps (defScope st))
    (len : ∀ vs H Q E, sp vs H Q E → vs.length = ps.length)
    (body : ∀ (cdv : Value) (A : Around) (outer : List Env) (s : Shared) (H : Hp) (vs : List V) (Q : VK) (E : XK), A.guards = some [] → Room k (A.deeper (envOfC qual (defScope st) s.heap.objs.size f cdv)) → sp vs H Q E →
      ∃ t, PSs (cxOf CX0 P w K mg base N qual (defScope st) f cdv A outer s H E).nox (defBody st) t ∧ t { nx := fun _ μ => Q .non μ, rt := Q } (L2.start N vs) H) : FnG P w K mg base (k + 1) f fd ps sp := by
  obtain ⟨_, _, _, _, _, _, cdv, _, _, rfl, at_, code⟩ := F.ex
  refine ⟨len, fun A outer s H args us vs Q E g hr e0 hb r hsp => ?_⟩
  obtain ⟨t, ht, hq⟩ := body cdv A outer s H vs Q E g (hr.deeper _) hsp
  have old : ∀ b o, base.get? b = some o → s.heap.get? b = some o := fun b o e => (e0.bs b o e).1
  have there := e0.mod.kin.keeps old
  refine codeAny_call_function hr.depth (there _ _ at_) rfl S.co S.gen rfl (PySem.W.codeRec_of there code) (hb _ _ _ _ (wpAny_newFunctionEnv_cells S.kind (fun y hy => ?_) fun env he s1 new => ?_))
  · exact (S.par y.1 (List.of_mem_zip hy).1).imp id fun q => ⟨q, PySem.W.cellsFrom_some _ _ _ (.inl q)⟩
  · subst he
    refine ⟨(e0.mod.nolimit.keeps old).keeps new.toInCall.keep, codeAny_func ?_⟩
    refine wpAny_mono (ht.nox.run [] s1 _ H _ (inv_start S hr.hd e0 (len _ _ _ _ hsp) r new) hq) (fun fl s' end_ => ?_) fun _ _ z => z
    match fl, end_ with
    | .ret _, ⟨v, _, H', J, rv, q⟩ => exact ⟨v, H', J.os, J.bare, J.base, J.hok, rv, q⟩
    | .next, ⟨_, H', J, q⟩ => exact ⟨.non, H', J.os, J.bare, J.base, J.hok, rfl, q⟩
    | .brk, ⟨_, _, _, q⟩ => exact q.elim
    | .cont, ⟨_, _, _, q⟩ => exact q.elim
section
variable {X : Cx}
def rStr (K : PySem.W.Frag) : List V → Hp → VK → Prop := fun vs H Q => ∃ (a : Addr) (d : PyData), vs = [.ref a] ∧ Dp K H (.ref a) d ∧ d.showable = true ∧ d.hasDict = false ∧ d.depth ≤ 50 ∧ d.shown.length ≤ sizeLine ∧ Q (.str d.shown) H
theorem cr_str (hg : X.A.guards = some []) (hu : X.A.units + 65 < cLine) : CallR X (.type "str") (rStr X.K) := by
  intro pins s σ H vs us Q I r h
  obtain ⟨a, d, rfl, hd, sh, nd, dep, hz, q⟩ := h
  rw [Vals.ref1 r]
  obtain ⟨as, rd⟩ := Dp.reads I d _ (.ref a) hd rfl
  refine str_of_reads rd sh (fun z => ?_) hg (by omega) (fun _ _ e => e) (fun h' u tk grow => ?_) hz
  · rw [nd] at z
    cases z
  · exact ⟨.str _, H, I.kept grow, ⟨u, rfl⟩, q⟩
theorem cr_strK {K : PySem.W.Frag} (hK : X.K = K) (hg : X.A.guards = some []) (hu : X.A.units + 65 < cLine) : CallR X (.type "str") (rStr K) := by
  subst hK
  exact cr_str hg hu
end
mutual
def few : PyData → Bool
  | .int i => decide (i.natAbs < 10 ^ 36)
  | .list xs => fews xs
  | .tuple xs => fews xs
  | .none => true
  | .bool _ => true
  | .str _ => true
  | .dict _ => false
def fews : List PyData → Bool
  | [] => true
  | x :: xs => few x && fews xs
end
theorem few_int {i : Int} (h : i.natAbs < 10 ^ 36) : (PyData.int i).showable = true ∧ (PyData.int i).intsShort 37 = true := by
  constructor
  · simp only [PyData.showable, decide_eq_true_eq]
    by_cases z : i.natAbs = 0
    · rw [z]
      decide
    · exact (Nat.log2_lt z).mpr (Nat.lt_of_lt_of_le h (by decide +kernel))
  · simp only [PyData.intsShort, decide_eq_true_eq]
    show (Str.ofString (toString i)).length ≤ 37
    rw [PySem.ofString_length]
    exact int_text_length_le10 (k := 36) (by decide) h
mutual
theorem few_ok : ∀ d : PyData, few d = true → d.showable = true ∧ d.intsShort 37 = true
  | .int i, h => few_int (by simpa only [few, decide_eq_true_eq] using h)
  | .list xs, h => by
    simp only [PyData.showable, PyData.intsShort]
    exact fews_ok xs (by simpa only [few] using h)
  | .tuple xs, h => by
    simp only [PyData.showable, PyData.intsShort]
    exact fews_ok xs (by simpa only [few] using h)
  | .none, _ => by simp only [PyData.showable, PyData.intsShort, and_self]
  | .bool _, _ => by simp only [PyData.showable, PyData.intsShort, and_self]
  | .str _, _ => by simp only [PyData.showable, PyData.intsShort, and_self]
  | .dict _, h => by simp [few] at h
theorem fews_ok : ∀ xs : List PyData, fews xs = true → PyData.showableAll xs = true ∧ PyData.intsShortAll 37 xs = true
  | [], _ => by simp only [PyData.showableAll, PyData.intsShortAll, and_self]
  | x :: xs, h => by
    simp only [fews, Bool.and_eq_true] at h
    have h1 := few_ok x h.1
    have h2 := fews_ok xs h.2
    simp only [PyData.showableAll, PyData.intsShortAll, h1.1, h1.2, h2.1, h2.2, Bool.and_self, and_self]
end
theorem few_len {d : PyData} (l : d.canLay0 = true) (h : few d = true) (b : d.bulk ≤ 400000) : d.shown.length ≤ sizeLine := by
  have := PyData.shown_le_bulk 37 (by decide) d (PyData.leavesShort_of_canLay0 37 d l (few_ok d h).2)
  rw [sizeLine_eq]
  omega
end ZG
namespace ZG
open PySem PySem.Spec PyProof.Rows L2 Z
mutual
/-- what a thing of the store is as data; b is no part of it -/
inductive Say (μ : M) (b : Addr) : D → PyData → Prop
  | base {d : D} {p : PyData} : D.plain d = true → D.py d = p → Say μ b d p
  | lst {a : Addr} {ds : List D} {ps : List PyData} : a ≠ b → μ a = some (.lst ds) → Says μ b ds ps → Say μ b (.ref a) (.list ps)
  | tup {ds : List D} {ps : List PyData} : Says μ b ds ps → Say μ b (.tup ds) (.tuple ps)
inductive Says (μ : M) (b : Addr) : List D → List PyData → Prop
  | nil : Says μ b [] []
  | cons {d : D} {ds : List D} {p : PyData} {ps : List PyData} : Say μ b d p → Says μ b ds ps → Says μ b (d :: ds) (p :: ps)
end
section
variable {K : PySem.W.Frag} {μ μ' : M} {b : Addr} {H : Hp}
mutual
theorem say_sub (s : SubB b μ μ') : ∀ (p : PyData) (d : D), Say μ b d p → Say μ' b d p
  | .none, _, h => by cases h with | base e e2 => exact .base e e2
  | .bool _, _, h => by cases h with | base e e2 => exact .base e e2
  | .int _, _, h => by cases h with | base e e2 => exact .base e e2
  | .str _, _, h => by cases h with | base e e2 => exact .base e e2
  | .dict _, _, h => by cases h with | base e e2 => exact .base e e2
  | .list ps, _, h => by
    cases h with
    | base e e2 => exact .base e e2
    | lst n e r => exact .lst n (s _ _ n e) (says_sub s ps _ r)
  | .tuple ps, _, h => by
    cases h with
    | base e e2 => exact .base e e2
    | tup r => exact .tup (says_sub s ps _ r)
theorem says_sub (s : SubB b μ μ') : ∀ (ps : List PyData) (ds : List D), Says μ b ds ps → Says μ' b ds ps
  | [], _, h => by cases h; exact .nil
  | p :: ps, _, h => by
    cases h with
    | cons h1 h2 => exact .cons (say_sub s p _ h1) (says_sub s ps _ h2)
end
mutual
theorem say_dp (c : Z.Con K H μ) : ∀ (p : PyData) (d : D) (v : V), Say μ b d p → Rel K H v d → Dp K H v p
  | .none, _, _, h, r => by cases h with | base e e2 => exact e2 ▸ Rel.dp _ _ r e
  | .bool _, _, _, h, r => by cases h with | base e e2 => exact e2 ▸ Rel.dp _ _ r e
  | .int _, _, _, h, r => by cases h with | base e e2 => exact e2 ▸ Rel.dp _ _ r e
  | .str _, _, _, h, r => by cases h with | base e e2 => exact e2 ▸ Rel.dp _ _ r e
  | .dict _, _, _, h, r => by cases h with | base e e2 => exact e2 ▸ Rel.dp _ _ r e
  | .list ps, _, _, h, r => by
    cases h with
    | base e e2 => exact e2 ▸ Rel.dp _ _ r e
    | lst n e s =>
      cases r
      obtain ⟨xs, hx, hr⟩ := c _ _ e
      exact .lst (SqL.of hx) (says_dp c ps _ _ s hr)
  | .tuple ps, _, _, h, r => by
    cases h with
    | base e e2 => exact e2 ▸ Rel.dp _ _ r e
    | tup s =>
      cases r with
      | tup ht hr => exact .tup ht.sq (says_dp c ps _ _ s hr)
theorem says_dp (c : Z.Con K H μ) : ∀ (ps : List PyData) (ds : List D) (vs : List V), Says μ b ds ps → Rels K H vs ds → DpAll K H vs ps
  | [], _, _, h, r => by cases h; cases r; exact .nil
  | p :: ps, _, _, h, r => by
    cases h with
    | cons h1 h2 =>
      cases r with
      | cons r1 r2 => exact .cons (say_dp c p _ _ h1 r1) (says_dp c ps _ _ h2 r2)
end
/-- such data of a depth and a size -/
structure Fit (n k : Nat) (p : PyData) : Prop where
  few : few p = true
  lay : p.canLay0 = true
  dep : p.depth ≤ n
  bulk : p.bulk ≤ k
theorem Fit.mono {n k m j : Nat} {p : PyData} (f : Fit n k p) (h1 : n ≤ m) (h2 : k ≤ j) : Fit m j p := ⟨f.few, f.lay, Nat.le_trans f.dep h1, Nat.le_trans f.bulk h2⟩
/-- a thing that can be told as a text -/
def Told (μ : M) (b : Addr) (n k : Nat) (d : D) : Prop := ∃ p, Say μ b d p ∧ Fit n k p
theorem Told.mono {n k m j : Nat} {d : D} (f : Told μ b n k d) (h1 : n ≤ m) (h2 : k ≤ j) : Told μ b m j d := let ⟨p, s, t⟩ := f; ⟨p, s, t.mono h1 h2⟩
theorem Told.sub {n k : Nat} {d : D} (f : Told μ b n k d) (s : SubB b μ μ') : Told μ' b n k d := let ⟨p, a, t⟩ := f; ⟨p, say_sub s p d a, t⟩
theorem told_ok {n k : Nat} {d : D} (o : OkN n d) (f : few (D.py d) = true) (h : (D.py d).bulk ≤ k) : Told μ b n k d := ⟨_, .base o.p rfl, f, o.l, o.d, h⟩
theorem told_all {n k : Nat} : ∀ {ds : List D}, (∀ d ∈ ds, Told μ b n k d) → ∃ ps, Says μ b ds ps ∧ fews ps = true ∧ PyData.canLayAll0 ps = true ∧ PyData.depthAll ps ≤ n ∧ PyData.bulkAll ps ≤ ds.length * (k + 1)
  | [], _ => ⟨[], .nil, by simp only [fews], by simp only [PyData.canLayAll0], by simp [PyData.depthAll], by simp [PyData.bulkAll]⟩
  | d :: ds, h => by
    obtain ⟨p, s, f⟩ := h d List.mem_cons_self
    obtain ⟨ps, ss, f1, f2, f3, f4⟩ := told_all fun x hx => h x (List.mem_cons_of_mem _ hx)
    refine ⟨p :: ps, .cons s ss, ?_, ?_, ?_, ?_⟩
    · simp only [fews, f.few, f1, Bool.and_self]
    · simp only [PyData.canLayAll0, f.lay, f2, Bool.and_self]
    · have := f.dep
      simp only [PyData.depthAll]
      omega
    · have := f.bulk
      simp only [PyData.bulkAll, List.length_cons, Nat.add_mul]
      omega
theorem told_tup {n k j : Nat} {ds : List D} (h : ∀ d ∈ ds, Told μ b n k d) (hj : ds.length * (k + 1) ≤ j) : Told μ b (n + 1) j (.tup ds) := by
  obtain ⟨ps, ss, f1, f2, f3, f4⟩ := told_all h
  refine ⟨_, .tup ss, ?_, ?_, ?_, ?_⟩
  · simp only [few, f1]
  · simp only [PyData.canLay0, f2]
  · simp only [PyData.depth]
    omega
  · simp only [PyData.bulk]
    omega
theorem told_lst {n k j : Nat} {a : Addr} {ds : List D} (na : a ≠ b) (e : μ a = some (.lst ds)) (h : ∀ d ∈ ds, Told μ b n k d) (hj : ds.length * (k + 1) ≤ j) : Told μ b (n + 1) j (.ref a) := by
  obtain ⟨ps, ss, f1, f2, f3, f4⟩ := told_all h
  refine ⟨_, .lst na e ss, ?_, ?_, ?_, ?_⟩
  · simp only [few, f1]
  · simp only [PyData.canLay0, f2]
  · simp only [PyData.depth]
    omega
  · simp only [PyData.bulk]
    omega
theorem rc_strP {Φ : D → M → Prop} {n k : Nat} {ds : List D} {p : PyData} (s : Say μ b (.tup ds) p) (f : Fit n k p) (hn : n ≤ 50) (hk : k ≤ 400000) (q : Φ (.str p.shown) μ) : RC K (rStr K) [.tup ds] μ Φ := fun H xs c r Q kk => by
  cases r with
  | cons ra rn =>
    cases rn
    have dp := say_dp c p _ _ s ra
    cases ra with
    | @tup a ys _ ht hr => exact ⟨a, _, rfl, dp, (few_ok _ f.few).1, PyData.hasDict_of_canLay _ f.lay, Nat.le_trans f.dep hn, few_len f.lay f.few (Nat.le_trans f.bulk hk), kk _ μ _ H Fr.refl c (.str _) q⟩
end
end ZG
namespace ZG
open PySem PySem.Spec PyProof.Rows L2 Z LK LamX
section
variable {P : Program} {w : World} {K : PySem.W.Frag} {mg mb : Str → Option Value} {k : Nat} {fa a : Addr} {fd : FuncData} {x : Str} {sp : Sp} {s₁ : Shared} {vs : List Value} {ns : List Int}
/-- the script alone, as the law finds it -/
def alone (K : PySem.W.Frag) (a : Addr) (o : Obj) (ns : List Int) : Hp := fun b => if b = a ∧ K.lookup a = none then some (.frz o (.lst (ns.map V.int))) else none
theorem alone_is {o : Obj} {b : Addr} {u : HO} (h : alone K a o ns b = some u) : b = a ∧ K.lookup a = none ∧ u = .frz o (.lst (ns.map V.int)) := by
  unfold alone at h
  by_cases h2 : b = a ∧ K.lookup a = none
  · rw [if_pos h2] at h
    exact ⟨h2.1, h2.2, (Option.some.inj h).symm⟩
  · rw [if_neg h2] at h
    cases h
theorem law_freeN (KX : K.In s₁.heap) (names : s₁.heap.Ns mainGlobals mg) (bt : s₁.heap.Ns builtinsNs mb) (boot : ∀ y : Str, y ≠ "__name__" → mb y = bootBuiltins y) (nolim : s₁.heap.NoLimit) (nogen : s₁.gens = #[])
    (ha : s₁.heap.get? a = some { cls := .type "list", data := .seq vs.toArray }) (iv : IntsAre vs ns) (few : ns.length ≤ sizeLine) (hr : Room k callerA)
    (F : ∀ base : Heap, K.In base → base.Ns mainGlobals mg → FnG P w K mg base k fa fd [x] sp) (binds : ∀ (s : Shared) (u : Value), BindsTo s fd ⟨[u], []⟩ [(x, u)])
    (keep : ∀ H : Hp, Only H → SqL K H a (ns.map V.int) → sp [.ref a] H (fun v _ => v = .bl true) fun _ _ _ => False) :
    codeAny (model P w) callerA (.call (.ref fa) ⟨[.ref a], []⟩) (fun r s' => r = .ok (.ret (.bool true)) ∧ OldK s₁.heap s'.heap ∧ s'.os = s₁.os ∧ AllBare s'.gens) s₁ := by
  refine Hold.out ?_
  simp (disch := (
  refine Hold.as ?_
  with_unfolding_all (
  have rv := vals_ints iv
  obtain ⟨H, eH⟩ : ∃ H, H = alone K a { cls := .type "list", data := .seq vs.toArray } ns := ⟨_, rfl⟩
  have is := fun {b : Addr} {u : HO} (e : H b = some u) => alone_is (K := K) (a := a) (ns := ns) (by rw [← eH]; exact e)
  have script : SqL K H a (ns.map V.int) := by
    cases hk : K.lookup a with
    | some o =>
      have e := KX a o hk
      rw [ha] at e
      cases e
      exact .inr ⟨_, vs.toArray, _, hk, rfl, rfl, rfl, by rw [List.size_toArray, iv.length]; exact few, by simpa using rv⟩
    | none => exact .inl (.inr ⟨_, by rw [eH]; exact if_pos ⟨rfl, hk⟩⟩)
  have only : Only H := fun b => by
    cases e : H b with
    | none => exact .inl rfl
    | some u =>
      obtain ⟨_, _, rfl⟩ := is e
      exact .inr ⟨_, _, rfl⟩
  have holds : HOk P w H s₁.heap := fun b u z => by
    obtain ⟨rfl, _, rfl⟩ := is z
    exact ⟨ha, by rw [List.length_map]; exact few, vs, _, rv, ha⟩
  have stays : ∀ {b : Addr} {o : Obj}, s₁.heap.get? b = some o → (∀ zs n, o.data ≠ .seq zs n) → (hidT s₁.heap H).get? b = some o := fun {b o} e n1 => hidT_get e (by
    cases hu : H b with
    | none => rfl
    | some u =>
      obtain ⟨rfl, _, _⟩ := is hu
      rw [ha] at e
      cases e
      exact absurd rfl (n1 _ _))
  have spaces : ∀ {b : Addr} {m : Str → Option Value}, s₁.heap.Ns b m → (hidT s₁.heap H).Ns b m := fun ⟨o, es, n, e, d, r⟩ => ⟨o, es, n, stays e (fun _ _ z => by rw [d] at z; cases z), d, r⟩
  have frag : K.In (hidT s₁.heap H) := fun b o e => hidT_get (KX b o e) (by
    cases hu : H b with
    | none => rfl
    | some u =>
      obtain ⟨rfl, hk, _⟩ := is hu
      rw [hk] at e
      cases e)
  have mod : L2.Mod K mg (hidT s₁.heap H) := by
    obtain ⟨ml, l1, l2⟩ := nolim
    exact ⟨frag, spaces names, ⟨mb, spaces bt, boot⟩, ⟨ml, spaces l1, l2⟩⟩
  refine codeAny_mono ((F _ frag (spaces names)).run callerA [] s₁ H ⟨[.ref a], []⟩ [.ref a] [.ref a] _ _ rfl hr ⟨rfl, mod, fun b o e => of_hidT e, Nat.le_of_eq (hidT_size _ _), trivial, (fun b z => by cases z), holds, .of_eq nogen⟩ (binds s₁ (.ref a)) (.cons rfl .nil) (keep H only script)) fun r s' h => ?_
  match r, h with
  | .error _, h => exact h.elim
  | .ok .next, h => exact h.elim
  | .ok .brk, h => exact h.elim
  | .ok .cont, h => exact h.elim
  | .ok (.ret u), ⟨v, H', os, bare, un, ok', ru, q⟩ =>
    have q : v = .bl true := q
    subst q
    obtain rfl : u = Value.bool true := ru
    refine ⟨rfl, OldK.of_keep fun b o e => ?_, os, bare⟩
    cases hu : H b with
    | none => exact un.keep b o e hu (fun z => by cases z) (by simp)
    | some u =>
      obtain ⟨rfl, _, rfl⟩ := is hu
      have h1 := (holds _ _ hu).1
      have h2 := (ok' _ _ (un.frzs _ _ _ hu)).1
      rw [e] at h1
      cases h1
      exact h2))) only [↓Hold.on]
end
/-- the law's promise where no repr is under way, no table kept -/
def LawN (l : PySem.W.OpenLaw) (w : World) (K : PySem.W.Frag) (k : Nat) (x : Str) (mg : Str → Option Value) (fa : Addr) (h : Heap) : Prop :=
  ∃ fd : FuncData, (∀ (s : Shared) (u : Value), BindsTo s fd ⟨[u], []⟩ [(x, u)]) ∧ ∀ base : Heap, K.In base → base.Ns mainGlobals mg → FnG l.prog w K mg base k fa fd [x] (spI K P_law)
theorem walk_N {l : PySem.W.OpenLaw} {k : Nat} {p : Program} {loose : List Str} {XP : (Str → Option Value) → Heap → Prop} {YP : World → Heap → Prop} {d : DefRec} {x : Str}
    (most : l.most = some 63) (plain : d.params.defaults = []) (hr : Room k callerA)
    (F : ∀ (w : World) (mg : Str → Option Value) (fa : Addr) (h : Heap), YP w h → h.Ns mainGlobals mg → mg d.name = some (.ref fa) → ∃ K : PySem.W.Frag, K.In h ∧ LawN l w K k x mg fa h) :
    PySem.W.WalkO p loose XP YP l.row.toRowW d [] (fun f vs => PySem.call f vs) :=
  Att.attach_callB most plain fun w _ _ mg _ fa _ _ _ _ _ _ _ G Y _ _ _ at_ there iv len _ ng => by
    obtain ⟨K, KX, fd, hb, hF⟩ := F w mg fa _ Y G.T.g at_
    exact law_freeN KX G.T.g G.T.b G.T.builtins G.T.nolimit ng there iv (Nat.le_trans len (by decide)) hr hF hb fun H h1 h2 => law_start len h1 h2
end ZG
namespace Z
open PySem L2
def wh : D → Bool
  | .int _ => true
  | _ => false
/-- of a kind that can be asked for -/
def Kd (μ : M) (d : D) : Prop := ∃ n, tyn μ d = some n
theorem kd_int {μ : M} {i : Int} : Kd μ (.int i) := ⟨_, rfl⟩
theorem kd_tup {μ : M} {ds : List D} : Kd μ (.tup ds) := ⟨_, rfl⟩
theorem kd_non {μ : M} : Kd μ .non := ⟨_, rfl⟩
def wi (d : D) (lo hi : Int) : Bool := match d with
  | .int i => decide (lo ≤ i) && decide (i ≤ hi)
  | _ => false
def ir (d : D) (lo hi : Int) : Bool := match d with
  | .tup xs => decide (lo ≤ xs.length) && decide ((xs.length : Int) ≤ hi)
  | _ => false
def aw (d : D) (m : Int) : Bool := match d with
  | .tup xs => decide ((xs.length : Int) = m) && xs.all wh
  | _ => false
def pr (d : D) (w h l : Int) : Bool := match d with
  | .tup [.int x, .int y, .int f, .int g] => (decide (0 < x) && decide (x < w)) && (decide (0 < y) && decide (y < h)) && (decide (0 ≤ f) && decide (f ≤ g) && decide (g < l))
  | _ => false
/-- where a row of a pin stands -/
def spot : D → List Int
  | .tup (.int x :: .int y :: _) => [x, y]
  | _ => []
def ab (w h p l s : D) : Bool := wi w 2 1000000 && wi h 2 1000000 && wi l 1 3 && wi s 1 1000000 && (match w, h, p, l with
  | .int w, .int h, .tup rows, .int l => decide (rows.length ≤ 16) && rows.all (fun r => pr r w h l) && decide (rows.map spot).Nodup
  | _, _, _, _ => false)
theorem wh_int {d : D} (h : wh d = true) : ∃ i, d = .int i := by
  cases d <;> first | exact ⟨_, rfl⟩ | cases h
theorem wi_int {d : D} {lo hi : Int} (h : wi d lo hi = true) : ∃ i, d = .int i ∧ lo ≤ i ∧ i ≤ hi := by
  cases d <;> first | cases h | skip
  rename_i i
  simp only [wi, Bool.and_eq_true, decide_eq_true_eq] at h
  exact ⟨i, rfl, h⟩
theorem pr_int {d : D} {w h l : Int} (k : pr d w h l = true) : ∃ x y f g : Int, d = .tup [.int x, .int y, .int f, .int g] ∧ (0 < x ∧ x < w) ∧ (0 < y ∧ y < h) ∧ (0 ≤ f ∧ f ≤ g) ∧ g < l := by
  unfold pr at k
  split at k
  · simp only [Bool.and_eq_true, decide_eq_true_eq] at k
    exact ⟨_, _, _, _, rfl, k.1.1, k.1.2, k.2.1, k.2.2⟩
  · cases k
theorem aw_four {d : D} (h : aw d 4 = true) : ∃ x y f g : Int, d = .tup [.int x, .int y, .int f, .int g] := by
  unfold aw at h
  split at h
  · rename_i xs
    simp only [Bool.and_eq_true, decide_eq_true_eq, List.all_eq_true] at h
    obtain ⟨hl, ha⟩ := h
    match xs, hl with
    | [a, b, c, e], _ =>
      obtain ⟨x, rfl⟩ := wh_int (ha a (by simp))
      obtain ⟨y, rfl⟩ := wh_int (ha b (by simp))
      obtain ⟨f, rfl⟩ := wh_int (ha c (by simp))
      obtain ⟨g, rfl⟩ := wh_int (ha e (by simp))
      exact ⟨x, y, f, g, rfl⟩
    | [], e => simp at e
    | [_], e => simp at e
    | [_, _], e => simp at e
    | [_, _, _], e => simp at e
    | _ :: _ :: _ :: _ :: _ :: _, e => simp at e; omega
  · cases h
theorem aw_pr {d : D} {w h l : Int} (k : aw d 4 = false) : pr d w h l = false := by
  cases e : pr d w h l with
  | false => rfl
  | true =>
    obtain ⟨x, y, f, g, rfl, _⟩ := pr_int e
    simp [aw, wh] at k
theorem atI_map {α : Type} {f : α → D} {l : List α} {i : Int} {a : α} (h0 : 0 ≤ i) (h : l[i.toNat]? = some a) : atI (l.map f) i = some (f a) := by
  have hl := (List.getElem?_eq_some_iff.mp h).1
  unfold atI ixN
  rw [if_pos h0, if_pos (by rw [List.length_map]; omega), Option.bind_some, List.getElem?_map, h]
  rfl
end Z
namespace Tch
def ar (a b c : Int × Int) : Int := (b.1 - a.1) * (c.2 - a.2) - (b.2 - a.2) * (c.1 - a.1)
end Tch
namespace Z
open Tch
abbrev Pt := Int × Int
def spAt (sp : List Pt) (p : Int) : Pt := sp.getD p.toNat (0, 0)
/-- whether c lies on the piece from a to b -/
def btw (a b c : Pt) : Bool := decide (ar a b c = 0) && (decide (min a.1 b.1 ≤ c.1) && decide (c.1 ≤ max a.1 b.1)) && (decide (min a.2 b.2 ≤ c.2) && decide (c.2 ≤ max a.2 b.2))
/-- whether two pieces cross properly -/
def crs (a b c d : Pt) : Bool := decide (sgn (ar a b c) * sgn (ar a b d) < 0) && decide (sgn (ar c d a) * sgn (ar c d b) < 0)
def dist (sp : List Pt) (g : Pt) : Int := ((spAt sp g.2).1 - (spAt sp g.1).1) ^ 2 + ((spAt sp g.2).2 - (spAt sp g.1).2) ^ 2
def gkey (sp : List Pt) (g : Pt) : Int × Int × Int := (dist sp g, g.1, g.2)
def hits (sp : List Pt) (pins : List Int) (g : Pt) : Bool := pins.any fun r => !(decide (r = g.1) || decide (r = g.2)) && btw (spAt sp g.1) (spAt sp g.2) (spAt sp r)
def crsG (sp : List Pt) (g g' : Pt) : Bool := crs (spAt sp g.1) (spAt sp g.2) (spAt sp g'.1) (spAt sp g'.2)
def stepG (sp : List Pt) (pins : List Int) (found : List Pt) (g : Pt) : List Pt := if !hits sp pins g && !found.any (fun g' => crsG sp g g') then found ++ [g] else found
def pairsOf (pins : List Int) : List Pt := pins.flatMap fun p => (pins.filter fun q => decide (p < q)).map fun q => (p, q)
def srtG (sp : List Pt) (l : List Pt) : List Pt := l.mergeSort fun a b => !lt3 (gkey sp b) (gkey sp a)
def foundG (sp : List Pt) (pins : List Int) (l : List Pt) : List Pt := l.foldl (stepG sp pins) []
def gatesOf (sp : List Pt) (pins : List Int) : List Pt := (foundG sp pins (srtG sp (pairsOf pins))).mergeSort leP
abbrev encG (g : Pt) : D := pt g.1 g.2
abbrev R4 := Int × Int × Int × Int
abbrev encR (r : R4) : D := .tup [.int r.1, .int r.2.1, .int r.2.2.1, .int r.2.2.2]
/-- where the pins of a board are -/
def spots (w h : Int) (rows : List R4) : List (Int × Int) := [(0, 0), (w, 0), (w, h), (0, h)] ++ rows.map fun r => (r.1, r.2.1)
abbrev encS (p : Int × Int) : D := pt p.1 p.2
/-- whether a row of a pin is on a layer -/
def onL (lv : Int) (r : R4) : Bool := decide (r.2.2.1 ≤ lv) && decide (lv ≤ r.2.2.2)
def pinsFrom (lv : Int) : Int → List R4 → List Int
  | _, [] => []
  | k, r :: rs => if onL lv r = true then k :: pinsFrom lv (k + 1) rs else pinsFrom lv (k + 1) rs
/-- the pins of a layer -/
def pinsOf (rows : List R4) (lv : Int) : List Int := [0, 1, 2, 3] ++ pinsFrom lv 4 rows
/-- whether a three is not in line and no pin lies within -/
def emptyT (sp : List Pt) (pins : List Int) (t : Int × Int × Int) : Bool :=
  let s := sgn (ar (spAt sp t.1) (spAt sp t.2.1) (spAt sp t.2.2))
  !decide (s = 0) && pins.all fun r => !(decide (sgn (ar (spAt sp t.1) (spAt sp t.2.1) (spAt sp r)) = s) && (decide (sgn (ar (spAt sp t.2.1) (spAt sp t.2.2) (spAt sp r)) = s) && decide (sgn (ar (spAt sp t.2.2) (spAt sp t.1) (spAt sp r)) = s)))
def trisOf (sp : List Pt) (pins : List Int) (gates : List Pt) : List (Int × Int × Int) :=
  gates.flatMap fun g => ((pins.filter fun r => decide (g.2 < r) && (decide ((g.1, r) ∈ gates) && decide ((g.2, r) ∈ gates))).map fun r => (g.1, g.2, r)).filter (emptyT sp pins)
abbrev encT (t : Int × Int × Int) : D := t3 t.1 t.2.1 t.2.2
abbrev gOf (w h : Int) (rows : List R4) (lv : Int) : List Pt := gatesOf (spots w h rows) (pinsOf rows lv)
abbrev gatesD (w h : Int) (rows : List R4) (lv : Int) : D := .tup ((gOf w h rows lv).map encG)
abbrev trisD (w h : Int) (rows : List R4) (lv : Int) : D := .tup ((trisOf (spots w h rows) (pinsOf rows lv) (gOf w h rows lv)).map encT)
/-- layers that are kept -/
def Lvs (l : Int) (gl : List Int) : Prop := gl.Nodup ∧ ∀ v ∈ gl, 0 ≤ v ∧ v < l
theorem lvs_nil {l : Int} : Lvs l [] := ⟨List.nodup_nil, fun _ h => (by cases h)⟩
end Z
namespace W
open PySem L2 Z
local macro_rules | `(tactic| walk_at "z1") => `(tactic| (refine ⟨Nat.le_of_ble_eq_true rfl, ?_⟩))
local macro_rules | `(tactic| walk_at "z1") => `(tactic| ((with_reducible refine ⟨_, _, _, rfl, ?_⟩); walk_at "nf"))
local macro_rules | `(tactic| walk_at "z1") => `(tactic| ((with_reducible refine ⟨_, _, rfl, ?_⟩); walk_at "nf"))
local macro_rules | `(tactic| walk_at "z1") => `(tactic| (with_reducible refine ⟨_, rfl, ?_⟩))
local macro_rules | `(tactic| walk_at "z1") => `(tactic| ((with_reducible refine rc_isi (n := ?zn) (b := ?zb) ?zs ?zk ?_); (case zs => rfl); (case zk => first | rfl | decide +kernel)))
local macro_rules | `(tactic| walk_at "z1") => `(tactic| ((with_reducible refine rc_len (ds := ?zd) ?zs ?_); (case zs => walk_at "seq")))
local macro_rules | `(tactic| walk_at "z1") => `(tactic| (with_reducible refine rc_max ?_))
local macro_rules | `(tactic| walk_at "z1") => `(tactic| (with_reducible refine rc_min ?_))
local macro_rules | `(tactic| walk_at "z1") => `(tactic| (with_reducible refine rc_abs ?_))
local macro_rules | `(tactic| walk_at "z1") => `(tactic| (with_reducible refine rc_intI ?_))
local macro_rules | `(tactic| walk_at "z1") => `(tactic| (with_reducible refine rc_intB ?_))
local macro_rules | `(tactic| walk_at "z1") => `(tactic| (with_reducible refine ro_neB ?_))
local macro_rules | `(tactic| walk_at "z1") => `(tactic| (with_reducible refine ro_eqB ?_))
local macro_rules | `(tactic| walk_at "z1") => `(tactic| (with_reducible refine ro_neI ?_))
local macro_rules | `(tactic| walk_at "z1") => `(tactic| (with_reducible refine ro_eqI ?_))
local macro_rules | `(tactic| walk_at "z1") => `(tactic| (with_reducible refine ro_notB ?_))
local macro_rules | `(tactic| walk_at "z1") => `(tactic| (with_reducible refine ro_notN ?_))
local macro_rules | `(tactic| walk_at "z1") => `(tactic| (with_reducible refine ro_isN ?_))
local macro_rules | `(tactic| walk_at "z1") => `(tactic| (with_reducible refine ro_isB ?_))
local macro_rules | `(tactic| walk_at "z1") => `(tactic| ((with_reducible refine ro_inS (ds := ?zd) ?zs ?h1 ?h2 ?_); (case zs => walk_at "seq"); (case h1 => rfl); (case h2 => rfl); (try simp only [if_true, if_false, Bool.false_eq_true])))
local macro_rules | `(tactic| walk_at "z1") => `(tactic| ((with_reducible refine ro_neD ?h1 ?h2 ?_); (case h1 => rfl); (case h2 => rfl)))
local macro_rules | `(tactic| walk_at "z1") => `(tactic| ((with_reducible refine ro_eqD ?h1 ?h2 ?_); (case h1 => rfl); (case h2 => rfl)))
local macro_rules | `(tactic| walk_at "z1") => `(tactic| (with_reducible refine iteNF ?_))
local macro_rules | `(tactic| walk_at "z1") => `(tactic| (with_reducible refine iteNT ?_))
local macro_rules | `(tactic| walk_at "z1") => `(tactic| (with_reducible refine iteF ?_))
local macro_rules | `(tactic| walk_at "z1") => `(tactic| (with_reducible refine iteT ?_))
local macro_rules | `(tactic| walk_at "z1") => `(tactic| ((with_reducible refine ro_cat (ds := ?zd) (es := ?ze) ?zs ?zt ?zl ?_); (case zs => walk_at "mu"); (case zt => walk_at "mu"); (case zl => exact Nat.le_of_ble_eq_true rfl)))
local macro_rules | `(tactic| walk_at "z1") => `(tactic| ((with_reducible refine ro_catA ?zl ?_); (case zl => exact Nat.le_of_ble_eq_true rfl)))
local macro_rules | `(tactic| walk_at "z1") => `(tactic| (with_reducible refine rs_tupA ?_))
local macro_rules | `(tactic| walk_at "z1") => `(tactic| (with_reducible refine rs_rol ?_))
local macro_rules | `(tactic| walk_at "z1") => `(tactic| ((with_reducible refine rs_ref (ds := ?zd) ?zs ?_); (case zs => walk_at "mu")))
local macro_rules | `(tactic| walk_at "z1") => `(tactic| (with_reducible refine ao_pt ?_))
local macro_rules | `(tactic| walk_at "z1") => `(tactic| (with_reducible refine ao_no ?_))
local macro_rules | `(tactic| walk_at "z1") => `(tactic| (with_reducible refine a_sl ?_))
local macro_rules | `(tactic| walk_at "z1") => `(tactic| ((with_reducible refine set_lst (ds := ?zd) (j := ?zj) ?zs ?zi ?_); (case zs => walk_at "mu"); (case zi => rfl); walk_at "nf"))
local macro_rules | `(tactic| walk_at "z1") => `(tactic| ((with_reducible refine ro_ix (ds := ?zd) (e := ?ze) ?zs ?zi ?_); (case zs => walk_at "seq"); (case zi => rfl)))
local macro_rules | `(tactic| walk_at "z1") => `(tactic| ((with_reducible refine ro_c ?zc ?_); (case zc => walk_at "cond")))
local macro_rules | `(tactic| walk_at "z1") => `(tactic| ((with_reducible refine ro_c (C := CPow) ?zc ?_); (case zc => walk_at "cond"); walk_at "nf"))
local macro_rules | `(tactic| walk_at "z1") => `(tactic| (with_reducible refine ro_b ?_))
local macro_rules | `(tactic| walk_at "z1") => `(tactic| (with_reducible refine ru_i ?_))
local macro_rules | `(tactic| walk_at "z1") => `(tactic| (with_reducible refine ro_i ?_))
local macro_rules | `(tactic| walk_at "z1") => `(tactic| (with_reducible refine g_sub ?_))
local macro_rules | `(tactic| walk_at "z1") => `(tactic| (with_reducible refine s_if ?_))
local macro_rules | `(tactic| walk_at "z1") => `(tactic| (with_reducible refine a_chain3 ?_))
local macro_rules | `(tactic| walk_at "z1") => `(tactic| (with_reducible refine a_chain ?_))
local macro_rules | `(tactic| walk_at "z1") => `(tactic| (with_reducible refine at_yes ?_))
local macro_rules | `(tactic| walk_at "z1") => `(tactic| (with_reducible refine at_not ?_))
local macro_rules | `(tactic| walk_at "z1") => `(tactic| (with_reducible refine at_or ?_))
local macro_rules | `(tactic| walk_at "z1") => `(tactic| (with_reducible refine at_and ?_))
local macro_rules | `(tactic| walk_at "z1") => `(tactic| (with_reducible refine at_B ?_))
local macro_rules | `(tactic| walk_at "z1") => `(tactic| (with_reducible refine at_test ?_))
local macro_rules | `(tactic| walk_at "z1") => `(tactic| (with_reducible refine a_notV ?_))
local macro_rules | `(tactic| walk_at "z1") => `(tactic| (with_reducible refine a_orV ?_))
local macro_rules | `(tactic| walk_at "z1") => `(tactic| (with_reducible refine a_andV ?_))
local macro_rules | `(tactic| walk_at "z1") => `(tactic| (with_reducible refine a_if ?_))
local macro_rules | `(tactic| walk_at "z1") => `(tactic| (with_reducible refine rc_max3 ?_))
local macro_rules | `(tactic| walk_at "z1") => `(tactic| (with_reducible refine a_methI ?_))
local macro_rules | `(tactic| walk_at "z1") => `(tactic| (with_reducible refine a_methX ?_))
local macro_rules | `(tactic| walk_at "z1") => `(tactic| (with_reducible refine a_callX ?_))
local macro_rules | `(tactic| walk_at "z1") => `(tactic| (with_reducible refine a_call ?_))
local macro_rules | `(tactic| walk_at "z1") => `(tactic| (with_reducible refine a_cb ?_))
local macro_rules | `(tactic| walk_at "z1") => `(tactic| ((with_reducible refine a_lenSc (dec := ?zd) ?zt ?_); (case zt => first | exact tg_4 | exact tg_2 | exact tg_3 | exact tg_name)))
local macro_rules | `(tactic| walk_at "z1") => `(tactic| ((with_reducible refine a_lst ?_)))
local macro_rules | `(tactic| walk_at "z1") => `(tactic| ((with_reducible refine a_tup ?_)))
local macro_rules | `(tactic| walk_at "z1") => `(tactic| (with_reducible refine aa_nil ?_))
local macro_rules | `(tactic| walk_at "z1") => `(tactic| (with_reducible refine aa_cons ?_))
local macro_rules | `(tactic| walk_at "z1") => `(tactic| (with_reducible refine a_un ?_))
local macro_rules | `(tactic| walk_at "z1") => `(tactic| (with_reducible refine a_op ?_))
local macro_rules | `(tactic| walk_at "z1") => `(tactic| (with_reducible refine ro_neS ?_))
local macro_rules | `(tactic| walk_at "z1") => `(tactic| (with_reducible refine a_revT ?_))
local macro_rules | `(tactic| walk_at "z1") => `(tactic| (with_reducible refine a_cref ?_))
local macro_rules | `(tactic| walk_at "z1") => `(tactic| (with_reducible refine a_ty ?_))
local macro_rules | `(tactic| walk_at "z1") => `(tactic| (with_reducible refine a_non ?_))
local macro_rules | `(tactic| walk_at "z1") => `(tactic| (with_reducible refine a_str ?_))
local macro_rules | `(tactic| walk_at "z1") => `(tactic| (with_reducible refine a_bl ?_))
local macro_rules | `(tactic| walk_at "z1") => `(tactic| (with_reducible refine a_int ?_))
local macro_rules | `(tactic| walk_at "z1") => `(tactic| ((with_reducible refine a_var (d := ?zd) ?zh ?_); (case zh => rfl)))
local macro_rules | `(tactic| walk_at "z1") => `(tactic| ((with_reducible refine s_aug (d := ?zd) ?zh ?_); (case zh => rfl)))
local macro_rules | `(tactic| walk_at "z1") => `(tactic| ((with_reducible refine gs_nil ?_); (try dsimp only)))
local macro_rules | `(tactic| walk_at "z1") => `(tactic| (with_reducible refine gs_cons ?_))
local macro_rules | `(tactic| walk_at "z1") => `(tactic| ((with_reducible refine g_tup ?zn ?_); (case zn => rfl)))
local macro_rules | `(tactic| walk_at "z1") => `(tactic| ((with_reducible refine g_name ?_); walk_at "nf"))
local macro_rules | `(tactic| walk_at "z1") => `(tactic| (with_reducible refine s_par3 ?_))
local macro_rules | `(tactic| walk_at "z1") => `(tactic| (with_reducible refine s_par ?_))
local macro_rules | `(tactic| walk_at "z1") => `(tactic| ((with_reducible refine s_retN ?_); (try dsimp only)))
local macro_rules | `(tactic| walk_at "z1") => `(tactic| (with_reducible refine s_drop ?_))
local macro_rules | `(tactic| walk_at "z1") => `(tactic| ((with_reducible refine s_dropX ?_); (first | refine x_meth ?_ | refine x_call ?_)))
local macro_rules | `(tactic| walk_at "z1") => `(tactic| ((with_reducible refine s_next ?_); (try dsimp only)))
local macro_rules | `(tactic| walk_at "z1") => `(tactic| ((with_reducible refine s_ret ?_); (try dsimp only)))
local macro_rules | `(tactic| walk_at "z1") => `(tactic| (with_reducible refine s_asg ?_))
local macro_rules | `(tactic| walk_at "z1") => `(tactic| ((with_reducible refine s_asgX ?_); (first | refine x_meth ?_ | refine x_call ?_)))
local macro_rules | `(tactic| walk_at "z1") => `(tactic| (with_reducible refine s_seq ?_))
local macro_rules | `(tactic| walk_at "z1") => `(tactic| (with_reducible refine aj_nil ?_))
local macro_rules | `(tactic| walk_at "z1") => `(tactic| (with_reducible refine a_js ?_))
local macro_rules | `(tactic| walk_at "z1") => `(tactic| ((with_reducible refine ro_addS ?zh ?_); (case zh => walk_at "txt")))
local macro_rules | `(tactic| walk_at "z1") => `(tactic| ((with_reducible refine rs_str ?zh ?_); (case zh => walk_at "txt")))
local macro_rules | `(tactic| walk_at "z1") => `(tactic| ((with_reducible refine a_revS ?zh ?_); (case zh => walk_at "txt")))
local macro_rules | `(tactic| walk_at "z1") => `(tactic| (with_reducible refine ro_inSg ?_))
local macro_rules | `(tactic| walk_at "z1") => `(tactic| ((with_reducible refine rc_lenS ?zh ?_); (case zh => walk_at "txt")))
local macro_rules | `(tactic| walk_at "z1") => `(tactic| (with_reducible refine ro_eqS ?_))
local macro_rules | `(tactic| walk_at "mu") => `(tactic| first
  | assumption
  | exact set_same
  | (refine Eq.trans (set_ne ?_) ?_; (first | assumption | (apply Ne.symm; assumption) | (intro h; subst h; simp_all)); walk_at "mu"))
local macro_rules | `(tactic| walk_at "seq") => `(tactic| first
  | rfl
  | (refine seq_ref ?_; walk_at "mu"))
local macro_rules | `(tactic| walk_at "sz") => `(tactic| first
  | assumption
  | (refine sz_2 ?_; decide)
  | (refine sz_8 ?_; decide)
  | (refine sz_32 ?_; decide)
  | (refine sz_128 ?_; decide +kernel)
  | ((with_reducible refine sz_add (a := ?a) (b := ?b) ?h ?k); (case h => walk_at "sz"); (case k => walk_at "sz"))
  | ((with_reducible refine sz_sub (a := ?a) (b := ?b) ?h ?k); (case h => walk_at "sz"); (case k => walk_at "sz"))
  | ((with_reducible refine sz_mul (a := ?a) (b := ?b) ?h ?k); (case h => walk_at "sz"); (case k => walk_at "sz"))
  | ((with_reducible refine sz_neg ?_) <;> walk_at "sz")
  | with_reducible exact sz_b
  | ((with_reducible refine sz_mod ?h1 ?h2); (case h1 => omega); (case h2 => walk_at "sz")))
local macro_rules | `(tactic| walk_at "szN") => `(tactic| first
  | assumption
  | (refine sz_mono (a := ?a) ?h ?l; (case h => walk_at "sz"); (case l => first | decide | omega)))
local macro_rules | `(tactic| walk_at "cond") => `(tactic| first
  | assumption
  | (refine mulw_of (a := ?a) (b := ?b) ?h ?k ?l; (case h => walk_at "sz"); (case k => walk_at "sz"); (case l => first | decide | omega))
  | (refine divw_of (b := ?b) ?h ?k ?l; (case h => omega); (case k => walk_at "sz"); (case l => first | decide | omega))
  | (show (0 : Int) < _; first | assumption | omega | decide)
  | (refine ⟨?_, ?_, ?_⟩ <;> first | assumption | decide | omega))
local macro_rules | `(tactic| walk_at "nf") => `(tactic| ((try simp only [List.set_cons_zero, List.set_cons_succ, Int.reduceToNat, Int.reducePow]); (try dsimp only)))
local macro_rules | `(tactic| walk_at "go") => `(tactic| repeat (walk_at "z1"))
local macro_rules | `(tactic| walk_at "txt") => `(tactic| first
  | assumption
  | (exact lng_line (by assumption))
  | (exact Nat.le_of_ble_eq_true rfl))
def top (i : Nat) : Stmt := PySem.Challenge.pw_rubberroutes_k06_what_is_no_board.main.body.getD i (.Pass ⟨0, 0, 0, 0⟩)
abbrev s_is_whole : Stmt := top 8
abbrev N_is_whole : List Str := ["thing"]
theorem sc_is_whole : FnScope N_is_whole ["thing"] (defScope s_is_whole) := ⟨rfl, rfl, rfl, by decide +kernel, rfl, by decide +kernel, by decide +kernel⟩
abbrev s_is_within : Stmt := top 9
abbrev N_is_within : List Str := ["thing", "least", "most"]
theorem sc_is_within : FnScope N_is_within ["thing", "least", "most"] (defScope s_is_within) := ⟨rfl, rfl, rfl, by decide +kernel, rfl, by decide +kernel, by decide +kernel⟩
abbrev s_is_row : Stmt := top 10
abbrev N_is_row : List Str := ["thing", "least", "most"]
theorem sc_is_row : FnScope N_is_row ["thing", "least", "most"] (defScope s_is_row) := ⟨rfl, rfl, rfl, by decide +kernel, rfl, by decide +kernel, by decide +kernel⟩
abbrev s_are_whole : Stmt := top 11
abbrev N_are_whole : List Str := ["thing", "many", "one"]
theorem sc_are_whole : FnScope N_are_whole ["thing", "many"] (defScope s_are_whole) := ⟨rfl, rfl, rfl, by decide +kernel, rfl, by decide +kernel, by decide +kernel⟩
abbrev s_is_pin_row : Stmt := top 23
abbrev N_is_pin_row : List Str := ["thing", "width", "height", "layers", "x", "y", "first", "last"]
theorem sc_is_pin_row : FnScope N_is_pin_row ["thing", "width", "height", "layers"] (defScope s_is_pin_row) := ⟨rfl, rfl, rfl, by decide +kernel, rfl, by decide +kernel, by decide +kernel⟩
abbrev s_are_board : Stmt := top 24
abbrev N_are_board : List Str := ["width", "height", "pins", "layers", "spacing", "row", "x", "y", "first", "last"]
theorem sc_are_board : FnScope N_are_board ["width", "height", "pins", "layers", "spacing"] (defScope s_are_board) := ⟨rfl, rfl, rfl, by decide +kernel, rfl, by decide +kernel, by decide +kernel⟩
abbrev s_board_init : Stmt := inClass (top 25) 0
abbrev N_board_init : List Str := ["self", "width", "height", "pins", "layers", "spacing", "row"]
theorem sc_board_init : FnScope N_board_init ["self", "width", "height", "pins", "layers", "spacing"] (defScope s_board_init) := ⟨rfl, rfl, rfl, by decide +kernel, rfl, by decide +kernel, by decide +kernel⟩
abbrev s_board_look_pin : Stmt := inClass (top 25) 6
abbrev N_board_look_pin : List Str := ["self", "number"]
theorem sc_board_look_pin : FnScope N_board_look_pin ["self", "number"] (defScope s_board_look_pin) := ⟨rfl, rfl, rfl, by decide +kernel, rfl, by decide +kernel, by decide +kernel⟩
abbrev s_l_cell_at : Stmt := top 27
abbrev N_l_cell_at : List Str := ["_law_script", "_law_k"]
theorem sc_l_cell_at : FnScope N_l_cell_at ["_law_script", "_law_k"] (defScope s_l_cell_at) := ⟨rfl, rfl, rfl, by decide +kernel, rfl, by decide +kernel, by decide +kernel⟩
abbrev s_l_bag : Stmt := top 28
abbrev N_l_bag : List Str := ["_law_script", "_law_at", "_law_primes", "_law_cell", "_law_mix", "_law_k", "_law_one"]
theorem sc_l_bag : FnScope N_l_bag ["_law_script", "_law_at"] (defScope s_l_bag) := ⟨rfl, rfl, rfl, by decide +kernel, rfl, by decide +kernel, by decide +kernel⟩
abbrev s_l_take : Stmt := top 29
abbrev N_l_take : List Str := ["_law_bag_here", "_law_many", "_law_digit"]
theorem sc_l_take : FnScope N_l_take ["_law_bag_here", "_law_many"] (defScope s_l_take) := ⟨rfl, rfl, rfl, by decide +kernel, rfl, by decide +kernel, by decide +kernel⟩
abbrev s_l_made : Stmt := top 31
abbrev N_l_made : List Str := ["_law_bag_here", "_law_most", "_law_way", "_law_wide", "_law_high", "_law_scale", "_law_row", "_law_floors", "_law_pins_here", "_law_k", "_law_spot", "_law_low", "_law_rows"]
theorem sc_l_made : FnScope N_l_made ["_law_bag_here", "_law_most"] (defScope s_l_made) := ⟨rfl, rfl, rfl, by decide +kernel, rfl, by decide +kernel, by decide +kernel⟩
abbrev s_board_made_of : Stmt := inClass (top 25) 5
abbrev N_board_made_of : List Str := ["self"]
theorem sc_board_made_of : FnScope N_board_made_of ["self"] (defScope s_board_made_of) := ⟨rfl, rfl, rfl, by decide +kernel, rfl, by decide +kernel, by decide +kernel⟩
abbrev s_l_whole : Stmt := top 30
abbrev N_l_whole : List Str := ["_law_thing"]
theorem sc_l_whole : FnScope N_l_whole ["_law_thing"] (defScope s_l_whole) := ⟨rfl, rfl, rfl, by decide +kernel, rfl, by decide +kernel, by decide +kernel⟩
abbrev s_l_is_pin : Stmt := top 35
abbrev N_l_is_pin : List Str := ["_law_thing", "_law_made_here", "_law_number"]
theorem sc_l_is_pin : FnScope N_l_is_pin ["_law_thing", "_law_made_here"] (defScope s_l_is_pin) := ⟨rfl, rfl, rfl, by decide +kernel, rfl, by decide +kernel, by decide +kernel⟩
abbrev s_l_is_made : Stmt := top 36
abbrev N_l_is_made : List Str := ["_law_made_here", "_law_place", "_law_most", "_law_spots", "_law_row", "_law_spot"]
theorem sc_l_is_made : FnScope N_l_is_made ["_law_made_here"] (defScope s_l_is_made) := ⟨rfl, rfl, rfl, by decide +kernel, rfl, by decide +kernel, by decide +kernel⟩
abbrev s_l_odd : Stmt := top 37
abbrev N_l_odd : List Str := ["_law_bag_here", "_law_odd_here"]
theorem sc_l_odd : FnScope N_l_odd ["_law_bag_here"] (defScope s_l_odd) := ⟨rfl, rfl, rfl, by decide +kernel, rfl, by decide +kernel, by decide +kernel⟩
abbrev s_l_is_refused : Stmt := top 40
abbrev N_l_is_refused : List Str := ["_law_made_here", "e"]
theorem sc_l_is_refused : FnScope N_l_is_refused ["_law_made_here"] (defScope s_l_is_refused) := ⟨rfl, rfl, rfl, by decide +kernel, rfl, by decide +kernel, by decide +kernel⟩
abbrev s_l_told : Stmt := top 41
abbrev N_l_told : List Str := ["_law_made_here"]
theorem sc_l_told : FnScope N_l_told ["_law_made_here"] (defScope s_l_told) := ⟨rfl, rfl, rfl, by decide +kernel, rfl, by decide +kernel, by decide +kernel⟩
abbrev s_l_bent_pin : Stmt := top 38
abbrev N_l_bent_pin : List Str := ["_law_bag_here", "_law_row", "_law_made_here", "_law_way", "_law_spot", "_law_more", "_law_edges", "_law_other"]
theorem sc_l_bent_pin : FnScope N_l_bent_pin ["_law_bag_here", "_law_row", "_law_made_here"] (defScope s_l_bent_pin) := ⟨rfl, rfl, rfl, by decide +kernel, rfl, by decide +kernel, by decide +kernel⟩
abbrev s_l_bent : Stmt := top 39
abbrev N_l_bent : List Str := ["_law_bag_here", "_law_made_here", "_law_way", "_law_rows", "_law_at", "_law_place", "_law_more", "_law_wide", "_law_k"]
theorem sc_l_bent : FnScope N_l_bent ["_law_bag_here", "_law_made_here"] (defScope s_l_bent) := ⟨rfl, rfl, rfl, by decide +kernel, rfl, by decide +kernel, by decide +kernel⟩
abbrev s_law : Stmt := top 42
abbrev N_law : List Str := ["_law_script", "_law_k", "_law_bag_here", "_law_made_here", "_law_turn", "_law_bent_here", "_law_shown"]
theorem sc_law : FnScope N_law ["_law_script"] (defScope s_law) := ⟨rfl, rfl, rfl, by decide +kernel, rfl, by decide +kernel, by decide +kernel⟩
abbrev s_nopin_init : Stmt := inClass (top 5) 0
abbrev N_nopin_init : List Str := ["self", "pin"]
theorem sc_nopin_init : FnScope N_nopin_init ["self", "pin"] (defScope s_nopin_init) := ⟨rfl, rfl, rfl, by decide +kernel, rfl, by decide +kernel, by decide +kernel⟩
abbrev s_nolayer_init : Stmt := inClass (top 6) 0
abbrev N_nolayer_init : List Str := ["self", "layer"]
theorem sc_nolayer_init : FnScope N_nolayer_init ["self", "layer"] (defScope s_nolayer_init) := ⟨rfl, rfl, rfl, by decide +kernel, rfl, by decide +kernel, by decide +kernel⟩
open PySem.W in
def ex0 (K : Frag) : List Bool :=
 [decide (nsIn K mainGlobals "Board" = some (some (.ref (He.ga K "Board")))),
 plainGet K (He.ga K "Board") Str.empty,
 hasDictIn K (He.ga K "Board"),
 plainOver K (He.ga K "Board"),
 decide (findIn K (.ref (He.ga K "Board")) "__setattr__" = some (some (.builtin "object.__setattr__"))),
 decide (findIn K (.ref (He.ga K "Board")) "wide" = some none),
 decide (findIn K (.ref (He.ga K "Board")) "high" = some none),
 decide (findIn K (.ref (He.ga K "Board")) "pin_rows" = some none),
 decide (findIn K (.ref (He.ga K "Board")) "layer_count" = some none),
 decide (findIn K (.ref (He.ga K "Board")) "apart_by" = some none),
 decide (findIn K (.ref (He.ga K "Board")) "spots" = some none),
 decide (findIn K (.ref (He.ga K "Board")) "kept_gates" = some none),
 decide (findIn K (.ref (He.ga K "Board")) "kept_triangles" = some none),
 makesIn K (He.ga K "Board"),
 keepIn K (.ref (He.ga K "Board")),
 decide (nsIn K mainGlobals "NoBoard" = some (some (.ref (He.ga K "NoBoard")))),
 keepIn K (.ref (He.ga K "NoBoard")),
 decide (subIn K (.ref (He.ga K "NoBoard")) (.type "BaseException") = some true),
 decide (typeIn K (.ref (He.ga K "NoBoard")) = some (.type "type")),
 isClsIn K (He.ga K "NoBoard"),
 excIn K (He.ga K "NoBoard") [.type "ValueError", .type "Exception", .type "BaseException", .type "object"] "ValueError.__new__",
 decide (nsIn K mainGlobals "NoPin" = some (some (.ref (He.ga K "NoPin")))),
 keepIn K (.ref (He.ga K "NoPin")),
 decide (subIn K (.ref (He.ga K "NoPin")) (.type "BaseException") = some true),
 decide (typeIn K (.ref (He.ga K "NoPin")) = some (.type "type")),
 HX.excB K (He.ga K "NoPin") XO.tlIE "IndexError.__new__",
 decide (findIn K (.ref (He.ga K "NoPin")) "__setattr__" = some (some (.builtin "object.__setattr__"))),
 decide (findIn K (.ref (He.ga K "NoPin")) "__getattribute__" = some (some (.builtin "BaseException.__getattribute__"))),
 decide (findIn K (.ref (He.ga K "NoPin")) "__getattr__" = some none),
 decide (findIn K (.ref (He.ga K "NoPin")) "pin" = some none),
 hasDictIn K (He.ga K "NoPin"),
 decide (findIn K (.ref (He.ga K "NoPin")) "__init__" = some (some (.ref (He.fAd K ("NoPin", some "__init__"))))),
 decide (typeIn K (.ref (He.fAd K ("NoPin", some "__init__"))) = some (.type "function")),
 decide (nsIn K mainGlobals "NoLayer" = some (some (.ref (He.ga K "NoLayer")))),
 keepIn K (.ref (He.ga K "NoLayer")),
 decide (subIn K (.ref (He.ga K "NoLayer")) (.type "BaseException") = some true),
 decide (typeIn K (.ref (He.ga K "NoLayer")) = some (.type "type")),
 HX.excB K (He.ga K "NoLayer") XO.tlIE "IndexError.__new__",
 decide (findIn K (.ref (He.ga K "NoLayer")) "__setattr__" = some (some (.builtin "object.__setattr__"))),
 decide (findIn K (.ref (He.ga K "NoLayer")) "__getattribute__" = some (some (.builtin "BaseException.__getattribute__")))]
open PySem.W in
def ex1 (K : Frag) : List Bool :=
 [decide (findIn K (.ref (He.ga K "NoLayer")) "__getattr__" = some none),
 decide (findIn K (.ref (He.ga K "NoLayer")) "layer" = some none),
 hasDictIn K (He.ga K "NoLayer"),
 decide (findIn K (.ref (He.ga K "NoLayer")) "__init__" = some (some (.ref (He.fAd K ("NoLayer", some "__init__"))))),
 decide (typeIn K (.ref (He.fAd K ("NoLayer", some "__init__"))) = some (.type "function")),
 decide (subIn K (.ref (He.ga K "NoBoard")) (.ref (He.ga K "NoBoard")) = some true),
 decide (subIn K (.ref (He.ga K "NoPin")) (.ref (He.ga K "NoBoard")) = some false),
 decide (subIn K (.ref (He.ga K "NoLayer")) (.ref (He.ga K "NoBoard")) = some false),
 decide (nsIn K mainGlobals "BoardError" = some (some (.ref (He.ga K "BoardError")))),
 decide (nsIn K mainGlobals "NoText" = some (some (.ref (He.ga K "NoText")))),
 decide (findIn K (.ref (He.ga K "NoBoard")) "__getattribute__" = some (some (.builtin "BaseException.__getattribute__"))),
 decide (findIn K (.ref (He.ga K "NoBoard")) "__getattr__" = some none),
 hasDictIn K (He.ga K "NoBoard"),
 decide (findIn K (.ref (He.ga K "NoBoard")) "__class__" = some (some (.builtin "object.__class__"))),
 decide (specialIn K (.builtin "object.__class__") "__get__" = some (some (.builtin "getset_descriptor.__get__"))),
 decide (takesIn K (.builtin "object.__class__") = some true),
 decide (mroIn K (He.ga K "NoBoard") (.type "object") = some true),
 decide (subIn K (.ref (He.ga K "NoBoard")) (.ref (He.ga K "NoBoard")) = some true),
 isClsIn K (He.ga K "BoardError"),
 decide (typeIn K (.ref (He.ga K "BoardError")) = some (.type "type")),
 isClsIn K (He.ga K "NoLayer"),
 decide (typeIn K (.ref (He.ga K "NoLayer")) = some (.type "type")),
 isClsIn K (He.ga K "NoPin"),
 decide (typeIn K (.ref (He.ga K "NoPin")) = some (.type "type")),
 isClsIn K (He.ga K "NoText"),
 decide (typeIn K (.ref (He.ga K "NoText")) = some (.type "type")),
 decide (subIn K (.ref (He.ga K "NoBoard")) (.ref (He.ga K "BoardError")) = some true),
 decide (subIn K (.ref (He.ga K "NoBoard")) (.ref (He.ga K "NoLayer")) = some false),
 decide (subIn K (.ref (He.ga K "NoBoard")) (.ref (He.ga K "NoPin")) = some false),
 decide (subIn K (.ref (He.ga K "NoBoard")) (.ref (He.ga K "NoText")) = some false),
 decide (subIn K (.ref (He.ga K "NoBoard")) (.type "ValueError") = some true),
 HX.intB (nsIn K mainGlobals "MOST") 1000000,
 HX.intB (nsIn K mainGlobals "MOST_LAYERS") 3,
 HX.intB (nsIn K mainGlobals "MOST_PINS") 16,
 decide (nsIn K mainGlobals "is_whole" = some (some (.ref (He.fAd K ("is_whole", none))))),
 decide (nsIn K mainGlobals "is_within" = some (some (.ref (He.fAd K ("is_within", none))))),
 decide (nsIn K mainGlobals "is_row" = some (some (.ref (He.fAd K ("is_row", none))))),
 decide (nsIn K mainGlobals "are_whole" = some (some (.ref (He.fAd K ("are_whole", none))))),
 decide (nsIn K mainGlobals "is_pin_row" = some (some (.ref (He.fAd K ("is_pin_row", none))))),
 decide (nsIn K mainGlobals "are_board" = some (some (.ref (He.fAd K ("are_board", none)))))]
open PySem.W in
def ex2 (K : Frag) : List Bool :=
 [decide (findIn K (.ref (He.ga K "Board")) "__init__" = some (some (.ref (He.fAd K ("Board", some "__init__"))))),
 isFn K (.ref (He.fAd K ("Board", some "__init__"))),
 decide (findIn K (.ref (He.ga K "Board")) "look_pin" = some (some (.ref (He.fAd K ("Board", some "look_pin"))))),
 isFn K (.ref (He.fAd K ("Board", some "look_pin"))),
 decide (nsIn K mainGlobals "_law_cell_at" = some (some (.ref (He.fAd K ("_law_cell_at", none))))),
 decide (nsIn K mainGlobals "_law_bag" = some (some (.ref (He.fAd K ("_law_bag", none))))),
 decide (nsIn K mainGlobals "_law_take" = some (some (.ref (He.fAd K ("_law_take", none))))),
 decide (nsIn K mainGlobals "_law_made" = some (some (.ref (He.fAd K ("_law_made", none))))),
 decide (findIn K (.ref (He.ga K "Board")) "made_of" = some (some (.ref (He.fAd K ("Board", some "made_of"))))),
 isFn K (.ref (He.fAd K ("Board", some "made_of"))),
 decide (nsIn K mainGlobals "_law_whole" = some (some (.ref (He.fAd K ("_law_whole", none))))),
 decide (nsIn K mainGlobals "_law_is_pin" = some (some (.ref (He.fAd K ("_law_is_pin", none))))),
 decide (nsIn K mainGlobals "_law_is_made" = some (some (.ref (He.fAd K ("_law_is_made", none))))),
 decide (nsIn K mainGlobals "_law_odd" = some (some (.ref (He.fAd K ("_law_odd", none))))),
 decide (nsIn K mainGlobals "_law_is_refused" = some (some (.ref (He.fAd K ("_law_is_refused", none))))),
 decide (nsIn K mainGlobals "_law_told" = some (some (.ref (He.fAd K ("_law_told", none))))),
 decide (nsIn K mainGlobals "_law_bent_pin" = some (some (.ref (He.fAd K ("_law_bent_pin", none))))),
 decide (nsIn K mainGlobals "_law_bent" = some (some (.ref (He.fAd K ("_law_bent", none))))),
 decide (nsIn K mainGlobals "law" = some (some (.ref (He.fAd K ("law", none))))),
 decide (nsIn K mainGlobals "ValueError" = some none),
 decide (nsIn K mainGlobals "all" = some none),
 decide (nsIn K mainGlobals "bool" = some none),
 decide (nsIn K mainGlobals "int" = some none),
 decide (nsIn K mainGlobals "isinstance" = some none),
 decide (nsIn K mainGlobals "len" = some none),
 decide (nsIn K mainGlobals "list" = some none),
 decide (nsIn K mainGlobals "min" = some none),
 decide (nsIn K mainGlobals "range" = some none),
 decide (nsIn K mainGlobals "str" = some none),
 decide (nsIn K mainGlobals "tuple" = some none)]
def xp0 (K : PySem.W.Frag) : Bool := (ex0 K).all id && ((ex1 K).all id && ((ex2 K).all id && (true)))
def exs (K : PySem.W.Frag) : Bool := xp0 K
def fd0 : He.DefD := ⟨("is_whole", none), "is_whole", "is_whole", defArgs s_is_whole, defBody s_is_whole, defScope s_is_whole, [], []⟩
def fd1 : He.DefD := ⟨("is_within", none), "is_within", "is_within", defArgs s_is_within, defBody s_is_within, defScope s_is_within, [], []⟩
def fd2 : He.DefD := ⟨("is_row", none), "is_row", "is_row", defArgs s_is_row, defBody s_is_row, defScope s_is_row, [], []⟩
def fd3 : He.DefD := ⟨("are_whole", none), "are_whole", "are_whole", defArgs s_are_whole, defBody s_are_whole, defScope s_are_whole, [], []⟩
def fd4 : He.DefD := ⟨("is_pin_row", none), "is_pin_row", "is_pin_row", defArgs s_is_pin_row, defBody s_is_pin_row, defScope s_is_pin_row, [], []⟩
def fd5 : He.DefD := ⟨("are_board", none), "are_board", "are_board", defArgs s_are_board, defBody s_are_board, defScope s_are_board, [], []⟩
def fd6 : He.DefD := ⟨("Board", some "__init__"), "__init__", "Board.__init__", defArgs s_board_init, defBody s_board_init, defScope s_board_init, [], [("layers", .int 1), ("spacing", .int 1)]⟩
def fd7 : He.DefD := ⟨("Board", some "look_pin"), "look_pin", "Board.look_pin", defArgs s_board_look_pin, defBody s_board_look_pin, defScope s_board_look_pin, [], []⟩
def fd8 : He.DefD := ⟨("_law_cell_at", none), "_law_cell_at", "_law_cell_at", defArgs s_l_cell_at, defBody s_l_cell_at, defScope s_l_cell_at, [], []⟩
def fd9 : He.DefD := ⟨("_law_bag", none), "_law_bag", "_law_bag", defArgs s_l_bag, defBody s_l_bag, defScope s_l_bag, [], []⟩
def fd10 : He.DefD := ⟨("_law_take", none), "_law_take", "_law_take", defArgs s_l_take, defBody s_l_take, defScope s_l_take, [], []⟩
def fd11 : He.DefD := ⟨("_law_made", none), "_law_made", "_law_made", defArgs s_l_made, defBody s_l_made, defScope s_l_made, [], []⟩
def fd12 : He.DefD := ⟨("Board", some "made_of"), "made_of", "Board.made_of", defArgs s_board_made_of, defBody s_board_made_of, defScope s_board_made_of, [], []⟩
def fd13 : He.DefD := ⟨("_law_whole", none), "_law_whole", "_law_whole", defArgs s_l_whole, defBody s_l_whole, defScope s_l_whole, [], []⟩
def fd14 : He.DefD := ⟨("_law_is_pin", none), "_law_is_pin", "_law_is_pin", defArgs s_l_is_pin, defBody s_l_is_pin, defScope s_l_is_pin, [], []⟩
def fd15 : He.DefD := ⟨("_law_is_made", none), "_law_is_made", "_law_is_made", defArgs s_l_is_made, defBody s_l_is_made, defScope s_l_is_made, [], []⟩
def fd16 : He.DefD := ⟨("_law_odd", none), "_law_odd", "_law_odd", defArgs s_l_odd, defBody s_l_odd, defScope s_l_odd, [], []⟩
def fd17 : He.DefD := ⟨("_law_is_refused", none), "_law_is_refused", "_law_is_refused", defArgs s_l_is_refused, defBody s_l_is_refused, defScope s_l_is_refused, [], []⟩
def fd18 : He.DefD := ⟨("_law_told", none), "_law_told", "_law_told", defArgs s_l_told, defBody s_l_told, defScope s_l_told, [], []⟩
def fd19 : He.DefD := ⟨("_law_bent_pin", none), "_law_bent_pin", "_law_bent_pin", defArgs s_l_bent_pin, defBody s_l_bent_pin, defScope s_l_bent_pin, [], []⟩
def fd20 : He.DefD := ⟨("_law_bent", none), "_law_bent", "_law_bent", defArgs s_l_bent, defBody s_l_bent, defScope s_l_bent, [], []⟩
def fd21 : He.DefD := ⟨("law", none), "law", "law", defArgs s_law, defBody s_law, defScope s_law, [], []⟩
def fd22 : He.DefD := ⟨("NoPin", some "__init__"), "__init__", "NoPin.__init__", defArgs s_nopin_init, defBody s_nopin_init, defScope s_nopin_init, [], []⟩
def fd23 : He.DefD := ⟨("NoLayer", some "__init__"), "__init__", "NoLayer.__init__", defArgs s_nolayer_init, defBody s_nolayer_init, defScope s_nolayer_init, [], []⟩
def fn0 : List He.DefD := [fd0, fd1, fd2, fd3, fd4, fd5, fd6, fd7, fd8, fd9, fd10, fd11, fd12, fd13, fd14, fd15, fd16, fd17, fd18, fd19, fd20, fd21, fd22, fd23]
def fns : List He.DefD := fn0
def tfs : List He.Defn := []
def nm0 : List PySem.Str := ["_wall", "BoardError", "NoBoard", "NoText", "NoPin", "NoLayer", "is_whole", "is_within", "is_row", "are_whole", "sign_of", "side", "apart", "is_between", "SPACING", "MOST", "MOST_PINS", "MOST_LAYERS", "CORNERS", "is_pin_row", "are_board", "Board", "_law_cell_at", "_law_bag", "_law_take", "_law_whole", "_law_made", "_law_board", "_law_points", "_law_pins"]
def nm1 : List PySem.Str := ["_law_is_pin", "_law_is_made", "_law_odd", "_law_bent_pin", "_law_bent", "_law_is_refused", "_law_told"]
def loose : List PySem.Str := nm0 ++ (nm1)
abbrev RR : PySem.W.OpenRow := PySem.W.OpenLaw.row PySem.Challenge.rw_rubberroutes_k06_what_is_no_board
def qv : Program := PySem.W.view RR.prog [42]
abbrev hk : PySem.W.Hook := HX.hookN 4 fns tfs exs
def hob (s : PySem.W.SharedT) : HX.AlN := HX.obsN 4 fns tfs exs (HandSHeadRun.getT s)
theorem hob_eq (s : PySem.W.SharedT) : hob s = hk.obs s.abs := HX.obsN_eq s
set_option maxHeartbeats 0 in
theorem run_a (w : World) (os : OsState) : (HX.Runs RR 40000 w os).map (fun s => (HandSHeadRun.looksF RR.prog (PySem.W.boot_heap w.params) s.abs, HandSHeadRun.seenQ qv loose (importedModules RR.prog.main.body) (fun s => PySem.W.xlAt qv [] s && PySem.W.recOk RR.toRowW.records s) s.abs)) = some (true, PySem.W.openGood qv loose) := by
  kernel_rfl
set_option maxHeartbeats 0 in
theorem run_b (w : World) (os : OsState) : (HX.Runs RR 40000 w os).map (fun s => HX.onK 4 (HandSHeadRun.getT s) (He.obsD [] fns)) = some (He.valD fns) := by
  kernel_rfl
set_option maxHeartbeats 0 in
theorem run_c (w : World) (os : OsState) : (HX.Runs RR 40000 w os).map (fun s => HX.onK 4 (HandSHeadRun.getT s) fun K => exs K && He.tabsB (HandSHeadRun.getT s) tfs K) = some true := by
  kernel_rfl
theorem run (w : World) : HandSHeadRun.RunEq RR qv hk hob 40000 loose w := HX.run_joinN (run_a w) (run_b w) (run_c w)
structure Bs (mg : Str → Option Value) : Prop where
  b_ValueError : mg "ValueError" = none
  b_all : mg "all" = none
  b_bool : mg "bool" = none
  b_int : mg "int" = none
  b_isinstance : mg "isinstance" = none
  b_len : mg "len" = none
  b_list : mg "list" = none
  b_min : mg "min" = none
  b_range : mg "range" = none
  b_str : mg "str" = none
  b_tuple : mg "tuple" = none
structure Cl_Board (K : PySem.W.Frag) (C : Addr) : Prop where
  cls : Cls K C
  n_wide : NoAttr K C "wide"
  n_high : NoAttr K C "high"
  n_pin_rows : NoAttr K C "pin_rows"
  n_layer_count : NoAttr K C "layer_count"
  n_apart_by : NoAttr K C "apart_by"
  n_spots : NoAttr K C "spots"
  n_kept_gates : NoAttr K C "kept_gates"
  n_kept_triangles : NoAttr K C "kept_triangles"
abbrev xn (mg : Str → Option Value) : Str → Option Value := fun x => if x ∈ (["NoBoard", "NoPin", "NoLayer"] : List Str) then mg x else none
theorem xn_at {mg : Str → Option Value} {x : Str} {v : Value} (m : mg x = some v) (h : x ∈ (["NoBoard", "NoPin", "NoLayer"] : List Str) := by decide) : xn mg x = some v := by
  unfold xn
  rw [if_pos h]
  exact m
theorem xn_or {mg : Str → Option Value} {x : Str} {c : Value} (h : xn mg x = some c) : (x = "NoBoard" ∧ mg "NoBoard" = some c) ∨ (x = "NoPin" ∧ mg "NoPin" = some c) ∨ (x = "NoLayer" ∧ mg "NoLayer" = some c) := by
  unfold xn at h
  split at h
  · rename_i hm
    simp only [List.mem_cons, List.not_mem_nil, or_false] at hm
    rcases hm with rfl | rfl | rfl <;> simp [h]
  · cases h
section
variable {P : Program} {w : World} {K : PySem.W.Frag} {mg : Str → Option Value} {base : Heap}
theorem xi_NoPin {f : Addr} {fd : FuncData} (F : Fun K "__init__" "NoPin.__init__" s_nopin_init f fd) : FnOk P w K mg base CX0 1 f fd ["self", "pin"] (XO.spI1 K "IndexError.__new__" XO.tlIE "pin") :=
  F.ok sc_nopin_init (fun vs H Q E h => by obtain ⟨_, _, _, e, _⟩ := h; rw [e]; rfl) fun cdv A outer s H vs Q E hr h => ⟨XO.tOs1 K "IndexError.__new__" XO.tlIE "pin" (tVar 0) (tVar 1), pss_one (XO.ps_os1 (pv 0) (pv 1)), XO.init_ok (P := P) (w := w) (D := ⟨fun _ _ => False, fun _ _ => False, fun _ _ => False, fun _ _ => False⟩) h⟩
theorem xi_NoLayer {f : Addr} {fd : FuncData} (F : Fun K "__init__" "NoLayer.__init__" s_nolayer_init f fd) : FnOk P w K mg base CX0 1 f fd ["self", "layer"] (XO.spI1 K "IndexError.__new__" XO.tlIE "layer") :=
  F.ok sc_nolayer_init (fun vs H Q E h => by obtain ⟨_, _, _, e, _⟩ := h; rw [e]; rfl) fun cdv A outer s H vs Q E hr h => ⟨XO.tOs1 K "IndexError.__new__" XO.tlIE "layer" (tVar 0) (tVar 1), pss_one (XO.ps_os1 (pv 0) (pv 1)), XO.init_ok (P := P) (w := w) (D := ⟨fun _ _ => False, fun _ _ => False, fun _ _ => False, fun _ _ => False⟩) h⟩
def P_is_whole : PT3 := fun ds μ Φ => ∃ d, ds = [d] ∧ Kd μ d ∧ Φ (.bl (wh d)) μ
theorem len_is_whole (ds : List D) (μ : M) (Φ : D → M → Prop) (h : P_is_whole ds μ Φ) : ds.length = 1 := by
  obtain ⟨_, rfl, _⟩ := h
  rfl
def P_is_within : PT3 := fun ds μ Φ => ∃ d lo hi, ds = [d, .int lo, .int hi] ∧ Kd μ d ∧ Φ (.bl (wi d lo hi)) μ
theorem len_is_within (ds : List D) (μ : M) (Φ : D → M → Prop) (h : P_is_within ds μ Φ) : ds.length = 3 := by
  obtain ⟨_, _, _, rfl, _⟩ := h
  rfl
def P_is_row : PT3 := fun ds μ Φ => ∃ d lo hi, ds = [d, .int lo, .int hi] ∧ Kd μ d ∧ Φ (.bl (ir d lo hi)) μ
theorem len_is_row (ds : List D) (μ : M) (Φ : D → M → Prop) (h : P_is_row ds μ Φ) : ds.length = 3 := by
  obtain ⟨_, _, _, rfl, _⟩ := h
  rfl
def P_are_whole : PT3 := fun ds μ Φ => ∃ d m, ds = [d, .int m] ∧ Kd μ d ∧ (∀ xs, d = .tup xs → xs.length ≤ 1000 ∧ ∀ x ∈ xs, Kd μ x) ∧ Φ (.bl (aw d m)) μ
theorem len_are_whole (ds : List D) (μ : M) (Φ : D → M → Prop) (h : P_are_whole ds μ Φ) : ds.length = 2 := by
  obtain ⟨_, _, rfl, _⟩ := h
  rfl
theorem ok_is_whole {f : Addr} {fd : FuncData} (F : Fun K "is_whole" "is_whole" s_is_whole f fd) (B : Bs mg) : FnOk P w K mg base CX0 1 f fd ["thing"] (spI K P_is_whole) := by
  refine Hold.out ?_
  simp (disch := (
  refine Hold.as ?_
  with_unfolding_all (
  refine F.ok sc_is_whole (fun vs H Q E h => spI_len h len_is_whole) (fun cdv A outer s H vs Q E hr h => ?_)
  have hu65 := hu65_of hr
  refine ⟨_, (pss_one (ps_ret (pe_and (pe_callB (call_isiK1 (K := K) rfl) (by rfl) B.b_isinstance (by decide +kernel) (pa_cons (pv 0) (pa_cons (pe_bltn (v := .ty "int") (by rfl) B.b_int (by decide +kernel) rfl) pa_nil))) (pe_one (pe_not (pe_callB (call_isiK1 (K := K) rfl) (by rfl) B.b_isinstance (by decide +kernel) (pa_cons (pv 0) (pa_cons (pe_bltn (v := .ty "bool") (by rfl) B.b_bool (by decide +kernel) rfl) pa_nil)))))))), body_ok h (fun ds μ Φ p => ?_)⟩
  (try dsimp only [cxOf, Cx.nox, Cx.wish, List.map_cons, List.map_nil])
  obtain ⟨d, rfl, ⟨n, hn⟩, q⟩ := p
  show AS K _ [some _] _ _
  cases d with
  | non => walk_at "go"; exact q
  | bl b =>
    walk_at "go"
    rw [if_pos (by decide +kernel)]
    walk_at "go"
    exact q
  | int i => walk_at "go"; exact q
  | str s => walk_at "go"; exact q
  | ty n => cases hn
  | tup xs => walk_at "go"; exact q
  | rol xs => walk_at "go"; exact q
  | ref a =>
    have hk : n = "list" ∨ n = "dict" := by
      unfold tyn at hn
      simp only at hn
      split at hn <;> first | (cases hn; first | exact .inl rfl | exact .inr rfl) | cases hn
    rcases hk with rfl | rfl
    · walk_at "go"
      refine rc_isi hn (b := false) (by decide +kernel) ?_
      walk_at "go"
      exact q
    · walk_at "go"
      refine rc_isi hn (b := false) (by decide +kernel) ?_
      walk_at "go"
      exact q))) only [↓Hold.on]
theorem ok_is_within {f : Addr} {fd : FuncData} (F : Fun K "is_within" "is_within" s_is_within f fd) (B : Bs mg) (G_is_whole : Def P w K mg base "is_whole" ["thing"] 1 (spI K P_is_whole)) : FnOk P w K mg base CX0 2 f fd ["thing", "least", "most"] (spI K P_is_within) := by
  refine Hold.out ?_
  simp (disch := (
  refine Hold.as ?_
  with_unfolding_all (
  refine F.ok sc_is_within (fun vs H Q E h => spI_len h len_is_within) (fun cdv A outer s H vs Q E hr h => ?_)
  have hu65 := hu65_of hr
  refine ⟨_, (pss_one (ps_ret (pe_and (pe_def G_is_whole (hr.mono (by decide)) (by rfl) (pa_cons (pv 0) pa_nil)) (pe_one (pe_chain op_le op_le (pv 1) (pv 0) (pv 2)))))), body_ok h (fun ds μ Φ p => ?_)⟩
  (try dsimp only [cxOf, Cx.nox, Cx.wish, List.map_cons, List.map_nil])
  obtain ⟨d, lo, hi, rfl, hk, q⟩ := p
  show AS K _ [some _, some _, some _] _ _
  walk_at "go"
  refine ⟨d, rfl, hk, ?_⟩
  cases d with
  | int i =>
    walk_at "go"
    simp only [wi] at q
    by_cases h : lo ≤ i
    · simp only [h, decide_true, Bool.true_and] at q
      simp only [wh, if_true]
      walk_at "go"
      simp only [h, decide_true, if_true]
      walk_at "go"
      exact q
    · simp only [h, decide_false, Bool.false_and] at q
      simp only [wh, if_true]
      walk_at "go"
      simp only [h, decide_false, Bool.false_eq_true, if_false]
      exact q
  | non => walk_at "go"; exact q
  | bl b => walk_at "go"; exact q
  | str s => walk_at "go"; exact q
  | ty n => walk_at "go"; exact q
  | tup xs => walk_at "go"; exact q
  | rol xs => walk_at "go"; exact q
  | ref a => walk_at "go"; exact q))) only [↓Hold.on]
theorem ok_is_row {f : Addr} {fd : FuncData} (F : Fun K "is_row" "is_row" s_is_row f fd) (B : Bs mg) : FnOk P w K mg base CX0 1 f fd ["thing", "least", "most"] (spI K P_is_row) := by
  refine Hold.out ?_
  simp (disch := (
  refine Hold.as ?_
  with_unfolding_all (
  refine F.ok sc_is_row (fun vs H Q E h => spI_len h len_is_row) (fun cdv A outer s H vs Q E hr h => ?_)
  have hu65 := hu65_of hr
  refine ⟨_, (pss_one (ps_ret (pe_and (pe_callB (call_isiK1 (K := K) rfl) (by rfl) B.b_isinstance (by decide +kernel) (pa_cons (pv 0) (pa_cons (pe_bltn (v := .ty "tuple") (by rfl) B.b_tuple (by decide +kernel) rfl) pa_nil))) (pe_one (pe_chain op_le op_le (pv 1) (pe_callB (call_lenK (K := K) rfl) (by rfl) B.b_len (by decide +kernel) (pa_cons (pv 0) pa_nil)) (pv 2)))))), body_ok h (fun ds μ Φ p => ?_)⟩
  (try dsimp only [cxOf, Cx.nox, Cx.wish, List.map_cons, List.map_nil])
  obtain ⟨d, lo, hi, rfl, ⟨n, hn⟩, q⟩ := p
  show AS K _ [some _, some _, some _] _ _
  cases d with
  | non => walk_at "go"; exact q
  | bl b => walk_at "go"; exact q
  | int i => walk_at "go"; exact q
  | str s => walk_at "go"; exact q
  | ty n => cases hn
  | rol xs => walk_at "go"; exact q
  | tup xs =>
    walk_at "go"
    simp only [ir] at q
    by_cases h : lo ≤ (xs.length : Int)
    · simp only [h, decide_true, Bool.true_and] at q
      simp only [h, decide_true, if_true]
      walk_at "go"
      exact q
    · simp only [h, decide_false, Bool.false_and] at q
      simp only [h, decide_false, Bool.false_eq_true, if_false]
      exact q
  | ref a =>
    have hk : n = "list" ∨ n = "dict" := by
      unfold tyn at hn
      simp only at hn
      split at hn <;> first | (cases hn; first | exact .inl rfl | exact .inr rfl) | cases hn
    rcases hk with rfl | rfl
    · walk_at "go"
      refine rc_isi hn (b := false) (by decide +kernel) ?_
      walk_at "go"
      exact q
    · walk_at "go"
      refine rc_isi hn (b := false) (by decide +kernel) ?_
      walk_at "go"
      exact q))) only [↓Hold.on]
theorem ok_are_whole {f : Addr} {fd : FuncData} (F : Fun K "are_whole" "are_whole" s_are_whole f fd) (B : Bs mg) (G_is_row : Def P w K mg base "is_row" ["thing", "least", "most"] 1 (spI K P_is_row)) (G_is_whole : Def P w K mg base "is_whole" ["thing"] 1 (spI K P_is_whole)) : FnOk P w K mg base CX0 2 f fd ["thing", "many"] (spI K P_are_whole) := by
  refine Hold.out ?_
  simp (disch := (
  refine Hold.as ?_
  with_unfolding_all (
  refine F.ok sc_are_whole (fun vs H Q E h => spI_len h len_are_whole) (fun cdv A outer s H vs Q E hr h => ?_)
  have hu65 := hu65_of hr
  refine ⟨_, (pss_one (ps_ret (pe_and (pe_def G_is_row (hr.mono (by decide)) (by rfl) (pa_cons (pv 0) (pa_cons (pv 1) (pa_cons (pv 1) pa_nil)))) (pe_one (pe_callB (cr_allK (K := K) rfl rfl) (by rfl) B.b_all (by decide +kernel) (pa_cons (pe_lc (own := [("one", 2)]) (g := gName 2) (tt := tYes) rfl sc_are_whole.nd (pi_tupK (K := K) rfl (pv 0)) (blkOk_by (own := [("one", 2)]) (N := N_are_whole) (sc := defScope s_are_whole) (by decide +kernel)) (fun _ _ _ _ _ => (pg_name (i := 2) sc_are_whole.nd rfl (by first | exact Or.inl rfl | exact Or.inr rfl))) (fun _ _ _ _ _ => pts_nil) (fun _ _ _ _ _ => (pe_def G_is_whole (hr.mono (by decide)) (by rfl) (pa_cons (pv 2) pa_nil)))) pa_nil)))))), body_okU h (fun ds μ Φ p => ?_)⟩
  (try dsimp only [cxOf, Cx.nox, Cx.wish, List.map_cons, List.map_nil])
  obtain ⟨d, m, rfl, hk, hx, q⟩ := p
  show AS K _ [some _, some _, none] _ _
  walk_at "go"
  refine ⟨d, m, m, rfl, hk, ?_⟩
  by_cases hr : ir d m m = true
  · cases d with
    | tup xs =>
      obtain ⟨h1, h2⟩ := hx xs rfl
      have hl : (xs.length : Int) = m := by
        simp only [ir, Bool.and_eq_true, decide_eq_true_eq] at hr
        omega
      rw [hr]
      walk_at "go"
      refine a_lc1 (fun x => .bl (wh x)) (fun _ => true) (ai_T ?_)
      walk_at "go"
      refine ⟨by have := sizeLine_eq; omega, fun x hx => at_yes ⟨rfl, rfl⟩, fun x hx _ => ?_, fun l hl2 => ?_⟩
      · walk_at "nf"
        walk_at "go"
        exact ⟨x, rfl, h2 x hx, rfl, rfl⟩
      · walk_at "go"
        have e : List.map (fun x => D.bl (wh x)) (List.filter (fun _ => true) xs) = (xs.map wh).map D.bl := by
          rw [List.filter_eq_self.mpr (fun _ _ => rfl), List.map_map]; rfl
        rw [e]
        refine rc_all set_same ?_
        refine up_of (sub_new Sub.refl hl2) ?_
        have e2 : (xs.map wh).all id = xs.all wh := by rw [List.all_map]; rfl
        rw [e2]
        simp only [aw, hl, decide_true, Bool.true_and] at q
        exact q
    | non => cases hr
    | bl b => cases hr
    | int i => cases hr
    | str s => cases hr
    | ty n => cases hr
    | rol xs => cases hr
    | ref a => cases hr
  · have hf : ir d m m = false := by simpa using hr
    rw [hf]
    walk_at "go"
    refine up ?_
    have e : aw d m = false := by
      cases d <;> first | rfl | skip
      rename_i xs
      simp only [ir, aw] at hf ⊢
      rw [Bool.and_eq_false_iff] at hf ⊢
      left
      rcases hf with h | h <;> (simp only [decide_eq_false_iff_not] at h ⊢; omega)
    rw [e] at q
    exact q))) only [↓Hold.on]
def Kx (μ : M) (d : D) : Prop := Kd μ d ∧ ∀ xs, d = .tup xs → xs.length ≤ 1000 ∧ ∀ x ∈ xs, Kd μ x
def P_is_pin_row : PT3 := fun ds μ Φ => ∃ d w h l, ds = [d, .int w, .int h, .int l] ∧ Kx μ d ∧ Φ (.bl (pr d w h l)) μ
theorem len_is_pin_row (ds : List D) (μ : M) (Φ : D → M → Prop) (h : P_is_pin_row ds μ Φ) : ds.length = 4 := by
  obtain ⟨_, _, _, _, rfl, _⟩ := h
  rfl
def P_are_board : PT3 := fun ds μ Φ => ∃ w h p l s, ds = [w, h, p, l, s] ∧ Kd μ w ∧ Kd μ h ∧ Kd μ p ∧ Kd μ l ∧ Kd μ s ∧ (∀ rows, p = .tup rows → rows.length ≤ 1000 ∧ ∀ r ∈ rows, Kx μ r) ∧ Φ (.bl (ab w h p l s)) μ
theorem len_are_board (ds : List D) (μ : M) (Φ : D → M → Prop) (h : P_are_board ds μ Φ) : ds.length = 5 := by
  obtain ⟨_, _, _, _, _, rfl, _⟩ := h
  rfl
theorem ok_is_pin_row {f : Addr} {fd : FuncData} (F : Fun K "is_pin_row" "is_pin_row" s_is_pin_row f fd) (B : Bs mg) (G_are_whole : Def P w K mg base "are_whole" ["thing", "many"] 2 (spI K P_are_whole)) : FnOk P w K mg base CX0 3 f fd ["thing", "width", "height", "layers"] (spI K P_is_pin_row) := by
  refine Hold.out ?_
  simp (disch := (
  refine Hold.as ?_
  with_unfolding_all (
  refine F.ok sc_is_pin_row (fun vs H Q E h => spI_len h len_is_pin_row) (fun cdv A outer s H vs Q E hr h => ?_)
  have hu65 := hu65_of hr
  refine ⟨_, (pss_cons (ps_if (pt_not (pt_val (pe_def G_are_whole (hr.mono (by decide)) (by rfl) (pa_cons (pv 0) (pa_cons pe_int pa_nil))))) (pss_one (ps_ret pe_bl)) pss_nil)
      (pss_cons (ps_asg (pv 0) (pg_tup (by rfl) (pgs_cons (pg_name (i := 4) sc_is_pin_row.nd rfl (by first | exact Or.inl rfl | exact Or.inr rfl)) (pgs_cons (pg_name (i := 5) sc_is_pin_row.nd rfl (by first | exact Or.inl rfl | exact Or.inr rfl)) (pgs_cons (pg_name (i := 6) sc_is_pin_row.nd rfl (by first | exact Or.inl rfl | exact Or.inr rfl)) (pgs_cons (pg_name (i := 7) sc_is_pin_row.nd rfl (by first | exact Or.inl rfl | exact Or.inr rfl)) pgs_nil))))))
      (pss_one (ps_ret (pe_and (pe_chain op_lt op_lt pe_int (pv 4) (pv 1)) (pe_and (pe_chain op_lt op_lt pe_int (pv 5) (pv 2)) (pe_one (pe_chain3 op_le op_le op_lt pe_int (pv 6) (pv 7) (pv 3))))))))), body_ok h (fun ds μ Φ p => ?_)⟩
  (try dsimp only [cxOf, Cx.nox, Cx.wish, List.map_cons, List.map_nil])
  obtain ⟨d, w, h, l, rfl, ⟨hk, hx⟩, q⟩ := p
  show AS K _ [some _, some _, some _, some _, none, none, none, none] _ _
  walk_at "go"
  refine ⟨d, 4, rfl, hk, hx, ?_⟩
  by_cases hw : aw d 4 = true
  · obtain ⟨x, y, f, g, rfl⟩ := aw_four hw
    rw [hw]
    have fin : ∀ b, pr (.tup [.int x, .int y, .int f, .int g]) w h l = b → Φ (.bl b) μ := fun b e => e ▸ q
    walk_at "go"
    refine ite_d (fun h1 => ?_) (fun h1 => ?_)
    rotate_left
    · walk_at "go"
      exact fin _ (by simp [pr, h1])
    walk_at "go"
    refine ite_d (fun h2 => ?_) (fun h2 => ?_)
    rotate_left
    · exact fin _ (by simp [pr, h2])
    walk_at "go"
    refine ite_d (fun h3 => ?_) (fun h3 => ?_)
    rotate_left
    · walk_at "go"
      exact fin _ (by simp [pr, h3])
    walk_at "go"
    refine ite_d (fun h4 => ?_) (fun h4 => ?_)
    rotate_left
    · exact fin _ (by simp [pr, h4])
    walk_at "go"
    refine ite_d (fun h5 => ?_) (fun h5 => ?_)
    rotate_left
    · exact fin _ (by simp [pr, h5])
    walk_at "go"
    refine ite_d (fun h6 => ?_) (fun h6 => ?_)
    rotate_left
    · exact fin _ (by simp [pr, h6])
    walk_at "go"
    exact fin _ (by simp [pr, h1, h2, h3, h4, h5, h6])
  · have hf : aw d 4 = false := by simpa using hw
    rw [hf]
    walk_at "go"
    rw [aw_pr hf] at q
    exact q))) only [↓Hold.on]
theorem ok_are_board {f : Addr} {fd : FuncData} (F : Fun K "are_board" "are_board" s_are_board f fd) (B : Bs mg) (V_MOST : Cst mg "MOST" (.int 1000000)) (V_MOST_LAYERS : Cst mg "MOST_LAYERS" (.int 3)) (V_MOST_PINS : Cst mg "MOST_PINS" (.int 16)) (G_is_pin_row : Def P w K mg base "is_pin_row" ["thing", "width", "height", "layers"] 3 (spI K P_is_pin_row)) (G_is_row : Def P w K mg base "is_row" ["thing", "least", "most"] 1 (spI K P_is_row)) (G_is_within : Def P w K mg base "is_within" ["thing", "least", "most"] 2 (spI K P_is_within)) : FnOk P w K mg base CX0 4 f fd ["width", "height", "pins", "layers", "spacing"] (spI K P_are_board) := by
  refine Hold.out ?_
  simp (disch := (
  refine Hold.as ?_
  with_unfolding_all (
  refine F.ok sc_are_board (fun vs H Q E h => spI_len h len_are_board) (fun cdv A outer s H vs Q E hr h => ?_)
  have hu65 := hu65_of hr
  refine ⟨_, (pss_cons (ps_if (PW.pt (pw_or (pt_not (pt_val (pe_def G_is_within (hr.mono (by decide)) (by rfl) (pa_cons (pv 0) (pa_cons pe_int (pa_cons (pe_cst V_MOST (by rfl)) pa_nil)))))) (pw_or (pt_not (pt_val (pe_def G_is_within (hr.mono (by decide)) (by rfl) (pa_cons (pv 1) (pa_cons pe_int (pa_cons (pe_cst V_MOST (by rfl)) pa_nil)))))) (pw_or1 (pt_not (pt_val (pe_def G_is_within (hr.mono (by decide)) (by rfl) (pa_cons (pv 3) (pa_cons pe_int (pa_cons (pe_cst V_MOST_LAYERS (by rfl)) pa_nil)))))))))) (pss_one (ps_ret pe_bl)) pss_nil)
      (pss_cons (ps_if (PW.pt (pw_or (pt_not (pt_val (pe_def G_is_within (hr.mono (by decide)) (by rfl) (pa_cons (pv 4) (pa_cons pe_int (pa_cons (pe_cst V_MOST (by rfl)) pa_nil)))))) (pw_or1 (pt_not (pt_val (pe_def G_is_row (hr.mono (by decide)) (by rfl) (pa_cons (pv 2) (pa_cons pe_int (pa_cons (pe_cst V_MOST_PINS (by rfl)) pa_nil))))))))) (pss_one (ps_ret pe_bl)) pss_nil)
      (pss_cons (ps_if (pt_not (pt_val (pe_callB (cr_allK (K := K) rfl rfl) (by rfl) B.b_all (by decide +kernel) (pa_cons (pe_lc (own := [("row", 5)]) (g := gName 5) (tt := tYes) rfl sc_are_board.nd (pi_tupK (K := K) rfl (pv 2)) (blkOk_by (own := [("row", 5)]) (N := N_are_board) (sc := defScope s_are_board) (by decide +kernel)) (fun _ _ _ _ _ => (pg_name (i := 5) sc_are_board.nd rfl (by first | exact Or.inl rfl | exact Or.inr rfl))) (fun _ _ _ _ _ => pts_nil) (fun _ _ _ _ _ => (pe_def G_is_pin_row (hr.mono (by decide)) (by rfl) (pa_cons (pv 5) (pa_cons (pv 0) (pa_cons (pv 1) (pa_cons (pv 3) pa_nil))))))) pa_nil)))) (pss_one (ps_ret pe_bl)) pss_nil)
      (pss_one (ps_ret (pe_cmpR op_eq (pe_callB ST.cr_lenST (by rfl) B.b_len (by decide +kernel) (pa_cons (ST.pe_scT (own := [("x", 6), ("y", 7), ("first", 8), ("last", 9)]) (g := gTup K 4 (gCons (gName 6) (gCons (gName 7) (gCons (gName 8) (gCons (gName 9) gNil))))) (tt := tYes) (hu_of hr) rfl sc_are_board.nd (pi_tupK (K := K) rfl (pv 2)) (blkOk_by (own := [("x", 6), ("y", 7), ("first", 8), ("last", 9)]) (N := N_are_board) (sc := defScope s_are_board) (by decide +kernel)) (fun _ _ _ _ _ => (pg_tup (by rfl) (pgs_cons (pg_name (i := 6) sc_are_board.nd rfl (by first | exact Or.inl rfl | exact Or.inr rfl)) (pgs_cons (pg_name (i := 7) sc_are_board.nd rfl (by first | exact Or.inl rfl | exact Or.inr rfl)) (pgs_cons (pg_name (i := 8) sc_are_board.nd rfl (by first | exact Or.inl rfl | exact Or.inr rfl)) (pgs_cons (pg_name (i := 9) sc_are_board.nd rfl (by first | exact Or.inl rfl | exact Or.inr rfl)) pgs_nil)))))) (fun _ _ _ _ _ => pts_nil) (fun _ _ _ _ _ => (pe_tup (pa_cons (pv 6) (pa_cons (pv 7) pa_nil))))) pa_nil)) (pe_callB (call_lenK (K := K) rfl) (by rfl) B.b_len (by decide +kernel) (pa_cons (pv 2) pa_nil)) (by first | exact nomark _ | rfl))))))), body_okU h (fun ds μ Φ p => ?_)⟩
  (try dsimp only [cxOf, Cx.nox, Cx.wish, List.map_cons, List.map_nil])
  obtain ⟨w, h, p, l, s, rfl, kw, kh, kp, kl, ks, kr, q⟩ := p
  show AS K _ [some _, some _, some _, some _, some _, none, none, none, none, none] _ _
  have fin : ∀ b, ab w h p l s = b → Φ (.bl b) μ := fun b e => e ▸ q
  walk_at "go"
  refine ⟨w, 2, 1000000, rfl, kw, _, rfl, ?_⟩
  by_cases h1 : wi w 2 1000000 = true
  rotate_left
  · have f1 : wi w 2 1000000 = false := by simpa using h1
    rw [f1]
    walk_at "go"
    exact up (fin _ (by simp [ab, f1]))
  rw [h1]
  walk_at "go"
  refine ⟨h, 2, 1000000, rfl, kh, _, rfl, ?_⟩
  by_cases h2 : wi h 2 1000000 = true
  rotate_left
  · have f1 : wi h 2 1000000 = false := by simpa using h2
    rw [f1]
    walk_at "go"
    exact up (fin _ (by simp [ab, f1]))
  rw [h2]
  walk_at "go"
  refine ⟨l, 1, 3, rfl, kl, _, rfl, ?_⟩
  by_cases h3 : wi l 1 3 = true
  rotate_left
  · have f1 : wi l 1 3 = false := by simpa using h3
    rw [f1]
    walk_at "go"
    exact up (fin _ (by simp [ab, f1]))
  rw [h3]
  walk_at "go"
  refine ⟨s, 1, 1000000, rfl, ks, _, rfl, ?_⟩
  by_cases h4 : wi s 1 1000000 = true
  rotate_left
  · have f1 : wi s 1 1000000 = false := by simpa using h4
    rw [f1]
    walk_at "go"
    exact up (fin _ (by simp [ab, f1]))
  rw [h4]
  walk_at "go"
  obtain ⟨wn, rfl, _⟩ := wi_int h1
  obtain ⟨hn, rfl, _⟩ := wi_int h2
  obtain ⟨ln, rfl, _⟩ := wi_int h3
  refine ⟨p, 0, 16, rfl, kp, _, rfl, ?_⟩
  by_cases h5 : ir p 0 16 = true
  rotate_left
  · have f1 : ir p 0 16 = false := by simpa using h5
    rw [f1]
    walk_at "go"
    refine up (fin _ ?_)
    cases p <;> first | (simp [ab]; done) | skip
    rename_i rows
    simp only [ir] at f1
    have : ¬ rows.length ≤ 16 := by
      intro hh
      simp at f1
      omega
    simp [ab, this]
  rw [h5]
  walk_at "go"
  obtain ⟨rows, rfl, hl⟩ : ∃ rows, p = .tup rows ∧ rows.length ≤ 16 := by
    cases p <;> first | (simp [ir] at h5; done) | skip
    rename_i rows
    refine ⟨rows, rfl, ?_⟩
    simp [ir] at h5
    omega
  obtain ⟨_, kr⟩ := kr rows rfl
  have hz : rows.length < 63 := by omega
  refine a_lc1 (fun r => .bl (pr r wn hn ln)) (fun _ => true) (ai_T ?_)
  walk_at "go"
  refine ⟨by have := sizeLine_eq; omega, fun x hx => at_yes ⟨rfl, rfl⟩, fun x hx _ => ?_, fun l2 hl2 => ?_⟩
  · walk_at "nf"
    walk_at "go"
    exact ⟨x, wn, hn, ln, rfl, kr x hx, rfl, rfl⟩
  walk_at "go"
  have e1 : List.map (fun r => D.bl (pr r wn hn ln)) (List.filter (fun _ => true) rows) = (rows.map fun r => pr r wn hn ln).map D.bl := by
    rw [List.filter_eq_self.mpr (fun _ _ => rfl), List.map_map]; rfl
  rw [e1]
  refine rc_all set_same ?_
  have e2 : (rows.map fun r => pr r wn hn ln).all id = rows.all fun r => pr r wn hn ln := by rw [List.all_map]; rfl
  rw [e2]
  by_cases h6 : (rows.all fun r => pr r wn hn ln) = true
  rotate_left
  · have f1 : (rows.all fun r => pr r wn hn ln) = false := by simpa using h6
    rw [f1]
    refine ⟨_, rfl, ?_⟩
    walk_at "go"
    exact up_of (sub_new Sub.refl hl2) (fin _ (by simp only [ab, f1, Bool.and_false, Bool.false_and]))
  rw [h6]
  refine ⟨_, rfl, ?_⟩
  walk_at "go"
  have hs : ∀ r ∈ rows, ∃ x y f g : Int, r = .tup [.int x, .int y, .int f, .int g] := fun r hr => by
    obtain ⟨x, y, f, g, e, _⟩ := pr_int (List.all_eq_true.mp h6 r hr)
    exact ⟨x, y, f, g, e⟩
  refine ai_T ?_
  walk_at "go"
  refine ⟨spot, hz, fun r hr => ?_, fun n hn2 => ?_⟩
  · obtain ⟨x, y, f, g, rfl⟩ := hs r hr
    refine ⟨_, ⟨rfl, rfl⟩, rfl, ?_⟩
    walk_at "nf"
    walk_at "go"
    exact ⟨rfl, rfl⟩
  walk_at "go"
  refine up_of (sub_new Sub.refl hl2) (fin _ ?_)
  by_cases h7 : (rows.map spot).Nodup
  · have e := num_all h7 hn2
    rw [List.length_map] at e
    simp only [ab, h1, h2, h3, h4, h6, h7, hl, decide_true, Bool.and_true, e]
  · have e := num_some h7 hn2
    rw [List.length_map] at e
    have e8 : ¬ ((n : Int) = rows.length) := by omega
    simp only [ab, h1, h2, h3, h4, h6, h7, hl, decide_true, Bool.and_true, decide_false, Bool.and_false, e8]))) only [↓Hold.on]
/-- a board stands at b -/
def Brd (C : Addr) (μ : M) (b : Addr) (w h : Int) (rows : List R4) (l s : Int) (sp kg kt : Addr) : Prop := ∃ (dx : Addr) (gl tl : List Int), (Lvs l gl ∧ Lvs l tl ∧ kg ≠ kt) ∧
  μ b = some (.ins C dx [("wide", .int w), ("high", .int h), ("pin_rows", .tup (rows.map encR)), ("layer_count", .int l), ("apart_by", .int s), ("spots", .ref sp), ("kept_gates", .ref kg), ("kept_triangles", .ref kt)]) ∧
  μ sp = some (.lst ((spots w h rows).map encS)) ∧ μ kg = some (.dK (gl.map fun lv => (Sum.inl lv, gatesD w h rows lv))) ∧ μ kt = some (.dK (tl.map fun lv => (Sum.inl lv, trisD w h rows lv)))
def P_board_init (C : Addr) : PT4 := fun ds μ Φ Ξ => ∃ b dx w h p l s, ds = [.ref b, w, h, p, l, s] ∧ μ b = some (.ins C dx []) ∧ Kd μ w ∧ Kd μ h ∧ Kd μ p ∧ Kd μ l ∧ Kd μ s ∧ (∀ rows, p = .tup rows → rows.length ≤ 1000 ∧ ∀ r ∈ rows, Kx μ r) ∧
  (∀ wn hn rows ln sn, ab w h p l s = true → w = .int wn → h = .int hn → p = .tup (rows.map encR) → l = .int ln → s = .int sn → ∀ μ' sp kg kt, SubB b μ μ' → μ sp = none → μ kg = none → μ kt = none → Brd C μ' b wn hn rows ln sn sp kg kt → Φ .non μ') ∧ (ab w h p l s = false → Ξ "NoBoard" none μ)
theorem len_board_init (C : Addr) (ds : List D) (μ : M) (Φ : D → M → Prop) (Ξ : XW) (h : P_board_init C ds μ Φ Ξ) : ds.length = 6 := by
  obtain ⟨_, _, _, _, _, _, _, rfl, _⟩ := h
  rfl
theorem rows_of {w h l : Int} : ∀ {ds : List D}, (ds.all fun r => pr r w h l) = true → ∃ rows : List R4, ds = rows.map encR
  | [], _ => ⟨[], rfl⟩
  | d :: ds, h => by
    rw [List.all_cons, Bool.and_eq_true] at h
    obtain ⟨x, y, f, g, e, _⟩ := pr_int h.1
    obtain ⟨rows, e2⟩ := rows_of h.2
    exact ⟨(x, y, f, g) :: rows, by rw [e, e2]; rfl⟩
theorem ab_of {w h p l s : D} (k : ab w h p l s = true) : ∃ (wn hn ln sn : Int) (rows : List R4), w = .int wn ∧ h = .int hn ∧ p = .tup (rows.map encR) ∧ l = .int ln ∧ s = .int sn ∧ rows.length ≤ 16 := by
  simp only [ab, Bool.and_eq_true] at k
  obtain ⟨⟨⟨⟨h1, h2⟩, h3⟩, h4⟩, h5⟩ := k
  obtain ⟨wn, rfl, _⟩ := wi_int h1
  obtain ⟨hn, rfl, _⟩ := wi_int h2
  obtain ⟨ln, rfl, _⟩ := wi_int h3
  obtain ⟨sn, rfl, _⟩ := wi_int h4
  cases p <;> first | (simp at h5; done) | skip
  rename_i ds
  simp only [Bool.and_eq_true, decide_eq_true_eq] at h5
  obtain ⟨rows, e⟩ := rows_of h5.1.2
  exact ⟨wn, hn, ln, sn, rows, rfl, rfl, by rw [e], rfl, rfl, by rw [e, List.length_map] at h5; exact h5.1.1⟩
def xyOf : D → D
  | .tup (x :: y :: _) => .tup [x, y]
  | _ => .non
theorem ok_board_init {f : Addr} {fd : FuncData} {kws : List (Str × V)} (F : FunD K "__init__" "Board.__init__" (defArgs s_board_init) (defBody s_board_init) (defScope s_board_init) [] kws f fd) (B : Bs mg) {C_Board : Addr} (K_Board : Cl_Board K C_Board) {C_NoBoard : Addr} (E_NoBoard : Exc0 K mg "NoBoard" C_NoBoard) (G_are_board : Def P w K mg base "are_board" ["width", "height", "pins", "layers", "spacing"] 4 (spI K P_are_board)) : FnOk P w K mg base (L2.CX P w) 6 f fd ["self", "width", "height", "pins", "layers", "spacing"] (spX K (xn mg) (P_board_init C_Board)) := by
  refine Hold.out ?_
  simp (disch := (
  refine Hold.as ?_
  with_unfolding_all (
  refine F.ok (CX := L2.CX P w) sc_board_init (fun vs H Q E h => spX_len h (len_board_init C_Board)) (fun cdv A outer s H vs Q E hr h => ?_)
  have hu65 := hu65_of hr
  refine ⟨_, (pss_cons (ps_if (pt_not (pt_val (pe_def G_are_board (hr.mono (by decide)) (by rfl) (pa_cons (pv 1) (pa_cons (pv 2) (pa_cons (pv 3) (pa_cons (pv 4) (pa_cons (pv 5) pa_nil)))))))) (pss_one (ps_raise rfl (takes_of rfl rfl rfl rfl) (pmk_e0 E_NoBoard (by rfl)))) pss_nil)
      (pss_cons (ps_asg (pe_tup (pa_cons (pv 1) (pa_cons (pv 2) pa_nil))) (pg_tup (by rfl) (pgs_cons (pg_fldK (K := K) rfl (pv 0)) (pgs_cons (pg_fldK (K := K) rfl (pv 0)) pgs_nil))))
      (pss_cons (ps_fldK (K := K) rfl (pv 0) (pv 3) rfl)
      (pss_cons (ps_fldK (K := K) rfl (pv 0) (pv 4) rfl)
      (pss_cons (ps_fldK (K := K) rfl (pv 0) (pv 5) rfl)
      (pss_cons (ps_fldK (K := K) rfl (pv 0) (pe_op op_cat (pe_lst (pa_cons (pe_tup (pa_cons pe_int (pa_cons pe_int pa_nil))) (pa_cons (pe_tup (pa_cons (pv 1) (pa_cons pe_int pa_nil))) (pa_cons (pe_tup (pa_cons (pv 1) (pa_cons (pv 2) pa_nil))) (pa_cons (pe_tup (pa_cons pe_int (pa_cons (pv 2) pa_nil))) pa_nil))))) (pe_lc (own := [("row", 6)]) (g := gName 6) (tt := tYes) rfl sc_board_init.nd (pi_tupK (K := K) rfl (pv 3)) (blkOk_by (own := [("row", 6)]) (N := N_board_init) (sc := defScope s_board_init) (by decide +kernel)) (fun _ _ _ _ _ => (pg_name (i := 6) sc_board_init.nd rfl (by first | exact Or.inl rfl | exact Or.inr rfl))) (fun _ _ _ _ _ => pts_nil) (fun _ _ _ _ _ => (pe_tup (pa_cons (pe_ix (ix_seqK (K := K) rfl) (pv 6) pe_int (fun _ _ => rfl)) (pa_cons (pe_ix (ix_seqK (K := K) rfl) (pv 6) pe_int (fun _ _ => rfl)) pa_nil)))))) rfl)
      (pss_cons (ps_fldK (K := K) rfl (pv 0) pe_dnewK rfl)
      (pss_one (ps_fldK (K := K) rfl (pv 0) pe_dnewK rfl))))))))), body_okX h (fun ds μ Φ Ξ p => ?_)⟩
  (try dsimp only [cxOf, Cx.nox, Cx.wish, List.map_cons, List.map_nil])
  obtain ⟨b, dx, w, h, p, l, s, rfl, hb, kw, kh, kp, kl, ks, kr, qy, qn⟩ := p
  show AS K _ [some _, some _, some _, some _, some _, some _, none] _ _
  walk_at "go"
  refine ⟨w, h, p, l, s, rfl, kw, kh, kp, kl, ks, kr, _, rfl, ?_⟩
  by_cases ha : ab w h p l s = true
  rotate_left
  · have hf : ab w h p l s = false := by simpa using ha
    rw [hf]
    walk_at "go"
    exact s_raise0 (x := "NoBoard") (xn_at E_NoBoard.mg) (qn hf)
  obtain ⟨wn, hn, ln, sn, rows, rfl, rfl, rfl, rfl, rfl, hlen⟩ := ab_of ha
  rw [ha]
  walk_at "go"
  refine g_fld ?_
  walk_at "go"
  refine ⟨b, C_Board, dx, _, rfl, hb, K_Board.cls, K_Board.n_wide, Nat.le_of_ble_eq_true rfl, ?_⟩
  walk_at "go"
  refine g_fld ?_
  walk_at "go"
  refine ⟨b, C_Board, dx, _, rfl, set_same, K_Board.cls, K_Board.n_high, Nat.le_of_ble_eq_true rfl, ?_⟩
  rw [set_set]
  walk_at "go"
  refine s_fld ?_
  walk_at "go"
  refine ⟨b, C_Board, dx, _, rfl, set_same, K_Board.cls, K_Board.n_pin_rows, Nat.le_of_ble_eq_true rfl, ?_⟩
  rw [set_set]
  walk_at "go"
  refine s_fld ?_
  walk_at "go"
  refine ⟨b, C_Board, dx, _, rfl, set_same, K_Board.cls, K_Board.n_layer_count, Nat.le_of_ble_eq_true rfl, ?_⟩
  rw [set_set]
  walk_at "go"
  refine s_fld ?_
  walk_at "go"
  refine ⟨b, C_Board, dx, _, rfl, set_same, K_Board.cls, K_Board.n_apart_by, Nat.le_of_ble_eq_true rfl, ?_⟩
  rw [set_set]
  walk_at "go"
  refine s_fld ?_
  walk_at "go"
  intro l1 hl1
  have ne1 := none_ne hl1
  walk_at "go"
  refine a_lc1 xyOf (fun _ => true) (ai_T ?_)
  walk_at "go"
  refine ⟨by rw [List.length_map]; have := sizeLine_eq; omega, fun x hx => at_yes ⟨rfl, rfl⟩, fun x hx _ => ?_, fun l2 hl2 => ?_⟩
  · obtain ⟨r, _, rfl⟩ := List.mem_map.mp hx
    walk_at "nf"
    walk_at "go"
    exact ⟨rfl, rfl⟩
  walk_at "go"
  have e2 : List.map xyOf (List.filter (fun _ => true) (rows.map encR)) = rows.map fun r => pt r.1 r.2.1 := by
    rw [List.filter_eq_self.mpr (fun _ _ => rfl), List.map_map]; rfl
  rw [e2]
  have ne2 := none_ne hl2
  have ne3 := none_ne (none_back hl2)
  refine ro_cat (by walk_at "mu") (by walk_at "mu") (by rw [List.length_map]; have := sizeLine_eq; simp only [List.length_cons, List.length_nil]; omega) fun l3 hl3 => ?_
  have ne4 := none_ne hl3
  have ne5 := none_ne (none_back hl3)
  have ne6 := none_ne (none_back (none_back hl3))
  walk_at "go"
  refine ⟨b, C_Board, dx, _, rfl, by walk_at "mu", K_Board.cls, K_Board.n_spots, Nat.le_of_ble_eq_true rfl, ?_⟩
  walk_at "go"
  refine s_fld ?_
  refine a_dnewK fun kg hkg => ?_
  walk_at "go"
  have nk1 := none_ne hkg
  have nk2 := none_ne (none_back hkg)
  have nk3 := none_ne (none_back (none_back hkg))
  have nk4 := none_ne (none_back (none_back (none_back hkg)))
  refine ⟨b, C_Board, dx, _, rfl, by walk_at "mu", K_Board.cls, K_Board.n_kept_gates, Nat.le_of_ble_eq_true rfl, ?_⟩
  walk_at "go"
  refine s_fld ?_
  refine a_dnewK fun kt hkt => ?_
  walk_at "go"
  have nt1 := none_ne hkt
  have nt2 := none_ne (none_back hkt)
  have nt3 := none_ne (none_back (none_back hkt))
  have nt4 := none_ne (none_back (none_back (none_back hkt)))
  have nt5 := none_ne (none_back (none_back (none_back (none_back hkt))))
  refine ⟨b, C_Board, dx, _, rfl, by walk_at "mu", K_Board.cls, K_Board.n_kept_triangles, Nat.le_of_ble_eq_true rfl, ?_⟩
  have e3 : (spots wn hn rows).map encS = [D.tup [D.int 0, D.int 0], D.tup [D.int wn, D.int 0], D.tup [D.int wn, D.int hn], D.tup [D.int 0, D.int hn]] ++ List.map (fun r => pt r.1 r.2.1) rows := by
    unfold spots; rw [List.map_append, List.map_map]; rfl
  refine qy wn hn rows ln sn ha rfl rfl rfl rfl rfl _ l3 kg kt ?_ ?_ ?_ ?_ ⟨dx, [], [], ⟨lvs_nil, lvs_nil, Ne.symm nt2⟩, ?_, ?_, ?_, ?_⟩
  · exact sb_self (sb_new (sb_self (sb_new (sb_self (sb_new (sb_new (sb_new (sb_self sb_refl) hl1) hl2) hl3)) hkg)) hkt)
  · exact none_back (none_back (none_back hl3))
  · exact none_back (none_back (none_back (none_back (none_back hkg))))
  · exact none_back (none_back (none_back (none_back (none_back (none_back (none_back hkt))))))
  · exact set_same
  · rw [e3]
    have n1 : l3 ≠ b := by assumption
    walk_at "mu"
  · walk_at "mu"
  · walk_at "mu"))) only [↓Hold.on]
def P_board_look_pin (C : Addr) : PT4 := fun ds μ Φ Ξ => ∃ b d w h rows l s sp kg kt, ds = [.ref b, d] ∧ Brd C μ b w h rows l s sp kg kt ∧ Kd μ d ∧ (wi d 0 (rows.length + 3) = true → Φ .non μ) ∧
  (wi d 0 (rows.length + 3) = false → ∀ dx, μ dx = none → Ξ "NoPin" (some dx) (μ.set dx (.xd [("pin", d)])))
theorem len_board_look_pin (C : Addr) (ds : List D) (μ : M) (Φ : D → M → Prop) (Ξ : XW) (h : P_board_look_pin C ds μ Φ Ξ) : ds.length = 2 := by
  obtain ⟨_, _, _, _, _, _, _, _, _, _, rfl, _⟩ := h
  rfl
theorem ok_board_look_pin {f : Addr} {fd : FuncData} (F : Fun K "look_pin" "Board.look_pin" s_board_look_pin f fd) (B : Bs mg) {C_Board : Addr} (K_Board : Cl_Board K C_Board) {C_NoPin : Addr} (E_NoPin : Exc1 P w K mg base "NoPin" "pin" C_NoPin) (G_is_within : Def P w K mg base "is_within" ["thing", "least", "most"] 2 (spI K P_is_within)) : FnOk P w K mg base (L2.CX P w) 4 f fd ["self", "number"] (spX K (xn mg) (P_board_look_pin C_Board)) := by
  refine Hold.out ?_
  simp (disch := (
  refine Hold.as ?_
  with_unfolding_all (
  refine F.okX sc_board_look_pin (fun vs H Q E h => spX_len h (len_board_look_pin C_Board)) (fun cdv A outer s H vs Q E hr h => ?_)
  have hu65 := hu65_of hr
  refine ⟨_, (pss_one (ps_if (pt_not (pt_val (pe_def G_is_within (hr.mono (by decide)) (by rfl) (pa_cons (pv 1) (pa_cons pe_int (pa_cons (pe_op op_sub (pe_callB (call_lenK (K := K) rfl) (by rfl) B.b_len (by decide +kernel) (pa_cons (pe_fldK (K := K) rfl (pv 0) rfl) pa_nil)) pe_int) pa_nil)))))) (pss_one (ps_raise rfl (takes_of rfl rfl rfl rfl) (pmk_e1 E_NoPin (hr.mono (by decide)) (by rfl) (pa_cons (pv 1) pa_nil)))) pss_nil)), body_okX h (fun ds μ Φ Ξ p => ?_)⟩
  (try dsimp only [cxOf, Cx.nox, Cx.wish, List.map_cons, List.map_nil])
  obtain ⟨b, d, w, h, rows, l, s, sp, kg, kt, rfl, ⟨dx, gl, tl, lvs, hb, hsp, hkg, hkt⟩, kd, qy, qn⟩ := p
  show AS K _ [some _, some _] _ _
  walk_at "go"
  refine a_fld ?_
  walk_at "go"
  refine ⟨b, C_Board, dx, _, rfl, hb, K_Board.cls, K_Board.n_spots, _, rfl, ?_⟩
  walk_at "go"
  have el : ((List.map encS (spots w h rows)).length : Int) - 1 = rows.length + 3 := by
    unfold spots
    simp only [List.length_map, List.length_append, List.length_cons, List.length_nil]
    omega
  rw [el]
  refine ⟨d, _, _, rfl, kd, _, rfl, ?_⟩
  by_cases hd : wi d 0 (rows.length + 3) = true
  · rw [hd]
    walk_at "go"
    exact qy hd
  · have hf : wi d 0 (rows.length + 3) = false := by simpa using hd
    rw [hf]
    walk_at "go"
    refine s_raise1 (x := "NoPin") (xn_at E_NoPin.mg) ?_
    walk_at "go"
    exact fun dx hdx => qn hf dx hdx))) only [↓Hold.on]
theorem use_cell {μ : M} {Φ : D → M → Prop} {ns : List Int} {k : Int} (h : 0 ≤ k) (q : ∀ z, Φ (.int z) μ) : P_l_cell_at [.rol (ns.map D.int), .int k] μ Φ := ⟨ns, k, rfl, h, q⟩
theorem use_take {μ : M} {Φ : D → M → Prop} {b : Addr} {n c m : Int} (h : μ b = some (.lst [.int c, .int m])) (hm : BgOk m) (hn : 0 < n) (hz : Sz 4000 n) (q : ∀ d c' m', 0 ≤ d → d < n → Sz 4000 d → BgOk m' → Φ (.int d) (μ.set b (.lst [.int c', .int m']))) : P_l_take [.ref b, .int n] μ Φ := ⟨b, n, c, m, rfl, h, hm, hn, hz, q⟩
theorem prime_at {k : Int} (h0 : 0 ≤ k) (h1 : k < 9) : ∃ p : Int, atI [D.int 99991, D.int 99971, D.int 99961, D.int 99929, D.int 99923, D.int 99907, D.int 99901, D.int 99881, D.int 99877] k = some (.int p) ∧ 0 < p := by
  have h : k = 0 ∨ k = 1 ∨ k = 2 ∨ k = 3 ∨ k = 4 ∨ k = 5 ∨ k = 6 ∨ k = 7 ∨ k = 8 := by omega
  rcases h with h | h | h | h | h | h | h | h | h <;> subst h <;> exact ⟨_, rfl, by decide⟩
theorem ok_l_cell_at {f : Addr} {fd : FuncData} (F : Fun K "_law_cell_at" "_law_cell_at" s_l_cell_at f fd) (B : Bs mg) : FnOk P w K mg base CX0 1 f fd ["_law_script", "_law_k"] (spI K P_l_cell_at) := by
  refine F.ok sc_l_cell_at (fun vs H Q E h => spI_len h len_l_cell_at) (fun cdv A outer s H vs Q E hr h => ?_)
  have hu65 := hu65_of hr
  refine ⟨_, (pss_cons (ps_if (pt_cmpR op_lt (pv 1) (pe_callB (call_lenK (K := K) rfl) (by rfl) B.b_len (by decide +kernel) (pa_cons (pv 0) pa_nil)) (by first | exact nomark _ | rfl)) (pss_one (ps_ret (pe_ix (ix_seqK (K := K) rfl) (pv 0) (pv 1) (fun _ _ => rfl)))) pss_nil)
      (pss_one (ps_ret pe_int))), body_ok h (fun ds μ Φ p => ?_)⟩
  (try dsimp only [cxOf, Cx.nox, Cx.wish, List.map_cons, List.map_nil])
  obtain ⟨ns, k, rfl, h0, q⟩ := p
  show AS K _ [some _, some _] _ _
  walk_at "go"
  refine ite_d (fun h => ?_) (fun h => ?_)
  · obtain ⟨z, hz⟩ := map_get (ns := ns) h0 (by simpa using h)
    walk_at "go"
    refine ro_ix rfl hz ?_
    exact q z
  · walk_at "go"
    exact q 0
theorem ok_l_bag {f : Addr} {fd : FuncData} (F : Fun K "_law_bag" "_law_bag" s_l_bag f fd) (B : Bs mg) (G_l_cell_at : Def P w K mg base "_law_cell_at" ["_law_script", "_law_k"] 1 (spI K P_l_cell_at)) : FnOk P w K mg base CX0 2 f fd ["_law_script", "_law_at"] (spI K P_l_bag) := by
  refine Hold.out ?_
  simp (disch := (
  refine Hold.as ?_
  with_unfolding_all (
  refine F.ok sc_l_bag (fun vs H Q E h => spI_len h len_l_bag) (fun cdv A outer s H vs Q E hr h => ?_)
  have hu65 := hu65_of hr
  refine ⟨_, (pss_cons (ps_set (i := 2) sc_l_bag.nd rfl (by first | exact Or.inl rfl | exact Or.inr rfl) (pe_tup (pa_cons pe_int (pa_cons pe_int (pa_cons pe_int (pa_cons pe_int (pa_cons pe_int (pa_cons pe_int (pa_cons pe_int (pa_cons pe_int (pa_cons pe_int pa_nil)))))))))))
      (pss_cons (ps_set (i := 3) sc_l_bag.nd rfl (by first | exact Or.inl rfl | exact Or.inr rfl) (pe_def G_l_cell_at (hr.mono (by decide)) (by rfl) (pa_cons (pv 0) (pa_cons (pv 1) pa_nil))))
      (pss_cons (ps_set (i := 4) sc_l_bag.nd rfl (by first | exact Or.inl rfl | exact Or.inr rfl) (pe_op op_add (pe_op op_mulW pe_int (pv 1)) pe_int))
      (pss_cons (ps_for PassesOwn.never rfl (pi_range1 (by rfl) B.b_range (pa_cons pe_int pa_nil)) (pg_name (i := 5) sc_l_bag.nd rfl (by first | exact Or.inl rfl | exact Or.inr rfl))
      (pss_cons (ps_set (i := 6) sc_l_bag.nd rfl (by first | exact Or.inl rfl | exact Or.inr rfl) (pe_op op_add (pe_op op_add (pe_op op_mod (pe_def G_l_cell_at (hr.mono (by decide)) (by rfl) (pa_cons (pv 0) (pa_cons (pe_op op_add (pv 1) (pv 5)) pa_nil))) (pe_op op_pow pe_int pe_int)) (pe_op op_mulW pe_int (pv 5))) pe_int))
      (pss_one (ps_set (i := 4) sc_l_bag.nd rfl (by first | exact Or.inl rfl | exact Or.inr rfl) (pe_op op_mod (pe_op op_add (pe_op op_mulW (pv 4) pe_int) (pe_op op_mod (pe_op op_pow (pv 6) pe_int) (pe_ix (ix_seqK (K := K) rfl) (pv 2) (pv 5) (fun _ _ => rfl)))) pe_int)))))
      (pss_cons (ps_if (pt_cmpR op_lt (pv 3) (pe_op op_pow pe_int pe_int) (by first | exact nomark _ | rfl)) (pss_one (ps_set (i := 3) sc_l_bag.nd rfl (by first | exact Or.inl rfl | exact Or.inr rfl) pe_int)) pss_nil)
      (pss_one (ps_ret (pe_lst (pa_cons (pv 3) (pa_cons (pe_op op_add (pv 4) pe_int) pa_nil)))))))))), body_ok h (fun ds μ Φ p => ?_)⟩
  (try dsimp only [cxOf, Cx.nox, Cx.wish, List.map_cons, List.map_nil])
  obtain ⟨ns, k, rfl, h0, h1, q⟩ := p
  show AS K _ [some _, some _, none, none, none, none, none] _ _
  have sk : Sz 31 k := by unfold Sz; omega
  walk_at "go"
  refine use_cell h0 fun cell => ?_
  walk_at "go"
  refine s_for1 9 (fun i τ' μ' => μ' = μ ∧ ∃ (mix : Int) (o5 o6 : Option D), τ' = [some (.rol (ns.map D.int)), some (.int k), some (.tup [D.int 99991, D.int 99971, D.int 99961, D.int 99929, D.int 99923, D.int 99907, D.int 99901, D.int 99881, D.int 99877]), some (.int cell), some (.int mix), o5, o6] ∧ 0 ≤ mix ∧ mix < 2147483629) ?_ ?_ ?_
  · walk_at "go"
    exact ⟨rfl, by decide, by decide, rfl, 7919 * k + 29, none, none, rfl, by omega, by omega⟩
  · rintro i τ' μ' hi ⟨rfl, mix, o5, o6, rfl, m0, m1⟩
    have sm : Sz 31 mix := by unfold Sz; omega
    have si : Sz 31 (i : Int) := by unfold Sz; omega
    obtain ⟨pr, hp, hp0⟩ := prime_at (k := (i : Int)) (by omega) hi
    walk_at "go"
    refine use_cell (by omega) fun z => ?_
    walk_at "go"
    refine ro_ix rfl hp ?_
    walk_at "go"
    exact ⟨rfl, _, _, _, rfl, Int.emod_nonneg _ (by decide), Int.emod_lt_of_pos _ (by decide)⟩
  · rintro τ' μ' ⟨rfl, mix, o5, o6, rfl, m0, m1⟩
    walk_at "go"
    refine ite_d (fun h => ?_) (fun h => ?_)
    · walk_at "go"
      exact fun a ha => q a _ _ ha ⟨by omega, by omega⟩
    · walk_at "go"
      exact fun a ha => q a _ _ ha ⟨by omega, by omega⟩))) only [↓Hold.on]
theorem ok_l_take {f : Addr} {fd : FuncData} (F : Fun K "_law_take" "_law_take" s_l_take f fd) (B : Bs mg) : FnOk P w K mg base CX0 1 f fd ["_law_bag_here", "_law_many"] (spI K P_l_take) := by
  refine F.ok sc_l_take (fun vs H Q E h => spI_len h len_l_take) (fun cdv A outer s H vs Q E hr h => ?_)
  have hu65 := hu65_of hr
  refine ⟨_, (pss_cons (ps_if (pt_cmpR op_gt (pe_ix (ix_seqK (K := K) rfl) (pv 0) pe_int (fun _ _ => rfl)) pe_int (by first | exact nomark _ | rfl)) (pss_cons (ps_set (i := 2) sc_l_take.nd rfl (by first | exact Or.inl rfl | exact Or.inr rfl) (pe_op op_mod (pe_ix (ix_seqK (K := K) rfl) (pv 0) pe_int (fun _ _ => rfl)) (pv 1)))
      (pss_cons (ps_asg (pe_op op_fdivW (pe_ix (ix_seqK (K := K) rfl) (pv 0) pe_int (fun _ _ => rfl)) (pv 1)) (pg_sub (pv 0) pe_int set_list))
      (pss_one (ps_ret (pv 2))))) pss_nil)
      (pss_cons (ps_asg (pe_op op_mod (pe_op op_mulW (pe_ix (ix_seqK (K := K) rfl) (pv 0) pe_int (fun _ _ => rfl)) pe_int) pe_int) (pg_sub (pv 0) pe_int set_list))
      (pss_one (ps_ret (pe_op op_mod (pe_op op_mod (pe_op op_mod (pe_op op_pow (pe_ix (ix_seqK (K := K) rfl) (pv 0) pe_int (fun _ _ => rfl)) pe_int) pe_int) pe_int) (pv 1)))))), body_ok h (fun ds μ Φ p => ?_)⟩
  (try dsimp only [cxOf, Cx.nox, Cx.wish, List.map_cons, List.map_nil])
  obtain ⟨b, n, c, m, rfl, hb, hm, hn, hz, q⟩ := p
  show AS K _ [some _, some _, none] _ _
  have sm : Sz 31 m := by unfold Sz; have := hm.1; have := hm.2; omega
  walk_at "go"
  refine ite_d (fun h => ?_) (fun h => ?_)
  · walk_at "go"
    exact q _ _ _ (Int.emod_nonneg _ (by omega)) (Int.emod_lt_of_pos _ hn) (sz_mod hn hz) hm
  · walk_at "go"
    exact q _ _ _ (Int.emod_nonneg _ (by omega)) (Int.emod_lt_of_pos _ hn) (sz_mod hn hz) ⟨Int.emod_nonneg _ (by decide), by have := Int.emod_lt_of_pos (m * 48271) (show (0 : Int) < 2147483647 by decide); omega⟩
theorem use_bag {μ : M} {Φ : D → M → Prop} {ns : List Int} {k : Int} (h0 : 0 ≤ k) (h1 : k ≤ 1000) (q : ∀ p c m, μ p = none → BgOk m → Φ (.ref p) (μ.set p (.lst [.int c, .int m]))) : P_l_bag [.rol (ns.map D.int), .int k] μ Φ := ⟨ns, k, rfl, h0, h1, q⟩
/-- what a law has drawn for a board -/
structure Made (w h : Int) (rows : List R4) (fl gap : Int) : Prop where
  ok : ab (.int w) (.int h) (.tup (rows.map encR)) (.int fl) (.int gap) = true
  w1 : w ≤ 900000
  h1 : h ≤ 900000
  g1 : gap ≤ 900000
def P_l_made : PT3 := fun ds μ Φ => ∃ (b : Addr) (most c m : Int), ds = [.ref b, .int most] ∧ μ b = some (.lst [.int c, .int m]) ∧ BgOk m ∧ 0 ≤ most ∧ most ≤ 16 ∧ ∀ w h rows fl gap c' m', Made w h rows fl gap → BgOk m' →
  Φ (.tup [.int w, .int h, .tup (rows.map encR), .int fl, .int gap]) (μ.set b (.lst [.int c', .int m']))
theorem len_l_made (ds : List D) (μ : M) (Φ : D → M → Prop) (h : P_l_made ds μ Φ) : ds.length = 2 := by
  obtain ⟨_, _, _, _, rfl, _⟩ := h
  rfl
theorem use_made {μ : M} {Φ : D → M → Prop} {b : Addr} {most c m : Int} (h : μ b = some (.lst [.int c, .int m])) (hm : BgOk m) (h0 : 0 ≤ most) (h1 : most ≤ 16) (q : ∀ w h rows fl gap c' m', Made w h rows fl gap → BgOk m' → Φ (.tup [.int w, .int h, .tup (rows.map encR), .int fl, .int gap]) (μ.set b (.lst [.int c', .int m']))) :
    P_l_made [.ref b, .int most] μ Φ := ⟨b, most, c, m, rfl, h, hm, h0, h1, q⟩
abbrev ent (r : R4) : List Key × D := ([.inl r.1, .inl r.2.1], .tup [.int r.2.2.1, .int r.2.2.2])
theorem ent_none {x y : Int} : ∀ {rows : List R4}, valD (rows.map ent) [.inl x, .inl y] = none → [x, y] ∉ rows.map (fun r => [r.1, r.2.1])
  | [], _, h => by simp at h
  | r :: rows, h, z => by
    rw [List.map_cons, valD_cons] at h
    by_cases e : (ent r).1 = [.inl x, .inl y]
    · rw [if_pos e] at h; cases h
    · rw [if_neg e] at h
      rcases List.mem_cons.mp z with z | z
      · simp only [List.cons.injEq, and_true] at z
        exact e (by simp [ent, z.1, z.2])
      · exact ent_none h z
theorem ent_at : ∀ {rows : List R4} {i : Nat} {r : R4}, (rows.map fun r => [r.1, r.2.1]).Nodup → rows[i]? = some r → valD (rows.map ent) (ent r).1 = some (ent r).2
  | [], i, r, _, h => by simp at h
  | s :: rows, 0, r, _, h => by
    simp at h
    subst h
    rw [List.map_cons, valD_cons, if_pos rfl]
  | s :: rows, i + 1, r, hn, h => by
    rw [List.map_cons, List.nodup_cons] at hn
    have h2 : rows[i]? = some r := by simpa using h
    have ne : ¬ (ent s).1 = (ent r).1 := fun e => by
      simp [ent] at e
      exact hn.1 (List.mem_map.mpr ⟨r, List.mem_of_getElem? h2, by rw [e.1, e.2]⟩)
    rw [List.map_cons, valD_cons, if_neg ne]
    exact ent_at hn.2 h2
/-- the rows so far -/
structure Rws (w h fl : Int) (rows : List R4) : Prop where
  ok : ∀ r ∈ rows, (0 < r.1 ∧ r.1 < w) ∧ (0 < r.2.1 ∧ r.2.1 < h) ∧ 0 ≤ r.2.2.1 ∧ r.2.2.1 ≤ r.2.2.2 ∧ r.2.2.2 < fl
  nd : (rows.map fun r => [r.1, r.2.1]).Nodup
theorem Rws.more {w h fl : Int} {rows : List R4} {x y f g : Int} (a : Rws w h fl rows) (n : [x, y] ∉ rows.map (fun r => [r.1, r.2.1])) (hx : 0 < x ∧ x < w) (hy : 0 < y ∧ y < h) (h0 : 0 ≤ f) (h1 : f ≤ g) (h2 : g < fl) : Rws w h fl (rows ++ [(x, y, f, g)]) := by
  refine ⟨fun r hr => ?_, ?_⟩
  · rcases List.mem_append.mp hr with z | z
    · exact a.ok r z
    · rw [List.mem_singleton.mp z]; exact ⟨hx, hy, h0, h1, h2⟩
  · rw [List.map_append, List.nodup_append]
    refine ⟨a.nd, by simp, fun k hk j hj e => ?_⟩
    simp at hj
    subst hj e
    exact n hk
theorem Rws.made {w h fl gap : Int} {rows : List R4} (a : Rws w h fl rows) (hl : rows.length ≤ 16) (w0 : 2 ≤ w) (w1 : w ≤ 900000) (h0 : 2 ≤ h) (h1 : h ≤ 900000) (f0 : 1 ≤ fl) (f1 : fl ≤ 3) (g0 : 1 ≤ gap) (g1 : gap ≤ 900000) : Made w h rows fl gap := by
  refine ⟨?_, w1, h1, g1⟩
  have g2 : gap ≤ 1000000 := by omega
  have e1 : ((rows.map encR).all fun r => pr r w h fl) = true := by
    rw [List.all_eq_true]
    intro d hd
    obtain ⟨r, hr, rfl⟩ := List.mem_map.mp hd
    obtain ⟨k1, k2, k3, k4, k5⟩ := a.ok r hr
    simp [pr, k1, k2, k3, k4, k5]
  have e2 : ((rows.map encR).map spot).Nodup := by
    rw [List.map_map]
    exact a.nd
  have z1 : w ≤ 1000000 := by omega
  have z2 : h ≤ 1000000 := by omega
  simp only [ab, wi, e1, e2, w0, z1, h0, z2, f0, f1, g0, g2, List.length_map, hl, decide_true, Bool.and_true]
theorem pick3 {d : Int} (h0 : 0 ≤ d) (h1 : d < 3) : ∃ z : Int, atI [D.int 1, D.int 3, D.int 100000] d = some (.int z) ∧ 0 < z ∧ z ≤ 100000 := by
  have h : d = 0 ∨ d = 1 ∨ d = 2 := by omega
  rcases h with h | h | h <;> subst h <;> exact ⟨_, rfl, by decide, by decide⟩
theorem pickD {d : Int} (a c : D) (h0 : 0 ≤ d) (h1 : d < 2) : ∃ z : D, atI [a, c] d = some z ∧ (z = a ∨ z = c) := by
  have h : d = 0 ∨ d = 1 := by omega
  rcases h with h | h <;> subst h
  · exact ⟨a, rfl, .inl rfl⟩
  · exact ⟨c, rfl, .inr rfl⟩
/-- a * d lies below a * n -/
theorem mul_in {a d n : Int} (ha : 0 < a) (h0 : 1 ≤ d) (h1 : d < n) : 0 < a * d ∧ a * d < a * n := ⟨Int.mul_pos ha (by omega), Int.mul_lt_mul_of_pos_left h1 ha⟩
/-- between the turns of _law_made -/
def MdT (b pd : Addr) (μ0 : M) (W H fl : Int) (pre : T) (k : Nat) : T → M → Prop := fun τ' μ' => ∃ (rows : List R4) (c m : Int) (o9 o10 o11 o12 : Option D), μ' b = some (.lst [.int c, .int m]) ∧ BgOk m ∧ μ' pd = some (.dT (rows.map ent)) ∧ SubB b μ0 μ' ∧ rows.length ≤ k ∧ Rws W H fl rows ∧ τ' = pre ++ [some (.ref pd), o9, o10, o11, o12]
/-- within a turn: the place is drawn -/
def MdC (b pd : Addr) (μ0 : M) (W H : Int) (rows : List R4) (pre : T) (i : D) (o11 o12 : Option D) : T → M → Prop := fun τ' μ' => ∃ x y c m : Int, (0 < x ∧ x < W) ∧ (0 < y ∧ y < H) ∧ μ' b = some (.lst [.int c, .int m]) ∧ BgOk m ∧ μ' pd = some (.dT (rows.map ent)) ∧ SubB b μ0 μ' ∧ τ' = pre ++ [some (.ref pd), some i, some (pt x y), o11, o12]
theorem ok_l_made {f : Addr} {fd : FuncData} (F : Fun K "_law_made" "_law_made" s_l_made f fd) (B : Bs mg) (G_l_take : Def P w K mg base "_law_take" ["_law_bag_here", "_law_many"] 1 (spI K P_l_take)) : FnOk P w K mg base CX0 3 f fd ["_law_bag_here", "_law_most"] (spI K P_l_made) := by
  refine Hold.out ?_
  simp (disch := (
  refine Hold.as ?_
  with_unfolding_all (
  refine F.ok sc_l_made (fun vs H Q E h => spI_len h len_l_made) (fun cdv A outer s H vs Q E hr h => ?_)
  have hu65 := hu65_of hr
  refine ⟨_, (pss_cons (ps_set (i := 2) sc_l_made.nd rfl (by first | exact Or.inl rfl | exact Or.inr rfl) (pe_def G_l_take (hr.mono (by decide)) (by rfl) (pa_cons (pv 0) (pa_cons pe_int pa_nil))))
      (pss_cons (ps_par (i := 3) (j := 4) rfl sc_l_made.nd rfl rfl (by decide) rfl rfl (pa_cons (pe_op op_add pe_int (pe_def G_l_take (hr.mono (by decide)) (by rfl) (pa_cons (pv 0) (pa_cons pe_int pa_nil)))) (pa_cons (pe_op op_add pe_int (pe_def G_l_take (hr.mono (by decide)) (by rfl) (pa_cons (pv 0) (pa_cons pe_int pa_nil)))) pa_nil)) (by rfl))
      (pss_cons (ps_set (i := 5) sc_l_made.nd rfl (by first | exact Or.inl rfl | exact Or.inr rfl) (pe_ix (ix_seqK (K := K) rfl) (pe_lst (pa_cons pe_int (pa_cons pe_int (pa_cons pe_int pa_nil)))) (pe_def G_l_take (hr.mono (by decide)) (by rfl) (pa_cons (pv 0) (pa_cons pe_int pa_nil))) (fun _ _ => rfl)))
      (pss_cons (ps_par (i := 6) (j := 7) rfl sc_l_made.nd rfl rfl (by decide) rfl rfl (pa_cons (pe_op op_add pe_int (pe_def G_l_take (hr.mono (by decide)) (by rfl) (pa_cons (pv 0) (pa_cons (pe_op op_sub (pv 4) pe_int) pa_nil)))) (pa_cons (pe_op op_add pe_int (pe_def G_l_take (hr.mono (by decide)) (by rfl) (pa_cons (pv 0) (pa_cons pe_int pa_nil)))) pa_nil)) (by rfl))
      (pss_cons (ps_set (i := 8) sc_l_made.nd rfl (by first | exact Or.inl rfl | exact Or.inr rfl) pe_dnewT)
      (pss_cons (ps_for PassesOwn.never rfl (pi_range1 (by rfl) B.b_range (pa_cons (pe_def G_l_take (hr.mono (by decide)) (by rfl) (pa_cons (pv 0) (pa_cons (pe_op op_add (pv 1) pe_int) pa_nil))) pa_nil)) (pg_name (i := 9) sc_l_made.nd rfl (by first | exact Or.inl rfl | exact Or.inr rfl))
      (pss_cons (ps_set (i := 10) sc_l_made.nd rfl (by first | exact Or.inl rfl | exact Or.inr rfl) (pe_tup (pa_cons (pe_op op_mulW (pv 5) (pe_op op_add pe_int (pe_def G_l_take (hr.mono (by decide)) (by rfl) (pa_cons (pv 0) (pa_cons (pe_op op_sub (pv 3) pe_int) pa_nil))))) (pa_cons (pe_op op_mulW (pv 5) (pe_op op_add pe_int (pe_def G_l_take (hr.mono (by decide)) (by rfl) (pa_cons (pv 0) (pa_cons (pe_op op_sub (pv 4) pe_int) pa_nil))))) pa_nil))))
      (pss_cons (ps_if (pt_cmpR op_eq (pv 2) pe_int (by first | exact nomark _ | rfl)) (pss_one (ps_set (i := 10) sc_l_made.nd rfl (by first | exact Or.inl rfl | exact Or.inr rfl) (pe_tup (pa_cons (pe_ix (ix_seqK (K := K) rfl) (pv 10) pe_int (fun _ _ => rfl)) (pa_cons (pe_op op_mulW (pv 5) (pv 6)) pa_nil))))) pss_nil)
      (pss_cons (ps_if (pt_cmpR op_eq (pv 2) pe_int (by first | exact nomark _ | rfl)) (pss_one (ps_set (i := 10) sc_l_made.nd rfl (by first | exact Or.inl rfl | exact Or.inr rfl) (pe_tup (pa_cons (pe_op op_add pe_int (pe_def G_l_take (hr.mono (by decide)) (by rfl) (pa_cons (pv 0) (pa_cons (pe_op op_sub (pe_op op_mulW (pv 5) (pv 3)) pe_int) pa_nil)))) (pa_cons (pe_op op_add pe_int (pe_def G_l_take (hr.mono (by decide)) (by rfl) (pa_cons (pv 0) (pa_cons (pe_op op_sub (pe_op op_mulW (pv 5) (pv 4)) pe_int) pa_nil)))) pa_nil))))) pss_nil)
      (pss_cons (ps_if (pt_cmpR op_eq (pv 2) pe_int (by first | exact nomark _ | rfl)) (pss_one (ps_set (i := 10) sc_l_made.nd rfl (by first | exact Or.inl rfl | exact Or.inr rfl) (pe_tup (pa_cons (pe_ix (ix_seqK (K := K) rfl) (pv 10) pe_int (fun _ _ => rfl)) (pa_cons (pe_ix (ix_seqK (K := K) rfl) (pe_lst (pa_cons pe_int (pa_cons (pe_op op_sub (pe_op op_mulW (pv 5) (pv 4)) pe_int) pa_nil))) (pe_def G_l_take (hr.mono (by decide)) (by rfl) (pa_cons (pv 0) (pa_cons pe_int pa_nil))) (fun _ _ => rfl)) pa_nil))))) pss_nil)
      (pss_cons (ps_set (i := 11) sc_l_made.nd rfl (by first | exact Or.inl rfl | exact Or.inr rfl) (pe_op op_mulW (pe_def G_l_take (hr.mono (by decide)) (by rfl) (pa_cons (pv 0) (pa_cons (pv 7) pa_nil))) (pe_def G_l_take (hr.mono (by decide)) (by rfl) (pa_cons (pv 0) (pa_cons pe_int pa_nil)))))
      (pss_one (ps_if (pt_cmp (pc_dnotin (hu_of hr) (pv 10) (pv 8))) (pss_one (ps_dput (hu_of hr) (pv 8) (pv 10) (pe_tup (pa_cons (pv 11) (pa_cons (pe_op op_add (pv 11) (pe_def G_l_take (hr.mono (by decide)) (by rfl) (pa_cons (pv 0) (pa_cons (pe_op op_sub (pv 7) (pv 11)) pa_nil)))) pa_nil))) (by rfl))) pss_nil))))))))
      (pss_cons (ps_set (i := 12) sc_l_made.nd rfl (by first | exact Or.inl rfl | exact Or.inr rfl) (pe_callTy (call_tupleK (K := K) rfl) (by rfl) B.b_tuple (by decide +kernel) (pa_cons (pe_lock (pe_lc (own := [("_law_spot", 10)]) (g := gName 10) (tt := tYes) rfl sc_l_made.nd (pi_keys (pv 8)) (blkOk_by (own := [("_law_spot", 10)]) (N := N_l_made) (sc := defScope s_l_made) (by decide +kernel)) (fun _ _ _ _ _ => (pg_name (i := 10) sc_l_made.nd rfl (by first | exact Or.inl rfl | exact Or.inr rfl))) (fun _ _ _ _ _ => pts_nil) (fun _ _ _ _ _ => (pe_op (op_catAK (K := K) rfl) (pv 10) (pe_dget (hu_of hr) (pv 8) (pv 10) (fun _ _ => rfl)))))) pa_nil)))
      (pss_one (ps_ret (pe_tup (pa_cons (pe_op op_mulW (pv 5) (pv 3)) (pa_cons (pe_op op_mulW (pv 5) (pv 4)) (pa_cons (pv 12) (pa_cons (pv 7) (pa_cons (pe_op op_add pe_int (pe_def G_l_take (hr.mono (by decide)) (by rfl) (pa_cons (pv 0) (pa_cons (pe_ix (ix_seqK (K := K) rfl) (pe_lst (pa_cons pe_int (pa_cons (pv 5) pa_nil))) (pe_def G_l_take (hr.mono (by decide)) (by rfl) (pa_cons (pv 0) (pa_cons pe_int pa_nil))) (fun _ _ => rfl)) pa_nil)))) pa_nil))))))))))))))), body_okU h (fun ds μ Φ p => ?_)⟩
  (try dsimp only [cxOf, Cx.nox, Cx.wish, List.map_cons, List.map_nil])
  obtain ⟨b, most, c, m, rfl, hb, hm, mo0, mo1, q⟩ := p
  show AS K _ [some _, some _, none, none, none, none, none, none, none, none, none, none, none] _ _
  walk_at "go"
  refine use_take hb hm (by decide) (by walk_at "szN") fun way c1 m1 a1 a2 s1 hm1 => ?_
  walk_at "go"
  refine use_take set_same hm1 (by decide) (by walk_at "szN") fun d2 c2 m2 b1 b2 s2 hm2 => ?_
  walk_at "go"
  refine use_take set_same hm2 (by decide) (by walk_at "szN") fun d3 c3 m3 e1 e2 s3 hm3 => ?_
  walk_at "go"
  rw [set_set, set_set]
  generalize hwd : 2 + d2 = wide
  generalize hhi : 2 + d3 = high
  have w0 : 2 ≤ wide ∧ wide ≤ 9 := by omega
  have h0 : 2 ≤ high ∧ high ≤ 9 := by omega
  have zw : Sz 8 wide := by unfold Sz; omega
  have zh : Sz 8 high := by unfold Sz; omega
  intro l hl
  have hlb : l ≠ b := none_ne hl
  walk_at "go"
  refine use_take (by walk_at "mu") hm3 (by decide) (by walk_at "szN") fun d4 c4 m4 f1 f2 s4 hm4 => ?_
  obtain ⟨sc, k1, sc0, sc1⟩ := pick3 f1 f2
  have zs : Sz 20 sc := by unfold Sz; omega
  walk_at "go"
  refine ro_ix (seq_ref (by walk_at "mu")) k1 ?_
  walk_at "go"
  refine use_take (by walk_at "mu") hm4 (by omega) (by walk_at "szN") fun d5 c5 m5 g1 g2 s5 hm5 => ?_
  walk_at "go"
  refine use_take (by walk_at "mu") hm5 (by decide) (by walk_at "szN") fun d6 c6 m6 i1 i2 s6 hm6 => ?_
  walk_at "go"
  generalize hrw : 1 + d5 = rw0
  generalize hfl : 1 + d6 = fl
  have r0 : 1 ≤ rw0 ∧ rw0 < high := by omega
  have f0 : 1 ≤ fl ∧ fl ≤ 3 := by omega
  have zr : Sz 8 rw0 := by unfold Sz; omega
  have zf : Sz 8 fl := by unfold Sz; omega
  refine a_dnewT fun pd hpd => ?_
  walk_at "go"
  have hpb : pd ≠ b := by
    intro z
    subst z
    have := hpd
    simp [set_same] at this
  have hpn : μ pd = none := none_back (none_back (none_back (none_back (none_back hpd))))
  refine s_for (ai_1 ?_)
  walk_at "go"
  refine use_take (by walk_at "mu") hm6 (by omega) (sz_mono (show Sz 8 (most + 1) by unfold Sz; omega) (by decide)) fun d7 c7 m7 j1 j2 s7 hm7 => ?_
  walk_at "go"
  have zsc : Sz 30 (sc * wide) ∧ Sz 30 (sc * high) := ⟨by walk_at "szN", by walk_at "szN"⟩
  have d7m : d7 ≤ most := by omega
  have bw : 2 ≤ sc * wide ∧ sc * wide ≤ 900000 ∧ 2 ≤ sc * high ∧ sc * high ≤ 900000 := by
    have q1 : 1 * wide ≤ sc * wide := Int.mul_le_mul_of_nonneg_right (by omega) (by omega)
    have q2 : sc * wide ≤ 100000 * wide := Int.mul_le_mul_of_nonneg_right sc1 (by omega)
    have q3 : 1 * high ≤ sc * high := Int.mul_le_mul_of_nonneg_right (by omega) (by omega)
    have q4 : sc * high ≤ 100000 * high := Int.mul_le_mul_of_nonneg_right sc1 (by omega)
    omega
  refine ⟨by omega, by omega, MdT b pd μ (sc * wide) (sc * high) fl [some (.ref b), some (.int most), some (.int way), some (.int wide), some (.int high), some (.int sc), some (.int rw0), some (.int fl)], ?_, ?_, ?_⟩
  · exact ⟨[], _, _, none, none, none, none, set_same, hm7, by walk_at "mu", sb_self (sb_new (sb_self (sb_self (sb_self (sb_new (sb_self sb_refl) hl)))) hpd), Nat.zero_le _, ⟨fun r hr => (by cases hr), List.nodup_nil⟩, rfl⟩
  · rintro i it τ' μ' hx ⟨rows, c8, m8, o9, o10, o11, o12, hb8, hm8, hp8, sb8, hl8, R8, rfl⟩
    have hi : i < d7.toNat := by
      have := (List.getElem?_eq_some_iff.mp hx).1
      simpa using this
    clear hx hl
    dsimp only [List.cons_append, List.nil_append]
    walk_at "go"
    refine use_take hb8 hm8 (by omega) (by walk_at "szN") fun d8 c9 m9 t1 t2 t3 hm9 => ?_
    have zd8 : Sz 8 d8 := by unfold Sz; omega
    walk_at "go"
    refine use_take set_same hm9 (by omega) (by walk_at "szN") fun d9 c10 m10 u1 u2 u3 hm10 => ?_
    have zd9 : Sz 8 d9 := by unfold Sz; omega
    walk_at "go"
    have x1 := mul_in (a := sc) (d := 1 + d8) (n := wide) sc0 (by omega) (by omega)
    have x2 := mul_in (a := sc) (d := 1 + d9) (n := high) sc0 (by omega) (by omega)
    have x3 := mul_in (a := sc) (d := rw0) (n := high) sc0 (by omega) (by omega)
    refine if_cut (MdC b pd μ (sc * wide) (sc * high) rows [some (.ref b), some (.int most), some (.int way), some (.int wide), some (.int high), some (.int sc), some (.int rw0), some (.int fl)] it o11 o12) (fun _ => ?_) (fun _ => ?_) ?_
    · walk_at "go"
      exact ⟨_, _, _, _, x1, x3, set_same, hm10, by walk_at "mu", sb_self (sb_self sb8), rfl⟩
    · walk_at "go"
      exact ⟨_, _, _, _, x1, x2, set_same, hm10, by walk_at "mu", sb_self (sb_self sb8), rfl⟩
    clear x1 x2 x3 hb8 hp8 sb8
    rintro τ1 μ1 ⟨x, y, c1, m1, bx, by_, hb1, hm1, hp1, sb1, rfl⟩
    dsimp only [List.cons_append, List.nil_append]
    walk_at "go"
    refine if_cut (MdC b pd μ (sc * wide) (sc * high) rows [some (.ref b), some (.int most), some (.int way), some (.int wide), some (.int high), some (.int sc), some (.int rw0), some (.int fl)] it o11 o12) (fun _ => ?_) (fun _ => ?_) ?_
    · walk_at "go"
      refine use_take hb1 hm1 (by omega) (sz_mono (sz_sub zsc.1 (sz_2 (by decide))) (by decide)) fun e8 c9 m9 t1 t2 t3 hm9 => ?_
      walk_at "go"
      refine use_take set_same hm9 (by omega) (sz_mono (sz_sub zsc.2 (sz_2 (by decide))) (by decide)) fun e9 c10 m10 u1 u2 u3 hm10 => ?_
      walk_at "go"
      exact ⟨_, _, _, _, by omega, by omega, set_same, hm10, by walk_at "mu", sb_self (sb_self sb1), rfl⟩
    · walk_at "go"
      exact ⟨_, _, _, _, bx, by_, hb1, hm1, hp1, sb1, rfl⟩
    clear bx by_ hb1 hm1 hp1 sb1
    rintro τ2 μ2 ⟨x, y, c1, m1, bx, by_, hb1, hm1, hp1, sb1, rfl⟩
    dsimp only [List.cons_append, List.nil_append]
    walk_at "go"
    refine if_cut (MdC b pd μ (sc * wide) (sc * high) rows [some (.ref b), some (.int most), some (.int way), some (.int wide), some (.int high), some (.int sc), some (.int rw0), some (.int fl)] it o11 o12) (fun _ => ?_) (fun _ => ?_) ?_
    · walk_at "go"
      intro l3 hl3
      have hl3b : l3 ≠ b := ne_of_some hl3 hb1
      have hl3p : l3 ≠ pd := ne_of_some hl3 hp1
      walk_at "go"
      refine use_take (by walk_at "mu") hm1 (by decide) (by walk_at "szN") fun e8 c9 m9 t1 t2 t3 hm9 => ?_
      obtain ⟨z, hz, hz2⟩ := pickD (.int 1) (.int (sc * high - 1)) t1 t2
      obtain ⟨yy, rfl, hy⟩ : ∃ yy : Int, z = .int yy ∧ (0 < yy ∧ yy < sc * high) := by
        rcases hz2 with e | e
        · exact ⟨1, e, by omega⟩
        · exact ⟨_, e, by omega⟩
      walk_at "go"
      refine ro_ix (seq_ref (by walk_at "mu")) hz ?_
      walk_at "go"
      exact ⟨_, _, _, _, bx, hy, set_same, hm9, by walk_at "mu", sb_self (sb_new sb1 hl3), rfl⟩
    · walk_at "go"
      exact ⟨_, _, _, _, bx, by_, hb1, hm1, hp1, sb1, rfl⟩
    clear bx by_ hb1 hm1 hp1 sb1
    rintro τ3 μ3 ⟨x, y, c1, m1, bx, by_, hb1, hm1, hp1, sb1, rfl⟩
    dsimp only [List.cons_append, List.nil_append]
    walk_at "go"
    refine use_take hb1 hm1 (by omega) (by walk_at "szN") fun e8 c9 m9 t1 t2 t3 hm9 => ?_
    have ze8 : Sz 8 e8 := by unfold Sz; omega
    walk_at "go"
    refine use_take set_same hm9 (by omega) (by walk_at "szN") fun e9 c10 m10 u1 u2 u3 hm10 => ?_
    have ze9 : Sz 8 e9 := by unfold Sz; omega
    walk_at "go"
    rw [set_set]
    have lo : 0 ≤ e8 * e9 ∧ e8 * e9 ≤ e8 := by
      have h : e9 = 0 ∨ e9 = 1 := by omega
      rcases h with rfl | rfl <;> omega
    have zlo : Sz 8 (e8 * e9) := by unfold Sz; omega
    generalize e8 * e9 = low at lo zlo ⊢
    have hp2 : (μ3.set b (.lst [.int c10, .int m10])) pd = some (.dT (rows.map ent)) := by walk_at "mu"
    refine a_dnotin ?_
    walk_at "go"
    refine ⟨pd, _, rfl, .inr (.inl ⟨_, [.inl x, .inl y], hp2, rfl, rfl⟩), ?_⟩
    refine ⟨_, rfl, ?_⟩
    cases hv : valD (rows.map ent) [.inl x, .inl y] with
    | some v =>
      simp only [Option.isSome_some, Bool.not_true, Bool.false_eq_true, if_false]
      walk_at "go"
      exact ⟨rows, _, _, _, _, _, _, set_same, hm10, hp2, sb_self sb1, by omega, R8, rfl⟩
    | none =>
      simp only [Option.isSome_none, Bool.not_false, if_true]
      refine s_dput ?_
      walk_at "go"
      refine use_take (by walk_at "mu") hm10 (by omega) (by walk_at "szN") fun e10 c11 m11 v1 v2 v3 hm11 => ?_
      have ze10 : Sz 8 e10 := by unfold Sz; omega
      walk_at "go"
      have hp3 : ((μ3.set b (.lst [.int c10, .int m10])).set b (.lst [.int c11, .int m11])) pd = some (.dT (rows.map ent)) := by walk_at "mu"
      refine .inl ⟨_, [.inl x, .inl y], hp3, rfl, ?_, ?_⟩
      · rw [List.length_map]; have := sizeLine_eq; omega
      have hnb : b ≠ pd := Ne.symm hpb
      refine ⟨rows ++ [(x, y, low, low + e10)], c11, m11, _, _, _, _, by walk_at "mu", hm11, ?_, ?_, ?_, ?_, rfl⟩
      · rw [putKD_new hv, List.map_append]
        exact set_same
      · intro a m na ea
        have h1 := sb1 a m na ea
        have np : a ≠ pd := fun z => by rw [z, hpn] at ea; cases ea
        rw [set_ne np, set_ne na, set_ne na]
        exact h1
      · rw [List.length_append]
        simp only [List.length_cons, List.length_nil]
        omega
      · exact R8.more (ent_none hv) bx by_ (by omega) (by omega) (by omega)
  · rintro τ' μ' ⟨rows, c8, m8, o9, o10, o11, o12, hb8, hm8, hp8, sb8, hl8, R8, rfl⟩
    dsimp only [List.cons_append, List.nil_append, id]
    walk_at "go"
    have hl9 : rows.length ≤ d7.toNat := by simpa using hl8
    refine a_lockT hp8 fun od us => ?_
    refine a_lcK tg_name ?_
    walk_at "go"
    refine ⟨pd, od, us, _, rfl, set_same, fun j acc μ2 => μ2 = μ'.set pd (.fT od us (rows.map ent)) ∧ acc = (rows.take j).map encR, ⟨rfl, rfl⟩, ?_, ?_, ?_⟩
    · rintro j acc μ2 ⟨rfl, rfl⟩
      exact set_same
    · rintro j p acc μ2 hj ⟨rfl, rfl⟩
      rw [List.getElem?_map] at hj
      obtain ⟨r, hr, rfl⟩ := Option.map_eq_some_iff.mp hj
      have hat := ent_at R8.nd hr
      refine ⟨_, rfl, rfl, ?_⟩
      refine at_yes ?_
      rw [if_pos rfl]
      walk_at "nf"
      walk_at "go"
      refine a_dget ?_
      walk_at "go"
      refine ⟨pd, _, rfl, .inr (.inr ⟨od, us, _, (ent r).1, set_same, rfl, hat.symm⟩), ?_⟩
      refine ro_catA (Nat.le_of_ble_eq_true rfl) ⟨?_, rfl, ?_⟩
      · rw [List.length_map, List.length_take]; have := sizeLine_eq; omega
      · rw [List.take_add_one, hr, List.map_append]
        rfl
    · rintro acc μ2 ⟨rfl, rfl⟩ l4 hl4
      have hl4p : l4 ≠ pd := none_ne hl4
      refine ⟨by rw [set_ne (Ne.symm hl4p)]; exact set_same, ?_⟩
      have hl4b : l4 ≠ b := ne_of_some (none_back hl4) hb8
      have elen : (rows.map ent).length = rows.length := List.length_map ..
      rw [elen, List.take_length]
      walk_at "go"
      refine rc_tuple (ds := rows.map encR) (seq_ref (by walk_at "mu")) ?_
      walk_at "go"
      intro l5 hl5
      have hnb : b ≠ pd := Ne.symm hpb
      have hl5b : l5 ≠ b := ne_of_some (none_back (none_back (none_back hl5))) hb8
      walk_at "go"
      refine use_take (by walk_at "mu") hm8 (by decide) (by walk_at "szN") fun e8 c9 m9 t1 t2 t3 hm9 => ?_
      obtain ⟨z, hz, hz2⟩ := pickD (.int 3) (.int sc) t1 t2
      obtain ⟨gg, rfl, hg⟩ : ∃ gg : Int, z = .int gg ∧ (1 ≤ gg ∧ gg ≤ 100000) := by
        rcases hz2 with e | e
        · exact ⟨3, e, by omega⟩
        · exact ⟨_, e, by omega⟩
      walk_at "go"
      refine ro_ix (seq_ref (by walk_at "mu")) hz ?_
      walk_at "go"
      refine use_take set_same hm9 (by omega) (sz_mono (show Sz 20 gg by unfold Sz; omega) (by decide)) fun e9 c10 m10 u1 u2 u3 hm10 => ?_
      walk_at "go"
      refine up_of (μ2 := μ.set b (.lst [.int c10, .int m10])) ?_ (q _ _ rows _ _ _ _ (R8.made (by omega) bw.1 bw.2.1 bw.2.2.1 bw.2.2.2 f0.1 f0.2 (by omega) (by omega)) hm10)
      intro a m ea
      by_cases na : a = b
      · subst na
        rw [set_same] at ea ⊢
        exact ea
      · rw [set_ne na] at ea
        have h1 := sb8 a m na ea
        have np : a ≠ pd := fun z => by rw [z, hpn] at ea; cases ea
        have n4 : a ≠ l4 := fun z => by
          have := none_back hl4
          rw [← z, h1] at this; cases this
        have n5 : a ≠ l5 := fun z => by
          have := none_back (none_back (none_back hl5))
          rw [← z, h1] at this; cases this
        rw [set_ne na, set_ne na, set_ne n5, set_ne np, set_ne n4, set_ne np]
        exact h1))) only [↓Hold.on]
def P_board_made_of (C : Addr) : PT3 := fun ds μ Φ => ∃ b w h rows l s sp kg kt, ds = [.ref b] ∧ Brd C μ b w h rows l s sp kg kt ∧ Φ (.tup [.int w, .int h, .tup (rows.map encR), .int l, .int s]) μ
theorem len_board_made_of (C : Addr) (ds : List D) (μ : M) (Φ : D → M → Prop) (h : P_board_made_of C ds μ Φ) : ds.length = 1 := by
  obtain ⟨_, _, _, _, _, _, _, _, _, rfl, _⟩ := h
  rfl
theorem ok_board_made_of {f : Addr} {fd : FuncData} (F : Fun K "made_of" "Board.made_of" s_board_made_of f fd) (B : Bs mg) {C_Board : Addr} (K_Board : Cl_Board K C_Board) : FnOk P w K mg base CX0 1 f fd ["self"] (spI K (P_board_made_of C_Board)) := by
  refine Hold.out ?_
  simp (disch := (
  refine Hold.as ?_
  with_unfolding_all (
  refine F.ok sc_board_made_of (fun vs H Q E h => spI_len h (len_board_made_of C_Board)) (fun cdv A outer s H vs Q E hr h => ?_)
  have hu65 := hu65_of hr
  refine ⟨_, (pss_one (ps_ret (pe_tup (pa_cons (pe_fldK (K := K) rfl (pv 0) rfl) (pa_cons (pe_fldK (K := K) rfl (pv 0) rfl) (pa_cons (pe_fldK (K := K) rfl (pv 0) rfl) (pa_cons (pe_fldK (K := K) rfl (pv 0) rfl) (pa_cons (pe_fldK (K := K) rfl (pv 0) rfl) pa_nil)))))))), body_ok h (fun ds μ Φ p => ?_)⟩
  (try dsimp only [cxOf, Cx.nox, Cx.wish, List.map_cons, List.map_nil])
  obtain ⟨b, w, h, rows, l, s, sp, kg, kt, rfl, BR, q⟩ := p
  obtain ⟨dx, gl, tl, lvs, hb, hsp, hkg, hkt⟩ := id BR
  show AS K _ [some _] _ _
  walk_at "go"
  refine a_fld ?_
  walk_at "go"
  refine ⟨b, C_Board, dx, _, rfl, hb, K_Board.cls, K_Board.n_wide, _, rfl, ?_⟩
  walk_at "go"
  refine a_fld ?_
  walk_at "go"
  refine ⟨b, C_Board, dx, _, rfl, hb, K_Board.cls, K_Board.n_high, _, rfl, ?_⟩
  walk_at "go"
  refine a_fld ?_
  walk_at "go"
  refine ⟨b, C_Board, dx, _, rfl, hb, K_Board.cls, K_Board.n_pin_rows, _, rfl, ?_⟩
  walk_at "go"
  refine a_fld ?_
  walk_at "go"
  refine ⟨b, C_Board, dx, _, rfl, hb, K_Board.cls, K_Board.n_layer_count, _, rfl, ?_⟩
  walk_at "go"
  refine a_fld ?_
  walk_at "go"
  refine ⟨b, C_Board, dx, _, rfl, hb, K_Board.cls, K_Board.n_apart_by, _, rfl, ?_⟩
  walk_at "go"
  exact q))) only [↓Hold.on]
def P_l_whole : PT3 := fun ds μ Φ => ∃ d, ds = [d] ∧ Kd μ d ∧ Φ (.bl (wh d)) μ
theorem len_l_whole (ds : List D) (μ : M) (Φ : D → M → Prop) (h : P_l_whole ds μ Φ) : ds.length = 1 := by
  obtain ⟨_, rfl, _⟩ := h
  rfl
def P_l_is_pin : PT3 := fun ds μ Φ => ∃ d w h p l s, ds = [d, .tup [.int w, .int h, p, .int l, s]] ∧ Kx μ d ∧ Φ (.bl (pr d w h l)) μ
theorem len_l_is_pin (ds : List D) (μ : M) (Φ : D → M → Prop) (h : P_l_is_pin ds μ Φ) : ds.length = 2 := by
  obtain ⟨_, _, _, _, _, _, rfl, _⟩ := h
  rfl
def P_l_is_made : PT3 := fun ds μ Φ => ∃ w h p l s, ds = [.tup [w, h, p, l, s]] ∧ Kd μ w ∧ Kd μ h ∧ Kd μ p ∧ Kd μ l ∧ Kd μ s ∧ (∀ rows, p = .tup rows → rows.length ≤ 1000 ∧ ∀ r ∈ rows, Kx μ r) ∧ Φ (.bl (ab w h p l s)) μ
theorem len_l_is_made (ds : List D) (μ : M) (Φ : D → M → Prop) (h : P_l_is_made ds μ Φ) : ds.length = 1 := by
  obtain ⟨_, _, _, _, _, rfl, _⟩ := h
  rfl
theorem ok_l_whole {f : Addr} {fd : FuncData} (F : Fun K "_law_whole" "_law_whole" s_l_whole f fd) (B : Bs mg) : FnOk P w K mg base CX0 1 f fd ["_law_thing"] (spI K P_l_whole) := by
  refine Hold.out ?_
  simp (disch := (
  refine Hold.as ?_
  with_unfolding_all (
  refine F.ok sc_l_whole (fun vs H Q E h => spI_len h len_l_whole) (fun cdv A outer s H vs Q E hr h => ?_)
  have hu65 := hu65_of hr
  refine ⟨_, (pss_one (ps_ret (pe_and (pe_callB (call_isiK1 (K := K) rfl) (by rfl) B.b_isinstance (by decide +kernel) (pa_cons (pv 0) (pa_cons (pe_bltn (v := .ty "int") (by rfl) B.b_int (by decide +kernel) rfl) pa_nil))) (pe_one (pe_not (pe_callB (call_isiK1 (K := K) rfl) (by rfl) B.b_isinstance (by decide +kernel) (pa_cons (pv 0) (pa_cons (pe_bltn (v := .ty "bool") (by rfl) B.b_bool (by decide +kernel) rfl) pa_nil)))))))), body_ok h (fun ds μ Φ p => ?_)⟩
  (try dsimp only [cxOf, Cx.nox, Cx.wish, List.map_cons, List.map_nil])
  obtain ⟨d, rfl, ⟨n, hn⟩, q⟩ := p
  show AS K _ [some _] _ _
  cases d with
  | non => walk_at "go"; exact q
  | bl b =>
    walk_at "go"
    rw [if_pos (by decide +kernel)]
    walk_at "go"
    exact q
  | int i => walk_at "go"; exact q
  | str s => walk_at "go"; exact q
  | ty n => cases hn
  | tup xs => walk_at "go"; exact q
  | rol xs => walk_at "go"; exact q
  | ref a =>
    have hk : n = "list" ∨ n = "dict" := by
      unfold tyn at hn
      simp only at hn
      split at hn <;> first | (cases hn; first | exact .inl rfl | exact .inr rfl) | cases hn
    rcases hk with rfl | rfl
    · walk_at "go"
      refine rc_isi hn (b := false) (by decide +kernel) ?_
      walk_at "go"
      exact q
    · walk_at "go"
      refine rc_isi hn (b := false) (by decide +kernel) ?_
      walk_at "go"
      exact q))) only [↓Hold.on]
theorem pr_four {xs : List D} {w h l : Int} (k : pr (.tup xs) w h l = true) : xs.length = 4 ∧ xs.all wh = true := by
  obtain ⟨x, y, f, g, e, _⟩ := pr_int k
  cases e
  exact ⟨rfl, rfl⟩
theorem ok_l_is_pin {f : Addr} {fd : FuncData} (F : Fun K "_law_is_pin" "_law_is_pin" s_l_is_pin f fd) (B : Bs mg) (G_l_whole : Def P w K mg base "_law_whole" ["_law_thing"] 1 (spI K P_l_whole)) : FnOk P w K mg base CX0 2 f fd ["_law_thing", "_law_made_here"] (spI K P_l_is_pin) := by
  refine Hold.out ?_
  simp (disch := (
  refine Hold.as ?_
  with_unfolding_all (
  refine F.ok sc_l_is_pin (fun vs H Q E h => spI_len h len_l_is_pin) (fun cdv A outer s H vs Q E hr h => ?_)
  have hu65 := hu65_of hr
  refine ⟨_, (pss_cons (ps_if (PW.pt (pw_or (pt_not (pt_val (pe_callB (call_isiK1 (K := K) rfl) (by rfl) B.b_isinstance (by decide +kernel) (pa_cons (pv 0) (pa_cons (pe_bltn (v := .ty "tuple") (by rfl) B.b_tuple (by decide +kernel) rfl) pa_nil))))) (pw_or (pt_cmpR op_ne (pe_callB (call_lenK (K := K) rfl) (by rfl) B.b_len (by decide +kernel) (pa_cons (pv 0) pa_nil)) pe_int (by first | exact nomark _ | rfl)) (pw_or1 (pt_not (pt_val (pe_callB (cr_allK (K := K) rfl rfl) (by rfl) B.b_all (by decide +kernel) (pa_cons (pe_lc (own := [("_law_number", 2)]) (g := gName 2) (tt := tYes) rfl sc_l_is_pin.nd (pi_tupK (K := K) rfl (pv 0)) (blkOk_by (own := [("_law_number", 2)]) (N := N_l_is_pin) (sc := defScope s_l_is_pin) (by decide +kernel)) (fun _ _ _ _ _ => (pg_name (i := 2) sc_l_is_pin.nd rfl (by first | exact Or.inl rfl | exact Or.inr rfl))) (fun _ _ _ _ _ => pts_nil) (fun _ _ _ _ _ => (pe_def G_l_whole (hr.mono (by decide)) (by rfl) (pa_cons (pv 2) pa_nil)))) pa_nil)))))))) (pss_one (ps_ret pe_bl)) pss_nil)
      (pss_one (ps_ret (pe_and (pe_chain op_lt op_lt pe_int (pe_ix (ix_seqK (K := K) rfl) (pv 0) pe_int (fun _ _ => rfl)) (pe_ix (ix_seqK (K := K) rfl) (pv 1) pe_int (fun _ _ => rfl))) (pe_and (pe_chain op_lt op_lt pe_int (pe_ix (ix_seqK (K := K) rfl) (pv 0) pe_int (fun _ _ => rfl)) (pe_ix (ix_seqK (K := K) rfl) (pv 1) pe_int (fun _ _ => rfl))) (pe_one (pe_chain3 op_le op_le op_lt pe_int (pe_ix (ix_seqK (K := K) rfl) (pv 0) pe_int (fun _ _ => rfl)) (pe_ix (ix_seqK (K := K) rfl) (pv 0) pe_int (fun _ _ => rfl)) (pe_ix (ix_seqK (K := K) rfl) (pv 1) pe_int (fun _ _ => rfl))))))))), body_okU h (fun ds μ Φ p => ?_)⟩
  (try dsimp only [cxOf, Cx.nox, Cx.wish, List.map_cons, List.map_nil])
  obtain ⟨d, w, h, p, l, s, rfl, ⟨⟨n, hn⟩, hx⟩, q⟩ := p
  show AS K _ [some _, some _, none] _ _
  cases d with
  | non =>
    walk_at "go"
    rw [if_pos (by decide +kernel)]
    walk_at "go"
    exact up q
  | bl b =>
    walk_at "go"
    rw [if_pos (by decide +kernel)]
    walk_at "go"
    exact up q
  | int i =>
    walk_at "go"
    rw [if_pos (by decide +kernel)]
    walk_at "go"
    exact up q
  | str s =>
    walk_at "go"
    rw [if_pos (by decide +kernel)]
    walk_at "go"
    exact up q
  | ty n => cases hn
  | rol xs =>
    walk_at "go"
    rw [if_pos (by decide +kernel)]
    walk_at "go"
    exact up q
  | ref a =>
    have hk : n = "list" ∨ n = "dict" := by
      unfold tyn at hn
      simp only at hn
      split at hn <;> first | (cases hn; first | exact .inl rfl | exact .inr rfl) | cases hn
    rcases hk with rfl | rfl
    · walk_at "go"
      refine rc_isi hn (b := false) (by decide +kernel) ?_
      walk_at "go"
      exact up q
    · walk_at "go"
      refine rc_isi hn (b := false) (by decide +kernel) ?_
      walk_at "go"
      exact up q
  | tup xs =>
  obtain ⟨h1, h2⟩ := hx xs rfl
  walk_at "go"
  by_cases h4 : xs.length = 4
  rotate_left
  · have f1 : pr (.tup xs) w h l = false := by
      cases z : pr (.tup xs) w h l with
      | false => rfl
      | true => exact absurd (pr_four z).1 h4
    rw [f1] at q
    rw [if_pos (by rw [Bool.not_eq_true', decide_eq_false_iff_not]; omega)]
    walk_at "go"
    exact up q
  rw [if_neg (by rw [decide_eq_true (by omega)]; exact Bool.false_ne_true)]
  walk_at "go"
  refine a_lc1 (fun x => .bl (wh x)) (fun _ => true) (ai_T ?_)
  walk_at "go"
  refine ⟨by have := sizeLine_eq; omega, fun x hx => at_yes ⟨rfl, rfl⟩, fun x hx _ => ?_, fun l2 hl2 => ?_⟩
  · walk_at "nf"
    walk_at "go"
    exact ⟨x, rfl, h2 x hx, rfl, rfl⟩
  walk_at "go"
  have e1 : List.map (fun x => D.bl (wh x)) (List.filter (fun _ => true) xs) = (xs.map wh).map D.bl := by
    rw [List.filter_eq_self.mpr (fun _ _ => rfl), List.map_map]; rfl
  rw [e1]
  refine rc_all set_same ?_
  rw [show (xs.map wh).all id = xs.all wh from by rw [List.all_map]; rfl]
  refine ⟨_, rfl, ?_⟩
  by_cases hw : xs.all wh = true
  rotate_left
  · have f2 : pr (.tup xs) w h l = false := by
      cases z : pr (.tup xs) w h l with
      | false => rfl
      | true => exact absurd (pr_four z).2 hw
    rw [f2] at q
    rw [show xs.all wh = false from by simpa using hw]
    walk_at "go"
    exact up_of (sub_new Sub.refl hl2) q
  rw [hw]
  obtain ⟨x, y, f, g, rfl⟩ : ∃ x y f g : Int, xs = [.int x, .int y, .int f, .int g] := by
    match xs, h4, hw with
    | [a, b, c, e], _, hw =>
      simp only [List.all_cons, List.all_nil, Bool.and_true, Bool.and_eq_true] at hw
      obtain ⟨x, rfl⟩ := wh_int hw.1
      obtain ⟨y, rfl⟩ := wh_int hw.2.1
      obtain ⟨f, rfl⟩ := wh_int hw.2.2.1
      obtain ⟨g, rfl⟩ := wh_int hw.2.2.2
      exact ⟨x, y, f, g, rfl⟩
  have fin : ∀ b, pr (.tup [.int x, .int y, .int f, .int g]) w h l = b → Up Φ (.bl b) ((id μ).set l2 (.lst (([D.int x, .int y, .int f, .int g].map wh).map D.bl))) := fun b e => up_of (sub_new Sub.refl hl2) (e ▸ q)
  walk_at "go"
  refine ite_d (fun g1 => ?_) (fun g1 => ?_)
  rotate_left
  · walk_at "go"
    exact fin false (by simp [pr, g1])
  walk_at "go"
  refine ite_d (fun g2 => ?_) (fun g2 => ?_)
  rotate_left
  · walk_at "go"
    exact fin false (by simp [pr, g2])
  walk_at "go"
  refine ite_d (fun g3 => ?_) (fun g3 => ?_)
  rotate_left
  · walk_at "go"
    exact fin false (by simp [pr, g3])
  walk_at "go"
  refine ite_d (fun g4 => ?_) (fun g4 => ?_)
  rotate_left
  · walk_at "go"
    exact fin false (by simp [pr, g4])
  walk_at "go"
  refine ite_d (fun g5 => ?_) (fun g5 => ?_)
  rotate_left
  · walk_at "go"
    exact fin false (by simp [pr, g5])
  walk_at "go"
  refine ite_d (fun g6 => ?_) (fun g6 => ?_)
  rotate_left
  · walk_at "go"
    exact fin false (by simp [pr, g6])
  walk_at "go"
  exact fin (decide (g < l)) (by simp [pr, g1, g2, g3, g4, g5, g6])))) only [↓Hold.on]
theorem kd_sub {μ μ' : M} {d : D} (s : Sub μ μ') (h : Kd μ d) : Kd μ' d := by
  obtain ⟨n, hn⟩ := h
  cases d with
  | ref a =>
    unfold tyn at hn
    simp only at hn
    cases e : μ a with
    | none => rw [e] at hn; cases hn
    | some m =>
      rw [e] at hn
      have := s _ _ e
      exact ⟨n, by unfold tyn; simp only; rw [this]; exact hn⟩
  | _ => exact ⟨n, hn⟩
def spD (g : List Int) : D := .tup (g.map D.int)
theorem okn_sp {g : List Int} : OkN 1 (spD g) := okn_tup fun z hz => by
  obtain ⟨j, _, rfl⟩ := List.mem_map.mp hz
  exact okn_int
theorem its_ints : ∀ l : List Int, D.its (l.map D.int) = true
  | [] => rfl
  | _ :: l => its_ints l
theorem spD_inj {a b : List Int} (h : spD a = spD b) : a = b := by
  have e : a.map D.int = b.map D.int := D.tup.inj h
  have key : ∀ {a b : List Int}, a.map D.int = b.map D.int → a = b := fun {a} => by
    induction a with
    | nil => intro b h; cases b <;> simp at h; rfl
    | cons x a ih =>
      intro b h
      cases b with
      | nil => simp at h
      | cons y b =>
        simp only [List.map_cons, List.cons.injEq, D.int.injEq] at h
        rw [h.1, ih h.2]
  exact key e
theorem eqv_sp {g g' : List Int} : D.eqv (spD g) (spD g') = decide (g = g') := by
  by_cases k : g = g'
  · subst k
    rw [decide_eq_true rfl]
    exact eqv_self okn_sp
  · rw [decide_eq_false k, ← Bool.not_eq_true]
    exact fun e => k (spD_inj ((deqv (d := spD g) (e := spD g') (its_ints g) (its_ints g')).mp e))
theorem count_sp {ss : List (List Int)} {g : List Int} : ((ss.map spD).countP fun z => D.eqv z (spD g)) = ss.count g := by
  rw [List.countP_map, List.count]
  refine List.countP_congr fun x _ => ?_
  show (D.eqv (spD x) (spD g) = true) ↔ _
  rw [eqv_sp]
  simp
theorem nil_eqv {xs : List D} : D.eqv (.tup xs) (.tup []) = xs.isEmpty := by
  cases xs <;> rfl
theorem ite_nd {p : Prop} [Decidable p] {A B : Prop} (h1 : ¬ p → A) (h2 : p → B) : if (!decide p) = true then A else B := by
  by_cases h : p
  · rw [decide_eq_true h]; exact h2 h
  · rw [decide_eq_false h]; exact h1 h
theorem sub_put {μ μ1 : M} {a : Addr} {Y : MO} (h : μ a = none) (s : Sub μ μ1) : Sub μ (μ1.set a Y) := fun b m e => by
  rw [set_ne (ne_of_some h e).symm]
  exact s b m e
theorem ok_l_is_made {f : Addr} {fd : FuncData} (F : Fun K "_law_is_made" "_law_is_made" s_l_is_made f fd) (B : Bs mg) (G_l_is_pin : Def P w K mg base "_law_is_pin" ["_law_thing", "_law_made_here"] 2 (spI K P_l_is_pin)) (G_l_whole : Def P w K mg base "_law_whole" ["_law_thing"] 1 (spI K P_l_whole)) : FnOk P w K mg base CX0 3 f fd ["_law_made_here"] (spI K P_l_is_made) := by
  refine Hold.out ?_
  simp (disch := (
  refine Hold.as ?_
  with_unfolding_all (
  refine F.ok sc_l_is_made (fun vs H Q E h => spI_len h len_l_is_made) (fun cdv A outer s H vs Q E hr h => ?_)
  have hu65 := hu65_of hr
  refine ⟨_, (pss_cons (ps_for PassesOwn.never rfl (pi_listK (K := K) rfl (pe_lst (pa_cons (pe_tup (pa_cons pe_int (pa_cons (pe_op op_pow pe_int pe_int) pa_nil))) (pa_cons (pe_tup (pa_cons pe_int (pa_cons (pe_op op_pow pe_int pe_int) pa_nil))) (pa_cons (pe_tup (pa_cons pe_int (pa_cons pe_int pa_nil))) (pa_cons (pe_tup (pa_cons pe_int (pa_cons (pe_op op_pow pe_int pe_int) pa_nil))) pa_nil)))))) (pg_tup (by rfl) (pgs_cons (pg_name (i := 1) sc_l_is_made.nd rfl (by first | exact Or.inl rfl | exact Or.inr rfl)) (pgs_cons (pg_name (i := 2) sc_l_is_made.nd rfl (by first | exact Or.inl rfl | exact Or.inr rfl)) pgs_nil)))
      (pss_one (ps_if (PW.pt (pw_or (pt_not (pt_val (pe_def G_l_whole (hr.mono (by decide)) (by rfl) (pa_cons (pe_ix (ix_seqK (K := K) rfl) (pv 0) (pv 1) (fun _ _ => rfl)) pa_nil)))) (pw_or1 (pt_not (pt_chain op_le op_le (pe_ix (ix_seqK (K := K) rfl) (pe_lst (pa_cons pe_int (pa_cons pe_int (pa_cons pe_int (pa_cons pe_int (pa_cons pe_int pa_nil)))))) (pv 1) (fun _ _ => rfl)) (pe_ix (ix_seqK (K := K) rfl) (pv 0) (pv 1) (fun _ _ => rfl)) (pv 2)))))) (pss_one (ps_ret pe_bl)) pss_nil)))
      (pss_cons (ps_if (PW.pt (pw_or (pt_not (pt_val (pe_callB (call_isiK1 (K := K) rfl) (by rfl) B.b_isinstance (by decide +kernel) (pa_cons (pe_ix (ix_seqK (K := K) rfl) (pv 0) pe_int (fun _ _ => rfl)) (pa_cons (pe_bltn (v := .ty "tuple") (by rfl) B.b_tuple (by decide +kernel) rfl) pa_nil))))) (pw_or (pt_cmpR op_gt (pe_callB (call_lenK (K := K) rfl) (by rfl) B.b_len (by decide +kernel) (pa_cons (pe_ix (ix_seqK (K := K) rfl) (pv 0) pe_int (fun _ _ => rfl)) pa_nil)) pe_int (by first | exact nomark _ | rfl)) (pw_or1 (pt_not (pt_val (pe_callB (cr_allK (K := K) rfl rfl) (by rfl) B.b_all (by decide +kernel) (pa_cons (pe_lc (own := [("_law_row", 4)]) (g := gName 4) (tt := tYes) rfl sc_l_is_made.nd (pi_tupK (K := K) rfl (pe_ix (ix_seqK (K := K) rfl) (pv 0) pe_int (fun _ _ => rfl))) (blkOk_by (own := [("_law_row", 4)]) (N := N_l_is_made) (sc := defScope s_l_is_made) (by decide +kernel)) (fun _ _ _ _ _ => (pg_name (i := 4) sc_l_is_made.nd rfl (by first | exact Or.inl rfl | exact Or.inr rfl))) (fun _ _ _ _ _ => pts_nil) (fun _ _ _ _ _ => (pe_def G_l_is_pin (hr.mono (by decide)) (by rfl) (pa_cons (pv 4) (pa_cons (pv 0) pa_nil))))) pa_nil)))))))) (pss_one (ps_ret pe_bl)) pss_nil)
      (pss_cons (ps_set (i := 3) sc_l_is_made.nd rfl (by first | exact Or.inl rfl | exact Or.inr rfl) (pe_lc (own := [("_law_row", 4)]) (g := gName 4) (tt := tYes) rfl sc_l_is_made.nd (pi_tupK (K := K) rfl (pe_ix (ix_seqK (K := K) rfl) (pv 0) pe_int (fun _ _ => rfl))) (blkOk_by (own := [("_law_row", 4)]) (N := N_l_is_made) (sc := defScope s_l_is_made) (by decide +kernel)) (fun _ _ _ _ _ => (pg_name (i := 4) sc_l_is_made.nd rfl (by first | exact Or.inl rfl | exact Or.inr rfl))) (fun _ _ _ _ _ => pts_nil) (fun _ _ _ _ _ => (pe_slice (sl_tupAK (K := K) rfl) (pv 4) po_none (po_some pe_int)))))
      (pss_one (ps_ret (pe_cmpR (op_eqDK (K := K) rfl hr.units) (pe_lc (own := [("_law_spot", 5)]) (g := gName 5)  rfl sc_l_is_made.nd (pi_listK (K := K) rfl (pv 3)) (blkOk_by (own := [("_law_spot", 5)]) (N := N_l_is_made) (sc := defScope s_l_is_made) (by decide +kernel)) (fun _ _ _ _ _ => (pg_name (i := 5) sc_l_is_made.nd rfl (by first | exact Or.inl rfl | exact Or.inr rfl))) (fun _ _ _ _ _ => (pts_one (pt_cmpR op_gt (pe_bmK (K := K) rfl PySem.F.plainAttrs_list PySem.F.slot_list_count PySem.F.type_list_count (mt_cntLK (K := K) rfl hr.units) (pv 3) (pa_cons (pv 5) pa_nil)) pe_int (by first | exact nomark _ | rfl)))) (fun _ _ _ _ _ => (pv 5))) (pe_lst pa_nil) (by first | exact nomark _ | rfl))))))), body_okU h (fun ds μ Φ p => ?_)⟩
  (try dsimp only [cxOf, Cx.nox, Cx.wish, List.map_cons, List.map_nil])
  obtain ⟨w, h, p, l, s, rfl, kw, kh, kp, kl, ks, kr, q⟩ := p
  show AS K _ [some _, none, none, none, none, none] _ _
  have fin : ∀ b, ab w h p l s = b → Φ (.bl b) μ := fun b e => e ▸ q
  walk_at "go"
  refine s_for (ai_L ?_)
  walk_at "go"
  intro p1 hp1
  refine ⟨p1, _, rfl, set_same, ?_⟩
  rw [set_del hp1]
  refine ⟨fun i τ' μ' => Sub μ μ' ∧ ((1 ≤ i → wi w 2 1000000 = true) ∧ (2 ≤ i → wi h 2 1000000 = true) ∧ (3 ≤ i → wi l 1 3 = true) ∧ (4 ≤ i → wi s 1 1000000 = true)) ∧ ∃ o1 o2 o3 o4 o5 : Option D, τ' = [some (.tup [w, h, p, l, s]), o1, o2, o3, o4, o5], ⟨Sub.refl, ⟨(fun z => absurd z (by omega)), (fun z => absurd z (by omega)), (fun z => absurd z (by omega)), (fun z => absurd z (by omega))⟩, _, _, _, _, _, rfl⟩, ?_, ?_⟩
  rotate_left
  · rintro τ' μ' ⟨sb, ⟨c1, c2, c3, c4⟩, o1, o2, o3, o4, o5, rfl⟩
    have c1 := c1 (by decide)
    have c2 := c2 (by decide)
    have c3 := c3 (by decide)
    have c4 := c4 (by decide)
    have sb := sub_put (Y := .lst [.tup [.int 0, .int 1000000], .tup [.int 1, .int 1000000], .tup [.int 3, .int 3], .tup [.int 4, .int 1000000]]) hp1 sb
    show AS K _ _ (μ'.set p1 (.lst [.tup [.int 0, .int 1000000], .tup [.int 1, .int 1000000], .tup [.int 3, .int 3], .tup [.int 4, .int 1000000]])) _
    generalize (μ'.set p1 (.lst [.tup [.int 0, .int 1000000], .tup [.int 1, .int 1000000], .tup [.int 3, .int 3], .tup [.int 4, .int 1000000]])) = μ1 at sb ⊢
    clear hp1
    obtain ⟨wn, rfl, _⟩ := wi_int c1
    obtain ⟨hn, rfl, _⟩ := wi_int c2
    obtain ⟨ln, rfl, _⟩ := wi_int c3
    obtain ⟨sn, rfl, _⟩ := wi_int c4
    obtain ⟨np, hnp⟩ := kd_sub sb kp
    cases p with
    | non =>
      walk_at "go"
      rw [if_pos (by decide +kernel)]
      walk_at "go"
      exact up_of sb (fin false (by simp [ab]))
    | bl b =>
      walk_at "go"
      rw [if_pos (by decide +kernel)]
      walk_at "go"
      exact up_of sb (fin false (by simp [ab]))
    | int i =>
      walk_at "go"
      rw [if_pos (by decide +kernel)]
      walk_at "go"
      exact up_of sb (fin false (by simp [ab]))
    | str s =>
      walk_at "go"
      rw [if_pos (by decide +kernel)]
      walk_at "go"
      exact up_of sb (fin false (by simp [ab]))
    | ty n => cases hnp
    | rol xs =>
      walk_at "go"
      rw [if_pos (by decide +kernel)]
      walk_at "go"
      exact up_of sb (fin false (by simp [ab]))
    | ref a =>
      have hk : np = "list" ∨ np = "dict" := by
        unfold tyn at hnp
        simp only at hnp
        split at hnp <;> first | (cases hnp; first | exact .inl rfl | exact .inr rfl) | cases hnp
      rcases hk with rfl | rfl
      · walk_at "go"
        refine rc_isi hnp (b := false) (by decide +kernel) ?_
        walk_at "go"
        exact up_of sb (fin false (by simp [ab]))
      · walk_at "go"
        refine rc_isi hnp (b := false) (by decide +kernel) ?_
        walk_at "go"
        exact up_of sb (fin false (by simp [ab]))
    | tup rows =>
    obtain ⟨r1, kr⟩ := kr rows rfl
    walk_at "go"
    refine ite_d (fun g16 => ?_) (fun g16 => ?_)
    · have : ¬ rows.length ≤ 16 := by omega
      walk_at "go"
      exact up_of sb (fin false (by simp [ab, this]))
    have hl : rows.length ≤ 16 := by omega
    walk_at "go"
    refine a_lc1 (fun r => .bl (pr r wn hn ln)) (fun _ => true) (ai_T ?_)
    walk_at "go"
    refine ⟨by have := sizeLine_eq; omega, fun x hx => at_yes ⟨rfl, rfl⟩, fun x hx _ => ?_, fun l2 hl2 => ?_⟩
    · walk_at "nf"
      walk_at "go"
      exact ⟨x, wn, hn, .tup rows, ln, .int sn, rfl, ⟨kd_sub sb (kr x hx).1, fun xs e => ⟨((kr x hx).2 xs e).1, fun y hy => kd_sub sb (((kr x hx).2 xs e).2 y hy)⟩⟩, rfl, rfl⟩
    walk_at "go"
    have e1 : List.map (fun r => D.bl (pr r wn hn ln)) (List.filter (fun _ => true) rows) = (rows.map fun r => pr r wn hn ln).map D.bl := by
      rw [List.filter_eq_self.mpr (fun _ _ => rfl), List.map_map]; rfl
    rw [e1]
    refine rc_all set_same ?_
    rw [show (rows.map fun r => pr r wn hn ln).all id = rows.all fun r => pr r wn hn ln from by rw [List.all_map]; rfl]
    have sb2 : Sub μ ((id μ1).set l2 (.lst ((rows.map fun r => pr r wn hn ln).map D.bl))) := sub_new sb hl2
    refine ⟨_, rfl, ?_⟩
    by_cases h6 : (rows.all fun r => pr r wn hn ln) = true
    rotate_left
    · have f1 : (rows.all fun r => pr r wn hn ln) = false := by simpa using h6
      rw [f1]
      walk_at "go"
      exact up_of sb2 (fin false (by simp only [ab, f1, Bool.and_false, Bool.false_and]))
    rw [h6]
    have hs : ∀ r ∈ rows, ∃ x y f g : Int, r = .tup [.int x, .int y, .int f, .int g] := fun r hr => by
      obtain ⟨x, y, f, g, e, _⟩ := pr_int (List.all_eq_true.mp h6 r hr)
      exact ⟨x, y, f, g, e⟩
    generalize ((id μ1).set l2 (.lst ((rows.map fun r => pr r wn hn ln).map D.bl))) = μ2 at sb2 ⊢
    walk_at "go"
    refine a_lc1 (fun r => .tup ((spot r).map D.int)) (fun _ => true) (ai_T ?_)
    walk_at "go"
    refine ⟨by have := sizeLine_eq; omega, fun x hx => at_yes ⟨rfl, rfl⟩, fun x hx _ => ?_, fun l3 hl3 => ?_⟩
    · obtain ⟨x, y, f, g, rfl⟩ := hs x hx
      walk_at "nf"
      walk_at "go"
      exact ⟨rfl, rfl⟩
    have e3 : (rows.filter fun _ => true).map (fun r => D.tup ((spot r).map D.int)) = (rows.map spot).map spD := by
      rw [List.filter_eq_self.mpr (fun _ _ => rfl), List.map_map]; rfl
    rw [e3]
    have sb3 : Sub μ ((id μ2).set l3 (.lst ((rows.map spot).map spD))) := sub_new sb2 hl3
    have h3 : ((id μ2).set l3 (.lst ((rows.map spot).map spD))) l3 = some (.lst ((rows.map spot).map spD)) := set_same
    generalize ((id μ2).set l3 (.lst ((rows.map spot).map spD))) = μ3 at sb3 h3 ⊢
    clear sb2 hl3 hl2 e1 e3
    refine g_name ?_
    walk_at "nf"
    walk_at "go"
    refine a_lcS tg_name ?_
    walk_at "go"
    have sl : (rows.map spot).length ≤ 16 := by rw [List.length_map]; exact hl
    have res : ∀ b, decide (rows.map spot).Nodup = b → ab (.int wn) (.int hn) (.tup rows) (.int ln) (.int sn) = b := fun b e => by
      subst e
      simp only [ab, c1, c2, c3, c4, h6, hl, decide_true, Bool.and_true, Bool.true_and]
    generalize rows.map spot = ss at h3 sl res ⊢
    refine ⟨l3, ss.map spD, fun j acc μ' => acc = ((ss.take j).filter fun g => decide (1 < ss.count g)).map spD ∧ Sub μ3 μ', rfl, ⟨rfl, Sub.refl⟩, fun _ _ _ ⟨_, s⟩ => s _ _ h3, ?_, ?_⟩
    · rintro j x acc μ' hx ⟨rfl, s⟩
      obtain ⟨g, hg, rfl⟩ : ∃ g, ss[j]? = some g ∧ x = spD g := by
        rw [List.getElem?_map] at hx
        cases z : ss[j]? with
        | none => rw [z] at hx; cases hx
        | some g => rw [z] at hx; cases hx; exact ⟨g, rfl, rfl⟩
      have eT : ((ss.take (j + 1)).filter fun g => decide (1 < ss.count g)).map spD = ((ss.take j).filter fun g => decide (1 < ss.count g)).map spD ++ (if 1 < ss.count g then [spD g] else []) := by
        rw [List.take_add_one, hg, List.filter_append, List.map_append]
        congr 1
        show ((([g] : List (List Int)).filter fun g => decide (1 < ss.count g)).map spD) = _
        rw [List.filter_cons]
        by_cases z : 1 < ss.count g
        · rw [if_pos (decide_eq_true z), if_pos z]; rfl
        · rw [if_neg (by simpa using z), if_neg z]; rfl
      have few : (((ss.take j).filter fun g => decide (1 < ss.count g)).map spD).length < sizeLine := by
        have h1 := List.length_filter_le (fun g => decide (1 < ss.count g)) (ss.take j)
        rw [List.length_take] at h1
        rw [List.length_map]
        have := sizeLine_eq
        omega
      refine ⟨_, rfl, rfl, ?_⟩
      walk_at "nf"
      walk_at "go"
      refine m_cntE (d := spD g) ?_
      walk_at "go"
      refine ⟨l3, _, rfl, s _ _ h3, (okn_all (n := 1) fun x hx => by obtain ⟨g, _, rfl⟩ := List.mem_map.mp hx; exact okn_sp).1, okn_sp.mono (by decide), ?_⟩
      walk_at "go"
      refine ⟨rfl, s _ _ h3, ?_⟩
      rw [count_sp]
      walk_at "go"
      refine ite_d (fun z => ?_) (fun z => ?_)
      · walk_at "go"
        exact ⟨few, by rw [eT, if_pos (by omega)], s⟩
      · exact ⟨by rw [eT, if_neg (by omega), List.append_nil], s⟩
    rintro acc μ' ⟨rfl, s⟩ q hq
    rw [List.length_map, List.take_length]
    walk_at "go"
    intro p hp
    have sq : Sub μ3 (μ'.set q (.lst ((ss.filter fun g => decide (1 < ss.count g)).map spD))) := sub_new s hq
    refine ro_eqL (n := 1) (sub_new (Y := .lst []) Sub.refl hp _ _ set_same) set_same (fun x hx => by obtain ⟨g, _, rfl⟩ := List.mem_map.mp hx; exact okn_sp) (fun x hx => by cases hx) (by decide) ?_
    rw [nil_eqv]
    refine up_of (sub_new (fun a m e => sq a m (sb3 a m e)) hp) (fin _ (res _ ?_))
    rw [Bool.eq_iff_iff, decide_eq_true_eq, List.isEmpty_iff, List.map_eq_nil_iff, List.filter_eq_nil_iff, List.nodup_iff_count]
    constructor
    · intro h g _
      have := h g
      simp only [decide_eq_true_eq]
      omega
    · intro h g
      by_cases m : g ∈ ss
      · have := h g m
        simp only [decide_eq_true_eq] at this
        omega
      · rw [List.count_eq_zero_of_not_mem m]
        omega
  rintro i x τ' μ' hx ⟨sb, ⟨c1, c2, c3, c4⟩, o1, o2, o3, o4, o5, rfl⟩
  have hi : i = 0 ∨ i = 1 ∨ i = 2 ∨ i = 3 := by
    have := (List.getElem?_eq_some_iff.mp hx).1
    simp only [List.length_cons, List.length_nil] at this
    omega
  rcases hi with rfl | rfl | rfl | rfl
  · cases hx
    walk_at "go"
    refine ⟨w, rfl, kd_sub sb kw, ?_⟩
    by_cases hw : wh w = true
    rotate_left
    · have f1 : wi w 2 1000000 = false := by
        cases w <;> first | rfl | exact absurd rfl hw
      rw [show wh w = false from by simpa using hw]
      walk_at "go"
      exact up_of (sub_put hp1 sb) (fin false (by simp [ab, f1]))
    obtain ⟨z, rfl⟩ := wh_int hw
    rw [hw]
    walk_at "go"
    intro q2 hq2
    have sb2 := sub_new (Y := .lst [.int 2, .int 2, .int 0, .int 1, .int 1]) sb hq2
    have h5 : (μ'.set q2 (.lst [.int 2, .int 2, .int 0, .int 1, .int 1])) q2 = some (.lst [.int 2, .int 2, .int 0, .int 1, .int 1]) := set_same
    generalize (μ'.set q2 (.lst [.int 2, .int 2, .int 0, .int 1, .int 1])) = μ2 at sb2 h5 ⊢
    walk_at "go"
    refine ite_d (fun g1 => ?_) (fun g1 => ?_)
    rotate_left
    · have f1 : wi (.int z) 2 1000000 = false := by simp [wi, g1]
      walk_at "go"
      exact up_of (sub_put hp1 sb2) (fin false (by simp [ab, f1]))
    walk_at "go"
    refine ite_nd (fun g2 => ?_) (fun g2 => ?_)
    · have f1 : wi (.int z) 2 1000000 = false := by simp [wi, g2]
      walk_at "go"
      exact up_of (sub_put hp1 sb2) (fin false (by simp [ab, f1]))
    have f1 : wi (.int z) 2 1000000 = true := by simp [wi, g1, g2]
    walk_at "go"
    exact ⟨sb2, ⟨fun _ => f1, (fun z => absurd z (by omega)), (fun z => absurd z (by omega)), (fun z => absurd z (by omega))⟩, _, _, _, _, _, rfl⟩
  · cases hx
    walk_at "go"
    refine ⟨h, rfl, kd_sub sb kh, ?_⟩
    by_cases hw : wh h = true
    rotate_left
    · have f1 : wi h 2 1000000 = false := by
        cases h <;> first | rfl | exact absurd rfl hw
      rw [show wh h = false from by simpa using hw]
      walk_at "go"
      exact up_of (sub_put hp1 sb) (fin false (by simp [ab, f1]))
    obtain ⟨z, rfl⟩ := wh_int hw
    rw [hw]
    walk_at "go"
    intro q2 hq2
    have sb2 := sub_new (Y := .lst [.int 2, .int 2, .int 0, .int 1, .int 1]) sb hq2
    have h5 : (μ'.set q2 (.lst [.int 2, .int 2, .int 0, .int 1, .int 1])) q2 = some (.lst [.int 2, .int 2, .int 0, .int 1, .int 1]) := set_same
    generalize (μ'.set q2 (.lst [.int 2, .int 2, .int 0, .int 1, .int 1])) = μ2 at sb2 h5 ⊢
    walk_at "go"
    refine ite_d (fun g1 => ?_) (fun g1 => ?_)
    rotate_left
    · have f1 : wi (.int z) 2 1000000 = false := by simp [wi, g1]
      walk_at "go"
      exact up_of (sub_put hp1 sb2) (fin false (by simp [ab, f1]))
    walk_at "go"
    refine ite_nd (fun g2 => ?_) (fun g2 => ?_)
    · have f1 : wi (.int z) 2 1000000 = false := by simp [wi, g2]
      walk_at "go"
      exact up_of (sub_put hp1 sb2) (fin false (by simp [ab, f1]))
    have f1 : wi (.int z) 2 1000000 = true := by simp [wi, g1, g2]
    walk_at "go"
    exact ⟨sb2, ⟨fun _ => c1 (by omega), fun _ => f1, (fun z => absurd z (by omega)), (fun z => absurd z (by omega))⟩, _, _, _, _, _, rfl⟩
  · cases hx
    walk_at "go"
    refine ⟨l, rfl, kd_sub sb kl, ?_⟩
    by_cases hw : wh l = true
    rotate_left
    · have f1 : wi l 1 3 = false := by
        cases l <;> first | rfl | exact absurd rfl hw
      rw [show wh l = false from by simpa using hw]
      walk_at "go"
      exact up_of (sub_put hp1 sb) (fin false (by simp [ab, f1]))
    obtain ⟨z, rfl⟩ := wh_int hw
    rw [hw]
    walk_at "go"
    intro q2 hq2
    have sb2 := sub_new (Y := .lst [.int 2, .int 2, .int 0, .int 1, .int 1]) sb hq2
    have h5 : (μ'.set q2 (.lst [.int 2, .int 2, .int 0, .int 1, .int 1])) q2 = some (.lst [.int 2, .int 2, .int 0, .int 1, .int 1]) := set_same
    generalize (μ'.set q2 (.lst [.int 2, .int 2, .int 0, .int 1, .int 1])) = μ2 at sb2 h5 ⊢
    walk_at "go"
    refine ite_d (fun g1 => ?_) (fun g1 => ?_)
    rotate_left
    · have f1 : wi (.int z) 1 3 = false := by simp [wi, g1]
      walk_at "go"
      exact up_of (sub_put hp1 sb2) (fin false (by simp [ab, f1]))
    walk_at "go"
    refine ite_nd (fun g2 => ?_) (fun g2 => ?_)
    · have f1 : wi (.int z) 1 3 = false := by simp [wi, g2]
      walk_at "go"
      exact up_of (sub_put hp1 sb2) (fin false (by simp [ab, f1]))
    have f1 : wi (.int z) 1 3 = true := by simp [wi, g1, g2]
    walk_at "go"
    exact ⟨sb2, ⟨fun _ => c1 (by omega), fun _ => c2 (by omega), fun _ => f1, (fun z => absurd z (by omega))⟩, _, _, _, _, _, rfl⟩
  · cases hx
    walk_at "go"
    refine ⟨s, rfl, kd_sub sb ks, ?_⟩
    by_cases hw : wh s = true
    rotate_left
    · have f1 : wi s 1 1000000 = false := by
        cases s <;> first | rfl | exact absurd rfl hw
      rw [show wh s = false from by simpa using hw]
      walk_at "go"
      exact up_of (sub_put hp1 sb) (fin false (by simp [ab, f1]))
    obtain ⟨z, rfl⟩ := wh_int hw
    rw [hw]
    walk_at "go"
    intro q2 hq2
    have sb2 := sub_new (Y := .lst [.int 2, .int 2, .int 0, .int 1, .int 1]) sb hq2
    have h5 : (μ'.set q2 (.lst [.int 2, .int 2, .int 0, .int 1, .int 1])) q2 = some (.lst [.int 2, .int 2, .int 0, .int 1, .int 1]) := set_same
    generalize (μ'.set q2 (.lst [.int 2, .int 2, .int 0, .int 1, .int 1])) = μ2 at sb2 h5 ⊢
    walk_at "go"
    refine ite_d (fun g1 => ?_) (fun g1 => ?_)
    rotate_left
    · have f1 : wi (.int z) 1 1000000 = false := by simp [wi, g1]
      walk_at "go"
      exact up_of (sub_put hp1 sb2) (fin false (by simp [ab, f1]))
    walk_at "go"
    refine ite_nd (fun g2 => ?_) (fun g2 => ?_)
    · have f1 : wi (.int z) 1 1000000 = false := by simp [wi, g2]
      walk_at "go"
      exact up_of (sub_put hp1 sb2) (fin false (by simp [ab, f1]))
    have f1 : wi (.int z) 1 1000000 = true := by simp [wi, g1, g2]
    walk_at "go"
    exact ⟨sb2, ⟨fun _ => c1 (by omega), fun _ => c2 (by omega), fun _ => c3 (by omega), fun _ => f1⟩, _, _, _, _, _, rfl⟩))) only [↓Hold.on]
theorem says_in {μ : M} {b : Addr} : ∀ {ds : List D} {ps : List PyData}, ZG.Says μ b ds ps → ∀ {n k : Nat}, ZG.fews ps = true → PyData.canLayAll0 ps = true → PyData.depthAll ps ≤ n → PyData.bulkAll ps ≤ k → ds.length ≤ k ∧ ∀ x ∈ ds, ZG.Told μ b n k x
  | [], _, .nil, n, k, _, _, _, _ => ⟨Nat.zero_le _, fun x hx => by cases hx⟩
  | d :: ds, _, .cons (p := p) (ps := ps) h1 h2, n, k, f, l, e, u => by
    simp only [ZG.fews, Bool.and_eq_true] at f
    simp only [PyData.canLayAll0, Bool.and_eq_true] at l
    simp only [PyData.depthAll] at e
    simp only [PyData.bulkAll] at u
    obtain ⟨g1, g2⟩ := says_in h2 (n := n) (k := k - 1) f.2 l.2 (by omega) (by omega)
    refine ⟨by rw [List.length_cons]; omega, fun x hx => ?_⟩
    rcases List.mem_cons.mp hx with rfl | hx
    · exact ⟨p, h1, f.1, l.1, by omega, by omega⟩
    · exact (g2 x hx).mono (Nat.le_refl _) (by omega)
theorem says_plain {μ : M} {b : Addr} : ∀ {ds : List D}, D.plains ds = true → ZG.Says μ b ds (D.pys ds)
  | [], _ => by simp only [D.pys]; exact .nil
  | d :: ds, h => by
    simp only [D.plains, Bool.and_eq_true] at h
    simp only [D.pys]
    exact .cons (.base h.1 rfl) (says_plain h.2)
theorem told_parts {μ : M} {b : Addr} {n k : Nat} {ds : List D} (t : ZG.Told μ b n k (.tup ds)) : ds.length ≤ k ∧ ∀ x ∈ ds, ZG.Told μ b n k x := by
  obtain ⟨p, s, f⟩ := t
  have key : ∃ ps, p = .tuple ps ∧ ZG.Says μ b ds ps := by
    cases s with
    | base e e2 =>
      subst e2
      simp only [D.plain] at e
      exact ⟨D.pys ds, by simp only [D.py], says_plain e⟩
    | tup s => exact ⟨_, rfl, s⟩
  obtain ⟨ps, rfl, ss⟩ := key
  have f1 := f.few
  have f2 := f.lay
  have f3 := f.dep
  have f4 := f.bulk
  simp only [ZG.few] at f1
  simp only [PyData.canLay0] at f2
  simp only [PyData.depth] at f3
  simp only [PyData.bulk] at f4
  exact says_in ss f1 f2 (by omega) f4
theorem told_kd {μ : M} {b : Addr} {n k : Nat} {d : D} (t : ZG.Told μ b n k d) : Kd μ d := by
  obtain ⟨p, s, _⟩ := t
  cases s with
  | base e e2 => cases d <;> first | exact ⟨_, rfl⟩ | (simp [D.plain] at e)
  | lst na e s => exact ⟨"list", by simp [tyn, e]⟩
  | tup s => exact ⟨_, rfl⟩
theorem told_kx {μ : M} {b : Addr} {n k : Nat} {d : D} (t : ZG.Told μ b n k d) (hk : k ≤ 1000) : Kx μ d := ⟨told_kd t, fun xs e => by
  subst e
  obtain ⟨h1, h2⟩ := told_parts t
  exact ⟨by omega, fun x hx => told_kd (h2 x hx)⟩⟩
/-- what is drawn as an odd thing, closed data -/
def litQ (x : D) : Bool := D.plain x && ZG.few (D.py x) && (D.py x).canLay0 && decide ((D.py x).depth ≤ 2) && decide ((D.py x).bulk ≤ 5)
theorem lit_told {μ : M} {b : Addr} {x : D} (h : litQ x = true) : ZG.Told μ b 2 5 x := by
  simp only [litQ, Bool.and_eq_true, decide_eq_true_eq] at h
  obtain ⟨⟨⟨⟨h1, h2⟩, h3⟩, h4⟩, h5⟩ := h
  exact ⟨_, .base h1 rfl, h2, h3, h4, h5⟩
structure BgAt (μ : M) (b : Addr) : Prop where
  at_ : ∃ c m, μ b = some (.lst [.int c, .int m]) ∧ BgOk m
theorem BgAt.new {μ : M} {b l : Addr} {X : MO} (B : BgAt μ b) (h : μ l = none) : BgAt (μ.set l X) b := by
  obtain ⟨c, m, e, hm⟩ := B.at_
  exact ⟨c, m, by rw [set_ne (Ne.symm (ne_of_some h e))]; exact e, hm⟩
theorem BgAt.own {μ : M} {b l : Addr} {X : MO} (B : BgAt μ b) (h : l ≠ b) : BgAt (μ.set l X) b := by
  obtain ⟨c, m, e, hm⟩ := B.at_
  exact ⟨c, m, by rw [set_ne (Ne.symm h)]; exact e, hm⟩
theorem use_tk {μ : M} {Φ : D → M → Prop} {b : Addr} {n : Int} (B : BgAt μ b) (hn : 0 < n) (hz : n < 2 ^ 31) (q : ∀ d μ', 0 ≤ d → d < n → SubB b μ μ' → BgAt μ' b → Φ (.int d) μ') : P_l_take [.ref b, .int n] μ Φ := by
  obtain ⟨c, m, hb, hm⟩ := B.at_
  exact use_take hb hm hn (sz_mono (show Sz 31 n by unfold Sz; omega) (by decide)) fun d c' m' h0 h1 _ hm' => q d _ h0 h1 (sb_self sb_refl) ⟨_, _, set_same, hm'⟩
def P_l_odd : PT3 := fun ds μ Φ => ∃ b : Addr, ds = [.ref b] ∧ BgAt μ b ∧ ∀ d μ', ZG.Told μ' b 2 5 d → SubB b μ μ' → BgAt μ' b → Φ d μ'
theorem len_l_odd (ds : List D) (μ : M) (Φ : D → M → Prop) (h : P_l_odd ds μ Φ) : ds.length = 1 := by
  obtain ⟨_, rfl, _⟩ := h
  rfl
theorem ok_l_odd {f : Addr} {fd : FuncData} (F : Fun K "_law_odd" "_law_odd" s_l_odd f fd) (B : Bs mg) (G_l_take : Def P w K mg base "_law_take" ["_law_bag_here", "_law_many"] 1 (spI K P_l_take)) : FnOk P w K mg base CX0 2 f fd ["_law_bag_here"] (spI K P_l_odd) := by
  refine Hold.out ?_
  simp (disch := (
  refine Hold.as ?_
  with_unfolding_all (
  refine F.ok sc_l_odd (fun vs H Q E h => spI_len h len_l_odd) (fun cdv A outer s H vs Q E hr h => ?_)
  have hu65 := hu65_of hr
  refine ⟨_, (pss_cons (ps_set (i := 1) sc_l_odd.nd rfl (by first | exact Or.inl rfl | exact Or.inr rfl) (pe_lst (pa_cons pe_non (pa_cons pe_bl (pa_cons pe_bl (pa_cons pe_str (pa_cons pe_str (pa_cons (pe_tup pa_nil) (pa_cons (pe_tup (pa_cons pe_int pa_nil)) (pa_cons (pe_lst (pa_cons pe_int pa_nil)) (pa_cons (pe_op op_pow pe_int pe_int) (pa_cons (pe_un un_neg pe_int) (pa_cons pe_int (pa_cons pe_int (pa_cons pe_int (pa_cons (pe_op op_add (pe_op op_pow pe_int pe_int) pe_int) (pa_cons (pe_lst (pa_cons (pe_lst (pa_cons pe_int (pa_cons pe_int (pa_cons pe_int (pa_cons pe_int pa_nil))))) pa_nil)) (pa_cons (pe_tup (pa_cons (pe_tup (pa_cons pe_int (pa_cons pe_int pa_nil))) pa_nil)) pa_nil))))))))))))))))))
      (pss_one (ps_ret (pe_ix (ix_seqK (K := K) rfl) (pv 1) (pe_def G_l_take (hr.mono (by decide)) (by rfl) (pa_cons (pv 0) (pa_cons pe_int pa_nil))) (fun _ _ => rfl))))), body_ok h (fun ds μ Φ p => ?_)⟩
  (try dsimp only [cxOf, Cx.nox, Cx.wish, List.map_cons, List.map_nil])
  obtain ⟨b, rfl, BG, qy⟩ := p
  show AS K _ [some _, none] _ _
  obtain ⟨c0, m0, hb0, _⟩ := id BG.at_
  walk_at "go"
  intro l1 hl1
  have n1 : l1 ≠ b := ne_of_some hl1 hb0
  have sb1 := sub_new (Y := .lst [.int 2]) (Sub.refl (μ := μ)) hl1
  have h1 : (μ.set l1 (.lst [.int 2])) l1 = some (.lst [.int 2]) := set_same
  have BG1 := BG.new (X := .lst [.int 2]) hl1
  generalize (μ.set l1 (.lst [.int 2])) = μ1 at sb1 h1 BG1 ⊢
  walk_at "go"
  intro l2 hl2
  have n2 : l2 ≠ b := ne_of_some hl2 (sb1 _ _ hb0)
  have sb2 := sub_new (Y := .lst [.int 1, .int 1, .int 0, .int 0]) sb1 hl2
  have h2 : (μ1.set l2 (.lst [.int 1, .int 1, .int 0, .int 0])) l2 = some (.lst [.int 1, .int 1, .int 0, .int 0]) := set_same
  have h12 := sub_new (Y := .lst [.int 1, .int 1, .int 0, .int 0]) Sub.refl hl2 _ _ h1
  have BG2 := BG1.new (X := .lst [.int 1, .int 1, .int 0, .int 0]) hl2
  generalize (μ1.set l2 (.lst [.int 1, .int 1, .int 0, .int 0])) = μ2 at sb2 h2 h12 BG2 ⊢
  walk_at "go"
  intro l3 hl3
  have n3 : l3 ≠ b := ne_of_some hl3 (sb2 _ _ hb0)
  have sb3 := sub_new (Y := .lst [.ref l2]) sb2 hl3
  have h3 : (μ2.set l3 (.lst [.ref l2])) l3 = some (.lst [.ref l2]) := set_same
  have h13 := sub_new (Y := .lst [.ref l2]) Sub.refl hl3 _ _ h12
  have h23 := sub_new (Y := .lst [.ref l2]) Sub.refl hl3 _ _ h2
  have BG3 := BG2.new (X := .lst [.ref l2]) hl3
  generalize (μ2.set l3 (.lst [.ref l2])) = μ3 at sb3 h3 h13 h23 BG3 ⊢
  walk_at "go"
  intro l4 hl4
  have n4 : l4 ≠ b := ne_of_some hl4 (sb3 _ _ hb0)
  have sb4 := sub_new (Y := .lst [.non, .bl true, .bl false, .str (Str.ofString "3"), .str (Str.ofString ""), .tup [], .tup [.int 1], .ref l1, .int 100000000000000000000000000000, .int (-1), .int 0, .int 1, .int 4, .int (1000000 + 1), .ref l3, .tup [.tup [.int 1, .int 1]]]) sb3 hl4
  have h4 : (μ3.set l4 (.lst [.non, .bl true, .bl false, .str (Str.ofString "3"), .str (Str.ofString ""), .tup [], .tup [.int 1], .ref l1, .int 100000000000000000000000000000, .int (-1), .int 0, .int 1, .int 4, .int (1000000 + 1), .ref l3, .tup [.tup [.int 1, .int 1]]])) l4 = some (.lst [.non, .bl true, .bl false, .str (Str.ofString "3"), .str (Str.ofString ""), .tup [], .tup [.int 1], .ref l1, .int 100000000000000000000000000000, .int (-1), .int 0, .int 1, .int 4, .int (1000000 + 1), .ref l3, .tup [.tup [.int 1, .int 1]]]) := set_same
  have h14 := sub_new (Y := .lst [.non, .bl true, .bl false, .str (Str.ofString "3"), .str (Str.ofString ""), .tup [], .tup [.int 1], .ref l1, .int 100000000000000000000000000000, .int (-1), .int 0, .int 1, .int 4, .int (1000000 + 1), .ref l3, .tup [.tup [.int 1, .int 1]]]) Sub.refl hl4 _ _ h13
  have h24 := sub_new (Y := .lst [.non, .bl true, .bl false, .str (Str.ofString "3"), .str (Str.ofString ""), .tup [], .tup [.int 1], .ref l1, .int 100000000000000000000000000000, .int (-1), .int 0, .int 1, .int 4, .int (1000000 + 1), .ref l3, .tup [.tup [.int 1, .int 1]]]) Sub.refl hl4 _ _ h23
  have h34 := sub_new (Y := .lst [.non, .bl true, .bl false, .str (Str.ofString "3"), .str (Str.ofString ""), .tup [], .tup [.int 1], .ref l1, .int 100000000000000000000000000000, .int (-1), .int 0, .int 1, .int 4, .int (1000000 + 1), .ref l3, .tup [.tup [.int 1, .int 1]]]) Sub.refl hl4 _ _ h3
  have BG4 := BG3.new (X := .lst [.non, .bl true, .bl false, .str (Str.ofString "3"), .str (Str.ofString ""), .tup [], .tup [.int 1], .ref l1, .int 100000000000000000000000000000, .int (-1), .int 0, .int 1, .int 4, .int (1000000 + 1), .ref l3, .tup [.tup [.int 1, .int 1]]]) hl4
  generalize (μ3.set l4 (.lst [.non, .bl true, .bl false, .str (Str.ofString "3"), .str (Str.ofString ""), .tup [], .tup [.int 1], .ref l1, .int 100000000000000000000000000000, .int (-1), .int 0, .int 1, .int 4, .int (1000000 + 1), .ref l3, .tup [.tup [.int 1, .int 1]]])) = μ4 at sb4 h4 h14 h24 h34 BG4 ⊢
  walk_at "go"
  refine use_tk BG4 (by decide) (by decide) fun d μ5 d0 d1 sb5 BG5 => ?_
  have sB : SubB b μ μ5 := fun a x n e => sb5 _ _ n (sb4 _ _ e)
  have done : ∀ {x : D}, litQ x = true → Φ x μ5 := fun {x} h => qy x μ5 (lit_told h) sB BG5
  have t1 : ZG.Told μ5 b 2 5 (.ref l1) := ZG.told_lst (k := 0) n1 (sb5 _ _ n1 h14) (fun x hx => by rw [List.mem_singleton.mp hx]; exact ZG.told_ok (okn_int.mono (by decide)) rfl (Nat.le_refl _)) (by decide)
  have t2 : ZG.Told μ5 b 1 4 (.ref l2) := ZG.told_lst (n := 0) (k := 0) n2 (sb5 _ _ n2 h24) (fun x hx => by
    simp only [List.mem_cons, List.not_mem_nil, or_false] at hx
    rcases hx with rfl | rfl | rfl | rfl <;> exact ⟨_, .base rfl rfl, rfl, rfl, Nat.le_refl _, Nat.le_refl _⟩) (by decide)
  have t3 : ZG.Told μ5 b 2 5 (.ref l3) := ZG.told_lst n3 (sb5 _ _ n3 h34) (fun x hx => by rw [List.mem_singleton.mp hx]; exact t2) (by simp)
  have h5 := sb5 _ _ n4 h4
  clear h4 h14 h24 h34 sb4 BG4 hl4 hl3 hl2 hl1 hb0
  have hd : d = 0 ∨ d = 1 ∨ d = 2 ∨ d = 3 ∨ d = 4 ∨ d = 5 ∨ d = 6 ∨ d = 7 ∨ d = 8 ∨ d = 9 ∨ d = 10 ∨ d = 11 ∨ d = 12 ∨ d = 13 ∨ d = 14 ∨ d = 15 := by omega
  rcases hd with rfl | rfl | rfl | rfl | rfl | rfl | rfl | rfl | rfl | rfl | rfl | rfl | rfl | rfl | rfl | rfl
  · exact ro_ix (seq_ref h5) rfl (done (by decide +kernel))
  · exact ro_ix (seq_ref h5) rfl (done (by decide +kernel))
  · exact ro_ix (seq_ref h5) rfl (done (by decide +kernel))
  · exact ro_ix (seq_ref h5) rfl (done (by decide +kernel))
  · exact ro_ix (seq_ref h5) rfl (done (by decide +kernel))
  · exact ro_ix (seq_ref h5) rfl (done (by decide +kernel))
  · exact ro_ix (seq_ref h5) rfl (done (by decide +kernel))
  · exact ro_ix (seq_ref h5) rfl (qy _ μ5 t1 sB BG5)
  · exact ro_ix (seq_ref h5) rfl (done (by decide +kernel))
  · exact ro_ix (seq_ref h5) rfl (done (by decide +kernel))
  · exact ro_ix (seq_ref h5) rfl (done (by decide +kernel))
  · exact ro_ix (seq_ref h5) rfl (done (by decide +kernel))
  · exact ro_ix (seq_ref h5) rfl (done (by decide +kernel))
  · exact ro_ix (seq_ref h5) rfl (done (by decide +kernel))
  · exact ro_ix (seq_ref h5) rfl (qy _ μ5 t3 sB BG5)
  · exact ro_ix (seq_ref h5) rfl (done (by decide +kernel))))) only [↓Hold.on]
theorem encR_kx {μ : M} (r : R4) : Kx μ (encR r) := ⟨kd_tup, fun xs e => by
  cases e
  refine ⟨by simp, fun y hy => ?_⟩
  simp only [List.mem_cons, List.not_mem_nil, or_false] at hy
  rcases hy with rfl | rfl | rfl | rfl <;> exact kd_int⟩
def P_l_is_refused (C : Addr) : PT3 := fun ds μ Φ => ∃ w h p l s, ds = [.tup [w, h, p, l, s]] ∧ Kd μ w ∧ Kd μ h ∧ Kd μ p ∧ Kd μ l ∧ Kd μ s ∧ (∀ rows, p = .tup rows → rows.length ≤ 1000 ∧ ∀ r ∈ rows, Kx μ r) ∧ ∀ μ', Sub μ μ' → Φ (.bl (!ab w h p l s)) μ'
theorem len_l_is_refused (C : Addr) (ds : List D) (μ : M) (Φ : D → M → Prop) (h : P_l_is_refused C ds μ Φ) : ds.length = 1 := by
  obtain ⟨_, _, _, _, _, rfl, _⟩ := h
  rfl
def P_l_told (C : Addr) : PT3 := fun ds μ Φ => ∃ (w h l s : Int) (rows : List R4), ds = [.tup [.int w, .int h, .tup (rows.map encR), .int l, .int s]] ∧ rows.length ≤ 1000 ∧ ab (.int w) (.int h) (.tup (rows.map encR)) (.int l) (.int s) = true ∧ ∀ μ', Sub μ μ' → Φ (.tup [.int w, .int h, .tup (rows.map encR), .int l, .int s]) μ'
theorem len_l_told (C : Addr) (ds : List D) (μ : M) (Φ : D → M → Prop) (h : P_l_told C ds μ Φ) : ds.length = 1 := by
  obtain ⟨_, _, _, _, _, rfl, _⟩ := h
  rfl
theorem s_tryMake {K : PySem.W.Frag} {τ : T} {μ : M} {N : AEnds} (cn : Str → Option Value) {C : Addr} {n k : Nat} {sp : _} {g : _} {as : _} {bs : _} {c : Value} {i : Nat} {tu : Addr → Value → Option Addr → TS} (hit : Str → Bool) (hm : ∀ x cls, cn x = some cls → PySem.W.exmOne K cls c = some (hit x))
    (hb : ∀ W, AS K (tDrop (tMakeKS C n k sp g (WE W) as bs)) τ μ { N with W := W, cn := cn, xs := fun x dx τ' μ' => (hit x = true ∧ ∀ a cls, cn x = some cls → AS K (tu a cls dx) (τ'.set i (some (.ref a))) μ'
      { nx := fun τ2 μ2 => N.nx (τ2.set i none) μ2, rt := N.rt, bk := fun τ2 μ2 => N.bk (τ2.set i none) μ2, ct := fun τ2 μ2 => N.ct (τ2.set i none) μ2 }) ∨ (hit x = false ∧ N.cn x = cn x ∧ N.xs x dx τ' μ') }) :
    AS K (fun D σ H => tDrop (tMakeKS C n k sp g (WE (wAs K c i tu N.W D)) as bs) D σ H) τ μ N := s_tryAs cn (tb := fun W => tDrop (tMakeKS C n k sp g (WE W) as bs)) hit hm hb
theorem ok_l_is_refused {f : Addr} {fd : FuncData} (F : Fun K "_law_is_refused" "_law_is_refused" s_l_is_refused f fd) (B : Bs mg) {C_Board : Addr} (K_Board : Cl_Board K C_Board) {C_NoBoard : Addr} (E_NoBoard : Exc0 K mg "NoBoard" C_NoBoard) {C_NoLayer : Addr} (E_NoLayer : Exc1 P w K mg base "NoLayer" "layer" C_NoLayer) {C_NoPin : Addr} (E_NoPin : Exc1 P w K mg base "NoPin" "pin" C_NoPin) (H_NoBoard_NoBoard : PySem.W.exmOne K (.ref C_NoBoard) (.ref C_NoBoard) = some true) (H_NoLayer_NoBoard : PySem.W.exmOne K (.ref C_NoLayer) (.ref C_NoBoard) = some false) (H_NoPin_NoBoard : PySem.W.exmOne K (.ref C_NoPin) (.ref C_NoBoard) = some false) (X_NoBoard : ExcC K C_NoBoard) {C_BoardError : Addr} (V_BoardError : Cst mg "BoardError" (.ref C_BoardError)) (V_NoLayer : Cst mg "NoLayer" (.ref C_NoLayer)) (V_NoPin : Cst mg "NoPin" (.ref C_NoPin)) {C_NoText : Addr} (V_NoText : Cst mg "NoText" (.ref C_NoText)) (Q_NoBoard_BoardError : PySem.W.kitOne K (.ref C_NoBoard) (.ref C_BoardError) = some true) (Q_NoBoard_NoLayer : PySem.W.kitOne K (.ref C_NoBoard) (.ref C_NoLayer) = some false) (Q_NoBoard_NoPin : PySem.W.kitOne K (.ref C_NoBoard) (.ref C_NoPin) = some false) (Q_NoBoard_NoText : PySem.W.kitOne K (.ref C_NoBoard) (.ref C_NoText) = some false) (Q_NoBoard_ValueError : PySem.W.kitOne K (.ref C_NoBoard) (.type "ValueError") = some true) (M_Board : MkK P w K mg base "Board" C_Board ["self", "width", "height", "pins", "layers", "spacing"] 3 ["layers", "spacing"] [(true, 0), (true, 1)] [] 6 (spX K (xn mg) (P_board_init C_Board))) : FnOk P w K mg base CX0 8 f fd ["_law_made_here"] (spI K (P_l_is_refused C_Board)) := by
  refine Hold.out ?_
  simp (disch := (
  refine Hold.as ?_
  with_unfolding_all (
  refine F.ok sc_l_is_refused (fun vs H Q E h => spI_len h (len_l_is_refused C_Board)) (fun cdv A outer s H vs Q E hr h => ?_)
  have hu65 := hu65_of hr
  refine ⟨_, (pss_cons (ps_try_as (i := 1) rfl rfl sc_l_is_refused.nd rfl rfl ⟨by rfl, by decide, Or.inl E_NoBoard.mg⟩ takes0 (fun W pn xe tk po => (pss_one (ps_expr (pe_mkKX tk M_Board (hr.mono (by decide)) (by rfl) (pa_cons (pe_ix (ix_seqK (K := K) rfl) (pv 0) pe_int (fun _ _ => rfl)) (pa_cons (pe_ix (ix_seqK (K := K) rfl) (pv 0) pe_int (fun _ _ => rfl)) (pa_cons (pe_ix (ix_seqK (K := K) rfl) (pv 0) pe_int (fun _ _ => rfl)) pa_nil))) (pk_cons (pe_ix (ix_seqK (K := K) rfl) (pv 0) pe_int (fun _ _ => rfl)) (pk_cons (pe_ix (ix_seqK (K := K) rfl) (pv 0) pe_int (fun _ _ => rfl)) pk_nil)))))) (fun a oe cls d pn hz hf => (pss_one (ps_ret (pe_and (pe_callB (call_isX (K := K) rfl hz hf) (by rfl) B.b_isinstance (by decide +kernel) (pa_cons (pv 1) (pa_cons (pe_cst V_BoardError (by rfl)) pa_nil))) (pe_and (pe_callB (call_isX (K := K) rfl hz hf) (by rfl) B.b_isinstance (by decide +kernel) (pa_cons (pv 1) (pa_cons (pe_bltn (v := .ty "ValueError") (by rfl) B.b_ValueError (by decide +kernel) rfl) pa_nil))) (pe_one (pe_not (pe_callB (call_isX (K := K) rfl hz hf) (by rfl) B.b_isinstance (by decide +kernel) (pa_cons (pv 1) (pa_cons (pe_tup (pa_cons (pe_cst V_NoLayer (by rfl)) (pa_cons (pe_cst V_NoPin (by rfl)) (pa_cons (pe_cst V_NoText (by rfl)) pa_nil)))) pa_nil)))))))))))
      (pss_one (ps_ret pe_bl))), body_ok h (fun ds μ Φ p => ?_)⟩
  (try dsimp only [cxOf, Cx.nox, Cx.wish, List.map_cons, List.map_nil])
  obtain ⟨w, h, p, l, s, rfl, kw, kh, kp, kl, ks, kr, qy⟩ := p
  show AS K _ [some _, none] _ _
  refine s_seq ?_
  refine s_tryMake (xn mg) (fun x => x == "NoBoard") (fun x cls hx => ?_) fun W => ?_
  · rcases xn_or hx with ⟨rfl, e⟩ | ⟨rfl, e⟩ | ⟨rfl, e⟩ <;> first | (cases E_NoBoard.mg.symm.trans e; exact H_NoBoard_NoBoard) | (cases E_NoPin.mg.symm.trans e; exact H_NoPin_NoBoard) | (cases E_NoLayer.mg.symm.trans e; exact H_NoLayer_NoBoard)
  refine s_dropX (x_mkK [] (fun _ => .nil) ?_)
  walk_at "go"
  refine ⟨rfl, rfl, fun b dx hb => ?_⟩
  have sb := sub_new (Y := .ins C_Board dx []) (Sub.refl (μ := μ)) hb
  refine ⟨b, dx, w, h, p, l, s, rfl, set_same, kd_sub sb kw, kd_sub sb kh, kd_sub sb kp, kd_sub sb kl, kd_sub sb ks, fun rs e => ⟨(kr rs e).1, fun r hr => ⟨kd_sub sb ((kr rs e).2 r hr).1, fun xs ex => ⟨(((kr rs e).2 r hr).2 xs ex).1, fun y hy => kd_sub sb ((((kr rs e).2 r hr).2 xs ex).2 y hy)⟩⟩⟩, fun wn hn rows2 ln sn hab e1 e2 e3 e4 e5 μ' sp kg kt sB h1 h2 h3 BR => ?_, fun e => ?_⟩
  · refine ⟨rfl, ?_⟩
    walk_at "go"
    have := qy μ' fun a m ea => sB a m (fun z => by rw [z, hb] at ea; cases ea) (sb a m ea)
    rw [hab] at this
    exact this
  refine .inl ⟨rfl, fun a cls hc => ?_⟩
  have ec : cls = .ref C_NoBoard := (Option.some.inj (E_NoBoard.mg.symm.trans (show mg "NoBoard" = some _ from by rcases xn_or hc with ⟨z, e⟩ | ⟨z, e⟩ | ⟨z, e⟩ <;> first | exact e | exact absurd z (by decide)))).symm
  subst ec
  have ed : Xdk (μ.set b (.ins C_Board dx [])) none := .inl rfl
  show AS K _ [some _, some _] _ _
  walk_at "go"
  refine rc_isX1 rfl rfl X_NoBoard Q_NoBoard_BoardError ?_
  walk_at "go"
  refine rc_isXb rfl rfl X_NoBoard Q_NoBoard_ValueError ?_
  walk_at "go"
  refine rc_isXt [C_NoLayer, C_NoPin, C_NoText] rfl rfl X_NoBoard (b := false) ?_ ?_
  · refine kitAny_cons Q_NoBoard_NoLayer (fun _ => kitAny_cons Q_NoBoard_NoPin (fun _ => kitAny_cons Q_NoBoard_NoText (fun _ => kitAny_nil) ?_) ?_) ?_ <;> exact fun z => nomatch z
  walk_at "go"
  have := qy _ sb
  rw [e] at this
  exact this))) only [↓Hold.on]
theorem ok_l_told {f : Addr} {fd : FuncData} (F : Fun K "_law_told" "_law_told" s_l_told f fd) (B : Bs mg) {C_Board : Addr} (K_Board : Cl_Board K C_Board) (G_board_made_of : Mth P w K mg base C_Board "made_of" ["self"] 1 (spI K (P_board_made_of C_Board))) (M_Board : MkK P w K mg base "Board" C_Board ["self", "width", "height", "pins", "layers", "spacing"] 3 ["layers", "spacing"] [(true, 0), (true, 1)] [] 6 (spX K (xn mg) (P_board_init C_Board))) : FnOk P w K mg base CX0 8 f fd ["_law_made_here"] (spI K (P_l_told C_Board)) := by
  refine Hold.out ?_
  simp (disch := (
  refine Hold.as ?_
  with_unfolding_all (
  refine F.ok sc_l_told (fun vs H Q E h => spI_len h (len_l_told C_Board)) (fun cdv A outer s H vs Q E hr h => ?_)
  have hu65 := hu65_of hr
  refine ⟨_, (pss_one (ps_ret (pe_mthN0 G_board_made_of (hr.mono (by decide)) (pe_mkK M_Board (hr.mono (by decide)) (by rfl) (pa_cons (pe_ix (ix_seqK (K := K) rfl) (pv 0) pe_int (fun _ _ => rfl)) (pa_cons (pe_ix (ix_seqK (K := K) rfl) (pv 0) pe_int (fun _ _ => rfl)) (pa_cons (pe_ix (ix_seqK (K := K) rfl) (pv 0) pe_int (fun _ _ => rfl)) pa_nil))) (pk_cons (pe_ix (ix_seqK (K := K) rfl) (pv 0) pe_int (fun _ _ => rfl)) (pk_cons (pe_ix (ix_seqK (K := K) rfl) (pv 0) pe_int (fun _ _ => rfl)) pk_nil)))))), body_ok h (fun ds μ Φ p => ?_)⟩
  (try dsimp only [cxOf, Cx.nox, Cx.wish, List.map_cons, List.map_nil])
  obtain ⟨w, h, l, s, rows, rfl, rl, hab, qy⟩ := p
  show AS K _ [some _] _ _
  walk_at "go"
  refine a_mkK [] (fun _ => .nil) ?_
  walk_at "go"
  refine ⟨rfl, rfl, fun b dx hb => ?_⟩
  refine ⟨b, dx, .int w, .int h, .tup (rows.map encR), .int l, .int s, rfl, set_same, kd_int, kd_int, kd_tup, kd_int, kd_int, fun rs e => ?_, fun wn hn rows2 ln sn _ e1 e2 e3 e4 e5 μ' sp kg kt sb h1 h2 h3 B => ?_, fun e => ?_⟩
  · cases e
    refine ⟨by rw [List.length_map]; omega, fun r hr => ?_⟩
    obtain ⟨r, _, rfl⟩ := List.mem_map.mp hr
    exact encR_kx r
  · cases e1; cases e2; cases e4; cases e5
    simp only [D.tup.injEq] at e3
    refine ⟨rfl, ?_⟩
    obtain ⟨dxb, gl, tl, lvs, hbd, _⟩ := id B
    refine ⟨b, dxb, _, rfl, hbd, rfl, ?_⟩
    walk_at "go"
    refine ⟨b, w, h, rows2, l, s, sp, kg, kt, rfl, B, ?_⟩
    rw [← e3]
    exact qy μ' fun a m ea => sb a m (fun z => by rw [z, hb] at ea; cases ea) (sub_new Sub.refl hb _ _ ea)
  · rw [hab] at e
    cases e))) only [↓Hold.on]
/-- an int that can be told -/
def Tame (i : Int) : Prop := i.natAbs ≤ 100000000
theorem tame_told {μ : M} {b : Addr} {i : Int} (h : Tame i) : ZG.Told μ b 0 0 (.int i) := ⟨_, .base rfl rfl, by
  simp only [D.py, ZG.few, decide_eq_true_eq]
  unfold Tame at h
  exact Nat.lt_of_le_of_lt h (by decide), rfl, Nat.le_refl _, Nat.le_refl _⟩
theorem told_cat {μ : M} {b : Addr} {ds : List D} (h : ∀ x ∈ ds, ZG.Told μ b 2 5 x) (l : ds.length ≤ 9) : ZG.Told μ b 3 54 (.tup ds) := ZG.told_tup h (by omega)
theorem cut_in {ds : List D} {lo hi : Option Int} {x : D} (h : x ∈ cutD ds lo hi) : x ∈ ds := by
  unfold cutD at h
  exact List.mem_of_mem_drop (List.mem_of_mem_take h)
theorem cut_len {ds : List D} {lo hi : Option Int} : (cutD ds lo hi).length ≤ ds.length := by
  unfold cutD
  rw [List.length_take, List.length_drop]
  omega
def P_l_bent_pin : PT3 := fun ds μ Φ => ∃ (b : Addr) (r : R4) (w h l : Int) (p s : D), ds = [.ref b, encR r, .tup [.int w, .int h, p, .int l, s]] ∧ BgAt μ b ∧ (Tame r.1 ∧ Tame r.2.1 ∧ Tame r.2.2.1 ∧ Tame r.2.2.2) ∧ (w.natAbs ≤ 1000000 ∧ h.natAbs ≤ 1000000 ∧ r.1.natAbs ≤ 1000000 ∧ r.2.1.natAbs ≤ 1000000 ∧ r.2.2.1.natAbs ≤ 10 ∧ r.2.2.2.natAbs ≤ 10) ∧
  ∀ d μ', ZG.Told μ' b 3 54 d → SubB b μ μ' → BgAt μ' b → Φ d μ'
theorem len_l_bent_pin (ds : List D) (μ : M) (Φ : D → M → Prop) (h : P_l_bent_pin ds μ Φ) : ds.length = 3 := by
  obtain ⟨_, _, _, _, _, _, _, rfl, _⟩ := h
  rfl
theorem ok_l_bent_pin {f : Addr} {fd : FuncData} (F : Fun K "_law_bent_pin" "_law_bent_pin" s_l_bent_pin f fd) (B : Bs mg) (G_l_odd : Def P w K mg base "_law_odd" ["_law_bag_here"] 2 (spI K P_l_odd)) (G_l_take : Def P w K mg base "_law_take" ["_law_bag_here", "_law_many"] 1 (spI K P_l_take)) : FnOk P w K mg base CX0 3 f fd ["_law_bag_here", "_law_row", "_law_made_here"] (spI K P_l_bent_pin) := by
  refine Hold.out ?_
  simp (disch := (
  refine Hold.as ?_
  with_unfolding_all (
  refine F.ok sc_l_bent_pin (fun vs H Q E h => spI_len h len_l_bent_pin) (fun cdv A outer s H vs Q E hr h => ?_)
  have hu65 := hu65_of hr
  refine ⟨_, (pss_cons (ps_set (i := 3) sc_l_bent_pin.nd rfl (by first | exact Or.inl rfl | exact Or.inr rfl) (pe_def G_l_take (hr.mono (by decide)) (by rfl) (pa_cons (pv 0) (pa_cons pe_int pa_nil))))
      (pss_cons (ps_set (i := 4) sc_l_bent_pin.nd rfl (by first | exact Or.inl rfl | exact Or.inr rfl) (pe_def G_l_take (hr.mono (by decide)) (by rfl) (pa_cons (pv 0) (pa_cons pe_int pa_nil))))
      (pss_cons (ps_if (pt_cmpR op_lt (pv 3) pe_int (by first | exact nomark _ | rfl)) (pss_one (ps_ret (pe_op (op_catAK (K := K) rfl) (pe_op (op_catAK (K := K) rfl) (pe_slice (sl_tupAK (K := K) rfl) (pv 1) po_none (po_some (pv 4))) (pe_tup (pa_cons (pe_def G_l_odd (hr.mono (by decide)) (by rfl) (pa_cons (pv 0) pa_nil)) pa_nil))) (pe_slice (sl_tupAK (K := K) rfl) (pv 1) (po_some (pe_op op_add (pv 4) pe_int)) po_none)))) pss_nil)
      (pss_cons (ps_if (pt_cmpR op_lt (pv 3) pe_int (by first | exact nomark _ | rfl)) (pss_cons (ps_set (i := 5) sc_l_bent_pin.nd rfl (by first | exact Or.inl rfl | exact Or.inr rfl) (pe_ix (ix_seqK (K := K) rfl) (pe_lst (pa_cons pe_int (pa_cons (pe_un un_neg pe_int) (pa_cons (pe_ix (ix_seqK (K := K) rfl) (pv 2) pe_int (fun _ _ => rfl)) (pa_cons (pe_ix (ix_seqK (K := K) rfl) (pv 2) pe_int (fun _ _ => rfl)) pa_nil))))) (pe_def G_l_take (hr.mono (by decide)) (by rfl) (pa_cons (pv 0) (pa_cons pe_int pa_nil))) (fun _ _ => rfl)))
      (pss_one (ps_ret (pe_op (op_catAK (K := K) rfl) (pe_op (op_catAK (K := K) rfl) (pe_slice (sl_tupAK (K := K) rfl) (pv 1) po_none (po_some (pv 4))) (pe_tup (pa_cons (pe_op op_add (pe_ix (ix_seqK (K := K) rfl) (pv 1) (pv 4) (fun _ _ => rfl)) (pv 5)) pa_nil))) (pe_slice (sl_tupAK (K := K) rfl) (pv 1) (po_some (pe_op op_add (pv 4) pe_int)) po_none))))) pss_nil)
      (pss_cons (ps_set (i := 6) sc_l_bent_pin.nd rfl (by first | exact Or.inl rfl | exact Or.inr rfl) (pe_lst (pa_cons (pe_op (op_catAK (K := K) rfl) (pe_tup (pa_cons pe_int pa_nil)) (pe_slice (sl_tupAK (K := K) rfl) (pv 1) (po_some pe_int) po_none)) (pa_cons (pe_op (op_catAK (K := K) rfl) (pe_tup (pa_cons (pe_ix (ix_seqK (K := K) rfl) (pv 2) pe_int (fun _ _ => rfl)) pa_nil)) (pe_slice (sl_tupAK (K := K) rfl) (pv 1) (po_some pe_int) po_none)) pa_nil))))
      (pss_cons (ps_set (i := 6) sc_l_bent_pin.nd rfl (by first | exact Or.inl rfl | exact Or.inr rfl) (pe_op op_cat (pv 6) (pe_lst (pa_cons (pe_op (op_catAK (K := K) rfl) (pe_op (op_catAK (K := K) rfl) (pe_slice (sl_tupAK (K := K) rfl) (pv 1) po_none (po_some pe_int)) (pe_tup (pa_cons pe_int pa_nil))) (pe_slice (sl_tupAK (K := K) rfl) (pv 1) (po_some pe_int) po_none)) (pa_cons (pe_op (op_catAK (K := K) rfl) (pe_op (op_catAK (K := K) rfl) (pe_slice (sl_tupAK (K := K) rfl) (pv 1) po_none (po_some pe_int)) (pe_tup (pa_cons (pe_ix (ix_seqK (K := K) rfl) (pv 2) pe_int (fun _ _ => rfl)) pa_nil))) (pe_slice (sl_tupAK (K := K) rfl) (pv 1) (po_some pe_int) po_none)) pa_nil)))))
      (pss_cons (ps_set (i := 7) sc_l_bent_pin.nd rfl (by first | exact Or.inl rfl | exact Or.inr rfl) (pe_ix (ix_seqK (K := K) rfl) (pv 6) (pe_def G_l_take (hr.mono (by decide)) (by rfl) (pa_cons (pv 0) (pa_cons pe_int pa_nil))) (fun _ _ => rfl)))
      (pss_one (ps_ret (pe_ix (ix_seqK (K := K) rfl) (pe_lst (pa_cons (pv 7) (pa_cons (pe_op (op_catAK (K := K) rfl) (pe_slice (sl_tupAK (K := K) rfl) (pv 1) po_none (po_some pe_int)) (pe_tup (pa_cons (pe_ix (ix_seqK (K := K) rfl) (pv 1) pe_int (fun _ _ => rfl)) (pa_cons (pe_ix (ix_seqK (K := K) rfl) (pv 1) pe_int (fun _ _ => rfl)) pa_nil)))) (pa_cons (pe_callTy (call_listK (K := K) rfl) (by rfl) B.b_list (by decide +kernel) (pa_cons (pv 1) pa_nil)) (pa_cons (pe_slice (sl_tupAK (K := K) rfl) (pv 1) po_none (po_some pe_int)) (pa_cons (pe_op (op_catAK (K := K) rfl) (pv 1) (pe_tup (pa_cons pe_int pa_nil))) pa_nil)))))) (pe_op op_sub (pv 3) pe_int) (fun _ _ => rfl))))))))))), body_ok h (fun ds μ Φ p => ?_)⟩
  (try dsimp only [cxOf, Cx.nox, Cx.wish, List.map_cons, List.map_nil])
  obtain ⟨b, r, w, h, l, p, s, rfl, BG, ⟨r1, r2, r3, r4⟩, bnd, qy⟩ := p
  show AS K _ [some _, some (.tup [.int r.1, .int r.2.1, .int r.2.2.1, .int r.2.2.2]), some _, none, none, none, none, none] _ _
  have rin : ∀ {μ : M} {x : D}, x ∈ [D.int r.1, .int r.2.1, .int r.2.2.1, .int r.2.2.2] → ZG.Told μ b 2 5 x := fun {μ x} hx => by
    simp only [List.mem_cons, List.not_mem_nil, or_false] at hx
    rcases hx with rfl | rfl | rfl | rfl
    · exact (tame_told r1).mono (by decide) (by decide)
    · exact (tame_told r2).mono (by decide) (by decide)
    · exact (tame_told r3).mono (by decide) (by decide)
    · exact (tame_told r4).mono (by decide) (by decide)
  have one : ∀ {μ : M} {i : Int}, Tame i → ZG.Told μ b 2 5 (.int i) := fun h => (tame_told h).mono (by decide) (by decide)
  obtain ⟨R, eR⟩ : ∃ R, R = [D.int r.1, .int r.2.1, .int r.2.2.1, .int r.2.2.2] := ⟨_, rfl⟩
  have Rl : R.length = 4 := by rw [eR]; rfl
  rw [← eR] at rin ⊢
  have zz := sizeLine_eq
  walk_at "go"
  refine use_tk BG (by decide) (by decide) fun way μ1 y0 y1 sb1 BG1 => ?_
  walk_at "go"
  refine use_tk BG1 (by decide) (by decide) fun spot μ2 z0 z1 sb2 BG2 => ?_
  have sB2 := sb_trans sb1 sb2
  clear sb1 sb2 BG1 BG
  have cl : ∀ {lo hi : Option Int}, (cutD R lo hi).length ≤ 4 := fun {lo hi} => Rl ▸ cut_len
  have ci : ∀ {μ : M} {lo hi : Option Int} {x : D}, x ∈ cutD R lo hi → ZG.Told μ b 2 5 x := fun h => rin (cut_in h)
  walk_at "go"
  refine ite_d (fun g1 => ?_) (fun g1 => ?_)
  · walk_at "go"
    refine ⟨b, rfl, BG2, fun d μ3 td sb3 BG3 => ?_⟩
    walk_at "go"
    have l1 := cl (lo := none) (hi := some spot)
    have l2 := cl (lo := some (spot + 1)) (hi := none)
    refine ro_catA (by simp only [List.length_cons, List.length_nil]; omega) ?_
    walk_at "go"
    refine ro_catA (by simp only [List.length_append, List.length_cons, List.length_nil]; omega) ?_
    refine qy _ μ3 (told_cat (fun x hx => ?_) (by simp only [List.length_append, List.length_cons, List.length_nil]; omega)) (sb_trans sB2 sb3) BG3
    simp only [List.mem_append, List.mem_singleton] at hx
    rcases hx with (hx | rfl) | hx
    · exact ci hx
    · exact td
    · exact ci hx
  walk_at "go"
  refine ite_d (fun g2 => ?_) (fun g2 => ?_)
  · walk_at "go"
    intro q hq
    have nq : q ≠ b := by
      obtain ⟨c0, m0, hb0, _⟩ := BG2.at_
      exact ne_of_some hq hb0
    have sq := sub_new (Y := .lst [.int 1, .int (-1), .int w, .int h]) (Sub.refl (μ := μ2)) hq
    have hq3 : (μ2.set q (.lst [.int 1, .int (-1), .int w, .int h])) q = some (.lst [.int 1, .int (-1), .int w, .int h]) := set_same
    have BG3 := BG2.new (X := .lst [.int 1, .int (-1), .int w, .int h]) hq
    have sB3 : SubB b μ (μ2.set q (.lst [.int 1, .int (-1), .int w, .int h])) := fun a x n e => sq _ _ (sB2 a x n e)
    generalize (μ2.set q (.lst [.int 1, .int (-1), .int w, .int h])) = μ3 at hq3 BG3 sB3 ⊢
    clear sq hq BG2 sB2
    walk_at "go"
    refine use_tk BG3 (by decide) (by decide) fun d μ4 d0 d1 sb4 BG4 => ?_
    have hq4 := sb4 _ _ nq hq3
    obtain ⟨more, em, hm⟩ : ∃ more, atI [D.int 1, .int (-1), .int w, .int h] d = some (.int more) ∧ more.natAbs ≤ 1000000 := by
      have hd : d = 0 ∨ d = 1 ∨ d = 2 ∨ d = 3 := by omega
      rcases hd with rfl | rfl | rfl | rfl
      · exact ⟨1, rfl, by decide⟩
      · exact ⟨-1, rfl, by decide⟩
      · exact ⟨w, rfl, bnd.1⟩
      · exact ⟨h, rfl, bnd.2.1⟩
    obtain ⟨v, ev, hv⟩ : ∃ v, atI R spot = some (.int v) ∧ v.natAbs ≤ 1000000 := by
      subst eR
      have hd : spot = 0 ∨ spot = 1 ∨ spot = 2 ∨ spot = 3 := by omega
      rcases hd with rfl | rfl | rfl | rfl
      · exact ⟨_, rfl, bnd.2.2.1⟩
      · exact ⟨_, rfl, bnd.2.2.2.1⟩
      · exact ⟨_, rfl, by omega⟩
      · exact ⟨_, rfl, by omega⟩
    refine ro_ix (seq_ref hq4) em ?_
    walk_at "go"
    refine ro_ix (ds := R) rfl ev ?_
    walk_at "go"
    have l1 := cl (lo := none) (hi := some spot)
    have l2 := cl (lo := some (spot + 1)) (hi := none)
    refine ro_catA (by simp only [List.length_cons, List.length_nil]; omega) ?_
    walk_at "go"
    refine ro_catA (by simp only [List.length_append, List.length_cons, List.length_nil]; omega) ?_
    refine qy _ μ4 (told_cat (fun x hx => ?_) (by simp only [List.length_append, List.length_cons, List.length_nil]; omega)) (sb_trans sB3 sb4) BG4
    simp only [List.mem_append, List.mem_singleton] at hx
    rcases hx with (hx | rfl) | hx
    · exact ci hx
    · exact one (by unfold Tame; omega)
    · exact ci hx
  walk_at "go"
  have l1 := cl (lo := some 1) (hi := none)
  have l2 := cl (lo := some 2) (hi := none)
  have l3 := cl (lo := none) (hi := some 1)
  have l4 := cl (lo := none) (hi := some 2)
  have l5 := cl (lo := none) (hi := some 3)
  refine ro_catA (by simp only [List.length_cons, List.length_nil]; omega) ?_
  walk_at "go"
  refine ro_catA (by simp only [List.length_cons, List.length_nil]; omega) ?_
  walk_at "go"
  intro q1 hq1
  obtain ⟨E1, e1⟩ : ∃ E, E = [D.int 0] ++ cutD R (some 1) none := ⟨_, rfl⟩
  obtain ⟨E2, e2⟩ : ∃ E, E = [D.int w] ++ cutD R (some 1) none := ⟨_, rfl⟩
  obtain ⟨E3, e3⟩ : ∃ E, E = cutD R none (some 1) ++ [D.int 0] ++ cutD R (some 2) none := ⟨_, rfl⟩
  obtain ⟨E4, e4⟩ : ∃ E, E = cutD R none (some 1) ++ [D.int h] ++ cutD R (some 2) none := ⟨_, rfl⟩
  have tw : Tame w := by unfold Tame; omega
  have th : Tame h := by unfold Tame; omega
  have t0 : Tame 0 := by unfold Tame; decide
  have f1 : ∀ {μ : M}, ZG.Told μ b 3 54 (.tup E1) := told_cat (fun x hx => by
    rw [e1] at hx
    rcases List.mem_append.mp hx with hx | hx
    · rw [List.mem_singleton.mp hx]; exact one t0
    · exact ci hx) (by rw [e1]; simp only [List.length_append, List.length_cons, List.length_nil]; omega)
  have f2 : ∀ {μ : M}, ZG.Told μ b 3 54 (.tup E2) := told_cat (fun x hx => by
    rw [e2] at hx
    rcases List.mem_append.mp hx with hx | hx
    · rw [List.mem_singleton.mp hx]; exact one tw
    · exact ci hx) (by rw [e2]; simp only [List.length_append, List.length_cons, List.length_nil]; omega)
  have f3 : ∀ {μ : M}, ZG.Told μ b 3 54 (.tup E3) := told_cat (fun x hx => by
    rw [e3] at hx
    simp only [List.mem_append, List.mem_singleton] at hx
    rcases hx with (hx | rfl) | hx
    · exact ci hx
    · exact one t0
    · exact ci hx) (by rw [e3]; simp only [List.length_append, List.length_cons, List.length_nil]; omega)
  have f4 : ∀ {μ : M}, ZG.Told μ b 3 54 (.tup E4) := told_cat (fun x hx => by
    rw [e4] at hx
    simp only [List.mem_append, List.mem_singleton] at hx
    rcases hx with (hx | rfl) | hx
    · exact ci hx
    · exact one th
    · exact ci hx) (by rw [e4]; simp only [List.length_append, List.length_cons, List.length_nil]; omega)
  rw [← e1, ← e2]
  obtain ⟨c0, m0, hb0, _⟩ := id BG2.at_
  have n1 : q1 ≠ b := ne_of_some hq1 hb0
  have s1 := sub_new (Y := .lst [.tup E1, .tup E2]) (Sub.refl (μ := μ2)) hq1
  have h1 : (μ2.set q1 (.lst [.tup E1, .tup E2])) q1 = some (.lst [.tup E1, .tup E2]) := set_same
  have BG3 := BG2.new (X := .lst [.tup E1, .tup E2]) hq1
  generalize (μ2.set q1 (.lst [.tup E1, .tup E2])) = μ3 at s1 h1 BG3 ⊢
  walk_at "go"
  refine ro_catA (by simp only [List.length_cons, List.length_nil]; omega) ?_
  walk_at "go"
  refine ro_catA (by simp only [List.length_append, List.length_cons, List.length_nil]; omega) ?_
  walk_at "go"
  refine ro_catA (by simp only [List.length_cons, List.length_nil]; omega) ?_
  walk_at "go"
  refine ro_catA (by simp only [List.length_append, List.length_cons, List.length_nil]; omega) ?_
  walk_at "go"
  intro q2 hq2
  rw [← e3, ← e4]
  have n2 : q2 ≠ b := ne_of_some hq2 (s1 _ _ hb0)
  have s2 := sub_new (Y := .lst [.tup E3, .tup E4]) s1 hq2
  have h2 : (μ3.set q2 (.lst [.tup E3, .tup E4])) q2 = some (.lst [.tup E3, .tup E4]) := set_same
  have h12 := sub_new (Y := .lst [.tup E3, .tup E4]) Sub.refl hq2 _ _ h1
  have BG4 := BG3.new (X := .lst [.tup E3, .tup E4]) hq2
  generalize (μ3.set q2 (.lst [.tup E3, .tup E4])) = μ4 at s2 h2 h12 BG4 ⊢
  refine ro_cat h12 h2 (by simp only [List.length_cons, List.length_nil]; omega) fun q3 hq3 => ?_
  have n3 : q3 ≠ b := ne_of_some hq3 (s2 _ _ hb0)
  show AG K _ _ _ (μ4.set q3 (.lst [.tup E1, .tup E2, .tup E3, .tup E4])) _
  have s3 := sub_new (Y := .lst [.tup E1, .tup E2, .tup E3, .tup E4]) s2 hq3
  have h3 : (μ4.set q3 (.lst [.tup E1, .tup E2, .tup E3, .tup E4])) q3 = some (.lst [.tup E1, .tup E2, .tup E3, .tup E4]) := set_same
  have BG5 := BG4.new (X := .lst [.tup E1, .tup E2, .tup E3, .tup E4]) hq3
  generalize (μ4.set q3 (.lst [.tup E1, .tup E2, .tup E3, .tup E4])) = μ5 at s3 h3 BG5 ⊢
  walk_at "go"
  refine use_tk BG5 (by decide) (by decide) fun d μ6 d0 d1 sb6 BG6 => ?_
  have h36 := sb6 _ _ n3 h3
  have sB6 : SubB b μ μ6 := fun a x n e => sb6 _ _ n (s3 _ _ (sB2 a x n e))
  obtain ⟨O, eO, tO⟩ : ∃ O, atI [D.tup E1, .tup E2, .tup E3, .tup E4] d = some (.tup O) ∧ ∀ {μ : M}, ZG.Told μ b 3 54 (.tup O) := by
    have hd : d = 0 ∨ d = 1 ∨ d = 2 ∨ d = 3 := by omega
    rcases hd with rfl | rfl | rfl | rfl
    · exact ⟨_, rfl, f1⟩
    · exact ⟨_, rfl, f2⟩
    · exact ⟨_, rfl, f3⟩
    · exact ⟨_, rfl, f4⟩
  refine ro_ix (seq_ref h36) eO ?_
  clear s1 s2 s3 h1 h2 h12 h3 BG3 BG4 BG5 h36 sb6 sB2 BG2
  obtain ⟨c6, m6, hb6, _⟩ := id BG6.at_
  walk_at "go"
  refine ro_ix (ds := R) rfl (show atI R 3 = some (.int r.2.2.2) from by rw [eR]; rfl) ?_
  walk_at "go"
  refine ro_ix (ds := R) rfl (show atI R 2 = some (.int r.2.2.1) from by rw [eR]; rfl) ?_
  walk_at "go"
  refine ro_catA (by simp only [List.length_cons, List.length_nil]; omega) ?_
  walk_at "go"
  refine rc_list (ds := R) rfl fun q4 hq4 => ?_
  have n4 : q4 ≠ b := ne_of_some hq4 hb6
  have s4 := sub_new (Y := .lst R) (Sub.refl (μ := μ6)) hq4
  have h4 : (μ6.set q4 (.lst R)) q4 = some (.lst R) := set_same
  have BG7 := BG6.new (X := .lst R) hq4
  generalize (μ6.set q4 (.lst R)) = μ7 at s4 h4 BG7 ⊢
  walk_at "go"
  refine ro_catA (by simp only [List.length_cons, List.length_nil]; omega) ?_
  walk_at "go"
  intro q5 hq5
  obtain ⟨E5, e5⟩ : ∃ E, E = cutD R none (some 2) ++ [D.int r.2.2.2, D.int r.2.2.1] := ⟨_, rfl⟩
  obtain ⟨E6, e6⟩ : ∃ E, E = R ++ [D.int 0] := ⟨_, rfl⟩
  have f5 : ∀ {μ : M}, ZG.Told μ b 3 54 (.tup E5) := told_cat (fun x hx => by
    rw [e5] at hx
    simp only [List.mem_append, List.mem_cons, List.not_mem_nil, or_false] at hx
    rcases hx with hx | rfl | rfl
    · exact ci hx
    · exact one r4
    · exact one r3) (by rw [e5]; simp only [List.length_append, List.length_cons, List.length_nil]; omega)
  have f6 : ∀ {μ : M}, ZG.Told μ b 3 54 (.tup E6) := told_cat (fun x hx => by
    rw [e6] at hx
    rcases List.mem_append.mp hx with hx | hx
    · exact rin hx
    · rw [List.mem_singleton.mp hx]; exact one t0) (by rw [e6]; simp only [List.length_append, List.length_cons, List.length_nil]; omega)
  have f7 : ∀ {μ : M}, ZG.Told μ b 3 54 (.tup (cutD R none (some 3))) := told_cat (fun x hx => ci hx) (by omega)
  rw [← e5, ← e6]
  have f8 : ∀ {μ : M}, μ q4 = some (.lst R) → ZG.Told μ b 3 54 (.ref q4) := fun e => ZG.told_lst n4 e (fun x hx => rin hx) (by rw [Rl]; decide)
  have h45 := sub_new (Y := .lst [.tup O, .tup E5, .ref q4, .tup (cutD R none (some 3)), .tup E6]) Sub.refl hq5 _ _ h4
  have h5 : (μ7.set q5 (.lst [.tup O, .tup E5, .ref q4, .tup (cutD R none (some 3)), .tup E6])) q5 = some (.lst [.tup O, .tup E5, .ref q4, .tup (cutD R none (some 3)), .tup E6]) := set_same
  have BG8 := BG7.new (X := .lst [.tup O, .tup E5, .ref q4, .tup (cutD R none (some 3)), .tup E6]) hq5
  have sB8 : SubB b μ (μ7.set q5 (.lst [.tup O, .tup E5, .ref q4, .tup (cutD R none (some 3)), .tup E6])) := fun a x n e => sub_new (Y := .lst [.tup O, .tup E5, .ref q4, .tup (cutD R none (some 3)), .tup E6]) s4 hq5 _ _ (sB6 a x n e)
  generalize (μ7.set q5 (.lst [.tup O, .tup E5, .ref q4, .tup (cutD R none (some 3)), .tup E6])) = μ8 at h45 h5 BG8 sB8 ⊢
  walk_at "go"
  have hd : way = 5 ∨ way = 6 ∨ way = 7 ∨ way = 8 ∨ way = 9 := by omega
  rcases hd with rfl | rfl | rfl | rfl | rfl
  · exact ro_ix (seq_ref h5) rfl (qy _ μ8 tO sB8 BG8)
  · exact ro_ix (seq_ref h5) rfl (qy _ μ8 f5 sB8 BG8)
  · exact ro_ix (seq_ref h5) rfl (qy _ μ8 (f8 h45) sB8 BG8)
  · exact ro_ix (seq_ref h5) rfl (qy _ μ8 f7 sB8 BG8)
  · exact ro_ix (seq_ref h5) rfl (qy _ μ8 f6 sB8 BG8)))) only [↓Hold.on]
theorem made_bounds {w h l s : Int} {rows : List R4} (M : Made w h rows l s) : (2 ≤ w ∧ w ≤ 1000000) ∧ (2 ≤ h ∧ h ≤ 1000000) ∧ (1 ≤ l ∧ l ≤ 3) ∧ (1 ≤ s ∧ s ≤ 1000000) ∧ rows.length ≤ 16 ∧ ∀ r ∈ rows, (0 < r.1 ∧ r.1 < w) ∧ (0 < r.2.1 ∧ r.2.1 < h) ∧ 0 ≤ r.2.2.1 ∧ r.2.2.1 ≤ r.2.2.2 ∧ r.2.2.2 < l := by
  have k := M.ok
  simp only [ab, wi, Bool.and_eq_true, decide_eq_true_eq, List.length_map, List.all_map, List.all_eq_true] at k
  obtain ⟨⟨⟨⟨h1, h2⟩, h3⟩, h4⟩, ⟨h5, h6⟩, _⟩ := k
  refine ⟨h1, h2, h3, h4, h5, fun r hr => ?_⟩
  have := h6 r hr
  simp only [Function.comp, pr, Bool.and_eq_true, decide_eq_true_eq] at this
  obtain ⟨⟨⟨a1, a2⟩, a3, a4⟩, ⟨a5, a6⟩, a7⟩ := this
  exact ⟨⟨a1, a2⟩, ⟨a3, a4⟩, a5, a6, a7⟩
theorem row_told {μ : M} {b : Addr} {w h l s : Int} {rows : List R4} (M : Made w h rows l s) : ∀ x ∈ rows.map encR, ZG.Told μ b 1 4 x := fun x hx => by
  obtain ⟨r, hr, rfl⟩ := List.mem_map.mp hx
  obtain ⟨b1, b2, b3, b4, b5, b6⟩ := made_bounds M
  have := b6 r hr
  refine ZG.told_tup (n := 0) (k := 0) (fun y hy => ?_) (by simp)
  simp only [List.mem_cons, List.not_mem_nil, or_false] at hy
  rcases hy with rfl | rfl | rfl | rfl <;> exact tame_told (by unfold Tame; omega)
def Bent (μ : M) (b : Addr) (d : D) : Prop := ∃ w h p l s, d = .tup [w, h, p, l, s] ∧ ∀ x ∈ [w, h, p, l, s], ZG.Told μ b 4 1000 x
theorem told5 {μ : M} {b : Addr} {a1 a2 a3 a4 a5 : D} (h1 : ZG.Told μ b 4 1000 a1) (h2 : ZG.Told μ b 4 1000 a2) (h3 : ZG.Told μ b 4 1000 a3) (h4 : ZG.Told μ b 4 1000 a4) (h5 : ZG.Told μ b 4 1000 a5) : Bent μ b (.tup [a1, a2, a3, a4, a5]) := ⟨a1, a2, a3, a4, a5, rfl, fun x hx => by
  simp only [List.mem_cons, List.not_mem_nil, or_false] at hx
  rcases hx with rfl | rfl | rfl | rfl | rfl
  · exact h1
  · exact h2
  · exact h3
  · exact h4
  · exact h5⟩
def P_l_bent : PT3 := fun ds μ Φ => ∃ (b : Addr) (w h l s : Int) (rows : List R4), ds = [.ref b, .tup [.int w, .int h, .tup (rows.map encR), .int l, .int s]] ∧ BgAt μ b ∧ Made w h rows l s ∧
  ∀ d μ', Bent μ' b d → SubB b μ μ' → BgAt μ' b → Φ d μ'
theorem len_l_bent (ds : List D) (μ : M) (Φ : D → M → Prop) (h : P_l_bent ds μ Φ) : ds.length = 2 := by
  obtain ⟨_, _, _, _, _, _, rfl, _⟩ := h
  rfl
theorem ok_l_bent {f : Addr} {fd : FuncData} (F : Fun K "_law_bent" "_law_bent" s_l_bent f fd) (B : Bs mg) (G_l_bent_pin : Def P w K mg base "_law_bent_pin" ["_law_bag_here", "_law_row", "_law_made_here"] 3 (spI K P_l_bent_pin)) (G_l_odd : Def P w K mg base "_law_odd" ["_law_bag_here"] 2 (spI K P_l_odd)) (G_l_take : Def P w K mg base "_law_take" ["_law_bag_here", "_law_many"] 1 (spI K P_l_take)) : FnOk P w K mg base CX0 4 f fd ["_law_bag_here", "_law_made_here"] (spI K P_l_bent) := by
  refine Hold.out ?_
  simp (disch := (
  refine Hold.as ?_
  with_unfolding_all (
  refine F.ok sc_l_bent (fun vs H Q E h => spI_len h len_l_bent) (fun cdv A outer s H vs Q E hr h => ?_)
  have hu65 := hu65_of hr
  refine ⟨_, (pss_cons (ps_set (i := 2) sc_l_bent.nd rfl (by first | exact Or.inl rfl | exact Or.inr rfl) (pe_def G_l_take (hr.mono (by decide)) (by rfl) (pa_cons (pv 0) (pa_cons pe_int pa_nil))))
      (pss_cons (ps_set (i := 3) sc_l_bent.nd rfl (by first | exact Or.inl rfl | exact Or.inr rfl) (pe_ix (ix_seqK (K := K) rfl) (pv 1) pe_int (fun _ _ => rfl)))
      (pss_cons (ps_set (i := 4) sc_l_bent.nd rfl (by first | exact Or.inl rfl | exact Or.inr rfl) (pe_def G_l_take (hr.mono (by decide)) (by rfl) (pa_cons (pv 0) (pa_cons (pe_op op_add (pe_callB (call_lenK (K := K) rfl) (by rfl) B.b_len (by decide +kernel) (pa_cons (pv 3) pa_nil)) pe_int) pa_nil))))
      (pss_cons (ps_set (i := 5) sc_l_bent.nd rfl (by first | exact Or.inl rfl | exact Or.inr rfl) (pe_ix (ix_seqK (K := K) rfl) (pe_lst (pa_cons pe_int (pa_cons pe_int (pa_cons pe_int (pa_cons pe_int pa_nil))))) (pe_def G_l_take (hr.mono (by decide)) (by rfl) (pa_cons (pv 0) (pa_cons pe_int pa_nil))) (fun _ _ => rfl)))
      (pss_cons (ps_if (pt_cmpR op_eq (pv 2) pe_int (by first | exact nomark _ | rfl)) (pss_one (ps_ret (pe_op (op_catAK (K := K) rfl) (pe_op (op_catAK (K := K) rfl) (pe_slice (sl_tupAK (K := K) rfl) (pv 1) po_none (po_some (pv 5))) (pe_tup (pa_cons (pe_def G_l_odd (hr.mono (by decide)) (by rfl) (pa_cons (pv 0) pa_nil)) pa_nil))) (pe_slice (sl_tupAK (K := K) rfl) (pv 1) (po_some (pe_op op_add (pv 5) pe_int)) po_none)))) pss_nil)
      (pss_cons (ps_if (pt_cmpR op_eq (pv 2) pe_int (by first | exact nomark _ | rfl)) (pss_cons (ps_set (i := 6) sc_l_bent.nd rfl (by first | exact Or.inl rfl | exact Or.inr rfl) (pe_ix (ix_seqK (K := K) rfl) (pe_lst (pa_cons pe_int (pa_cons (pe_un un_neg pe_int) (pa_cons (pe_un un_neg pe_int) pa_nil)))) (pe_def G_l_take (hr.mono (by decide)) (by rfl) (pa_cons (pv 0) (pa_cons pe_int pa_nil))) (fun _ _ => rfl)))
      (pss_one (ps_ret (pe_op (op_catAK (K := K) rfl) (pe_op (op_catAK (K := K) rfl) (pe_slice (sl_tupAK (K := K) rfl) (pv 1) po_none (po_some (pv 5))) (pe_tup (pa_cons (pe_op op_add (pe_ix (ix_seqK (K := K) rfl) (pv 1) (pv 5) (fun _ _ => rfl)) (pv 6)) pa_nil))) (pe_slice (sl_tupAK (K := K) rfl) (pv 1) (po_some (pe_op op_add (pv 5) pe_int)) po_none))))) pss_nil)
      (pss_cons (ps_if (pt_cmpR op_eq (pv 2) pe_int (by first | exact nomark _ | rfl)) (pss_one (ps_set (i := 3) sc_l_bent.nd rfl (by first | exact Or.inl rfl | exact Or.inr rfl) (pe_ix (ix_seqK (K := K) rfl) (pe_lst (pa_cons (pe_def G_l_odd (hr.mono (by decide)) (by rfl) (pa_cons (pv 0) pa_nil)) (pa_cons (pe_callTy (call_listK (K := K) rfl) (by rfl) B.b_list (by decide +kernel) (pa_cons (pv 3) pa_nil)) (pa_cons (RVT.pe_revT (K := K) rfl (pv 3)) (pa_cons (pe_op (op_catAK (K := K) rfl) (pv 3) (pe_tup (pa_cons (pe_tup pa_nil) pa_nil))) pa_nil))))) (pe_def G_l_take (hr.mono (by decide)) (by rfl) (pa_cons (pv 0) (pa_cons pe_int pa_nil))) (fun _ _ => rfl)))) (pss_one (ps_if (PW.pt (pw_and (pt_cmpR op_eq (pv 2) pe_int (by first | exact nomark _ | rfl)) (pw_and1 (pt_cmpR (op_neDK (K := K) rfl hr.units) (pv 3) (pe_tup pa_nil) (by first | exact nomark _ | rfl))))) (pss_one (ps_set (i := 3) sc_l_bent.nd rfl (by first | exact Or.inl rfl | exact Or.inr rfl) (pe_op (op_catAK (K := K) rfl) (pe_op (op_catAK (K := K) rfl) (pe_slice (sl_tupAK (K := K) rfl) (pv 3) po_none (po_some (pv 4))) (pe_slice (sl_tupAK (K := K) rfl) (pv 3) po_none (po_some pe_int))) (pe_slice (sl_tupAK (K := K) rfl) (pv 3) (po_some (pv 4)) po_none)))) (pss_one (ps_if (pt_cmpR op_eq (pv 2) pe_int (by first | exact nomark _ | rfl)) (pss_cons (ps_set (i := 7) sc_l_bent.nd rfl (by first | exact Or.inl rfl | exact Or.inr rfl) (pe_op op_sub (pe_ix (ix_seqK (K := K) rfl) (pv 1) pe_int (fun _ _ => rfl)) pe_int))
      (pss_one (ps_set (i := 3) sc_l_bent.nd rfl (by first | exact Or.inl rfl | exact Or.inr rfl) (pe_callTy (call_tupleK (K := K) rfl) (by rfl) B.b_tuple (by decide +kernel) (pa_cons (pe_lc (own := [("_law_k", 8)]) (g := gName 8) (tt := tYes) rfl sc_l_bent.nd (pi_range1 (by rfl) B.b_range (pa_cons (pe_op op_add pe_int (pe_def G_l_take (hr.mono (by decide)) (by rfl) (pa_cons (pv 0) (pa_cons pe_int pa_nil)))) pa_nil)) (blkOk_by (own := [("_law_k", 8)]) (N := N_l_bent) (sc := defScope s_l_bent) (by decide +kernel)) (fun _ _ _ _ _ => (pg_name (i := 8) sc_l_bent.nd rfl (by first | exact Or.inl rfl | exact Or.inr rfl))) (fun _ _ _ _ _ => pts_nil) (fun _ _ _ _ _ => (pe_tup (pa_cons (pe_op op_add pe_int (pe_op op_mod (pv 8) (pv 7))) (pa_cons (pe_op op_add pe_int (pe_op op_fdivW (pv 8) (pv 7))) (pa_cons pe_int (pa_cons pe_int pa_nil))))))) pa_nil))))) (pss_one (ps_if (pt_cmpR op_lt (pv 4) (pe_callB (call_lenK (K := K) rfl) (by rfl) B.b_len (by decide +kernel) (pa_cons (pv 3) pa_nil)) (by first | exact nomark _ | rfl)) (pss_one (ps_set (i := 3) sc_l_bent.nd rfl (by first | exact Or.inl rfl | exact Or.inr rfl) (pe_op (op_catAK (K := K) rfl) (pe_op (op_catAK (K := K) rfl) (pe_slice (sl_tupAK (K := K) rfl) (pv 3) po_none (po_some (pv 4))) (pe_tup (pa_cons (pe_def G_l_bent_pin (hr.mono (by decide)) (by rfl) (pa_cons (pv 0) (pa_cons (pe_ix (ix_seqK (K := K) rfl) (pv 3) (pv 4) (fun _ _ => rfl)) (pa_cons (pv 1) pa_nil)))) pa_nil))) (pe_slice (sl_tupAK (K := K) rfl) (pv 3) (po_some (pe_op op_add (pv 4) pe_int)) po_none)))) pss_nil)))))))
      (pss_one (ps_ret (pe_op (op_catAK (K := K) rfl) (pe_op (op_catAK (K := K) rfl) (pe_slice (sl_tupAK (K := K) rfl) (pv 1) po_none (po_some pe_int)) (pe_tup (pa_cons (pv 3) pa_nil))) (pe_slice (sl_tupAK (K := K) rfl) (pv 1) (po_some pe_int) po_none))))))))))), body_ok h (fun ds μ Φ p => ?_)⟩
  (try dsimp only [cxOf, Cx.nox, Cx.wish, List.map_cons, List.map_nil])
  obtain ⟨b, w, h, l, s, rows, rfl, BG, MD, qy⟩ := p
  show AS K _ [some _, some _, none, none, none, none, none, none, none] _ _
  obtain ⟨⟨w0, w1⟩, ⟨h0, h1⟩, ⟨l0, l1⟩, ⟨s0, s1⟩, rl, rb⟩ := made_bounds MD
  have zz := sizeLine_eq
  have rt := fun {μ : M} => row_told (μ := μ) (b := b) MD
  have num : ∀ {μ : M} {i : Int}, i.natAbs ≤ 2000000 → ZG.Told μ b 4 1000 (.int i) := fun h => (tame_told (by unfold Tame; omega)).mono (by decide) (by decide)
  have prow : ∀ {μ : M}, ZG.Told μ b 4 1000 (.tup (rows.map encR)) := (ZG.told_tup rt (Nat.le_refl _)).mono (by decide) (by rw [List.length_map]; omega)
  obtain ⟨P, eP⟩ : ∃ P, P = rows.map encR := ⟨_, rfl⟩
  have Pl : P.length = rows.length := by rw [eP, List.length_map]
  rw [← eP] at prow rt ⊢
  walk_at "go"
  refine use_tk BG (by decide) (by decide) fun way μ1 y0 y1 sb1 BG1 => ?_
  walk_at "go"
  refine use_tk BG1 (by omega) (by omega) fun at_ μ2 z0 z1 sb2 BG2 => ?_
  have sB2 := sb_trans sb1 sb2
  clear BG BG1 sb1 sb2
  walk_at "go"
  intro q1 hq1
  obtain ⟨c0, m0, hb0, _⟩ := id BG2.at_
  have n1 : q1 ≠ b := ne_of_some hq1 hb0
  have h1' : (μ2.set q1 (.lst [.int 0, .int 1, .int 3, .int 4])) q1 = some (.lst [.int 0, .int 1, .int 3, .int 4]) := set_same
  have BG3 := BG2.new (X := .lst [.int 0, .int 1, .int 3, .int 4]) hq1
  have sB3 : SubB b μ (μ2.set q1 (.lst [.int 0, .int 1, .int 3, .int 4])) := fun a x n e => sub_new (Y := .lst [.int 0, .int 1, .int 3, .int 4]) Sub.refl hq1 _ _ (sB2 a x n e)
  generalize (μ2.set q1 (.lst [.int 0, .int 1, .int 3, .int 4])) = μ3 at h1' BG3 sB3 ⊢
  clear hq1 BG2 sB2 hb0
  walk_at "go"
  refine use_tk BG3 (by decide) (by decide) fun d μ4 d0 d1 sb4 BG4 => ?_
  obtain ⟨pl, ep, hp⟩ : ∃ pl, atI [D.int 0, .int 1, .int 3, .int 4] d = some (.int pl) ∧ (pl = 0 ∨ pl = 1 ∨ pl = 3 ∨ pl = 4) := by
    have hd : d = 0 ∨ d = 1 ∨ d = 2 ∨ d = 3 := by omega
    rcases hd with rfl | rfl | rfl | rfl <;> exact ⟨_, rfl, by decide⟩
  refine ro_ix (seq_ref (sb4 _ _ n1 h1')) ep ?_
  have sB4 := sb_trans sB3 sb4
  clear h1' BG3 sB3 sb4 n1
  walk_at "go"
  refine ite_d (fun g0 => ?_) (fun g0 => ?_)
  · rcases hp with rfl | rfl | rfl | rfl
    · walk_at "go"
      refine ⟨b, rfl, BG4, fun d μ5 td sb5 BG5 => ?_⟩
      walk_at "go"
      exact qy _ μ5 (told5 (td.mono (by decide) (by decide)) (num (by omega)) prow (num (by omega)) (num (by omega))) (sb_trans sB4 sb5) BG5
    · walk_at "go"
      refine ⟨b, rfl, BG4, fun d μ5 td sb5 BG5 => ?_⟩
      walk_at "go"
      exact qy _ μ5 (told5 (num (by omega)) (td.mono (by decide) (by decide)) prow (num (by omega)) (num (by omega))) (sb_trans sB4 sb5) BG5
    · walk_at "go"
      refine ⟨b, rfl, BG4, fun d μ5 td sb5 BG5 => ?_⟩
      walk_at "go"
      exact qy _ μ5 (told5 (num (by omega)) (num (by omega)) prow (td.mono (by decide) (by decide)) (num (by omega))) (sb_trans sB4 sb5) BG5
    · walk_at "go"
      refine ⟨b, rfl, BG4, fun d μ5 td sb5 BG5 => ?_⟩
      walk_at "go"
      exact qy _ μ5 (told5 (num (by omega)) (num (by omega)) prow (num (by omega)) (td.mono (by decide) (by decide))) (sb_trans sB4 sb5) BG5
  walk_at "go"
  refine ite_d (fun g1 => ?_) (fun g1 => ?_)
  · walk_at "go"
    intro q2 hq2
    obtain ⟨c0, m0, hb0, _⟩ := id BG4.at_
    have n2 : q2 ≠ b := ne_of_some hq2 hb0
    have h2' : (μ4.set q2 (.lst [.int 1, .int (-1), .int (-9)])) q2 = some (.lst [.int 1, .int (-1), .int (-9)]) := set_same
    have BG5 := BG4.new (X := .lst [.int 1, .int (-1), .int (-9)]) hq2
    have sB5 : SubB b μ (μ4.set q2 (.lst [.int 1, .int (-1), .int (-9)])) := fun a x n e => sub_new (Y := .lst [.int 1, .int (-1), .int (-9)]) Sub.refl hq2 _ _ (sB4 a x n e)
    generalize (μ4.set q2 (.lst [.int 1, .int (-1), .int (-9)])) = μ5 at h2' BG5 sB5 ⊢
    walk_at "go"
    refine use_tk BG5 (by decide) (by decide) fun d μ6 d0 d1 sb6 BG6 => ?_
    have h26 := sb6 _ _ n2 h2'
    have sB6 := sb_trans sB5 sb6
    obtain ⟨more, em, hm⟩ : ∃ more, atI [D.int 1, .int (-1), .int (-9)] d = some (.int more) ∧ more.natAbs ≤ 9 := by
      have hd : d = 0 ∨ d = 1 ∨ d = 2 := by omega
      rcases hd with rfl | rfl | rfl <;> exact ⟨_, rfl, by decide⟩
    refine ro_ix (seq_ref h26) em ?_
    walk_at "go"
    rcases hp with rfl | rfl | rfl | rfl
    · refine ro_ix (ds := [.int w, .int h, .tup P, .int l, .int s]) rfl (show _ = some (.int w) from rfl) ?_
      walk_at "go"
      exact qy _ μ6 (told5 (num (by omega)) (num (by omega)) prow (num (by omega)) (num (by omega))) sB6 BG6
    · refine ro_ix (ds := [.int w, .int h, .tup P, .int l, .int s]) rfl (show _ = some (.int h) from rfl) ?_
      walk_at "go"
      exact qy _ μ6 (told5 (num (by omega)) (num (by omega)) prow (num (by omega)) (num (by omega))) sB6 BG6
    · refine ro_ix (ds := [.int w, .int h, .tup P, .int l, .int s]) rfl (show _ = some (.int l) from rfl) ?_
      walk_at "go"
      exact qy _ μ6 (told5 (num (by omega)) (num (by omega)) prow (num (by omega)) (num (by omega))) sB6 BG6
    · refine ro_ix (ds := [.int w, .int h, .tup P, .int l, .int s]) rfl (show _ = some (.int s) from rfl) ?_
      walk_at "go"
      exact qy _ μ6 (told5 (num (by omega)) (num (by omega)) prow (num (by omega)) (num (by omega))) sB6 BG6
  refine s_next ?_
  refine s_cut (M0 := fun τ' μ' => ∃ (p' : D) (o7 o8 : Option D), ZG.Told μ' b 4 1000 p' ∧ SubB b μ μ' ∧ BgAt μ' b ∧ τ' = [some (.ref b), some (.tup [.int w, .int h, .tup P, .int l, .int s]), some (.int way), some p', some (.int at_), some (.int pl), none, o7, o8]) ?_ ?_
  rotate_left
  · rintro τ' μ5 ⟨p', o7, o8, tp, sB5, BG5, rfl⟩
    walk_at "go"
    exact qy _ μ5 (told5 (num (by omega)) (num (by omega)) tp (num (by omega)) (num (by omega))) sB5 BG5
  have okP : OkN 2 (.tup P) := okn_tup fun x hx => by
    rw [eP] at hx
    obtain ⟨r, _, rfl⟩ := List.mem_map.mp hx
    refine okn_tup fun y hy => ?_
    simp only [List.mem_cons, List.not_mem_nil, or_false] at hy
    rcases hy with rfl | rfl | rfl | rfl <;> exact okn_int
  have cl : ∀ {lo hi : Option Int}, (cutD P lo hi).length ≤ 16 := fun {lo hi} => by
    have := cut_len (ds := P) (lo := lo) (hi := hi)
    omega
  have ci : ∀ {μ : M} {lo hi : Option Int} {x : D}, x ∈ cutD P lo hi → ZG.Told μ b 1 4 x := fun h => rt _ (cut_in h)
  walk_at "go"
  refine ite_d (fun g2 => ?_) (fun g2 => ?_)
  · walk_at "go"
    refine ⟨b, rfl, BG4, fun d μ5 td sb5 BG5 => ?_⟩
    have sB5 := sb_trans sB4 sb5
    obtain ⟨c0, m0, hb0, _⟩ := id BG5.at_
    walk_at "go"
    refine rc_list (ds := P) rfl fun q2 hq2 => ?_
    have n2 : q2 ≠ b := ne_of_some hq2 hb0
    have s2 := sub_new (Y := .lst P) (Sub.refl (μ := μ5)) hq2
    have h2' : (μ5.set q2 (.lst P)) q2 = some (.lst P) := set_same
    have BG6 := BG5.new (X := .lst P) hq2
    generalize (μ5.set q2 (.lst P)) = μ6 at s2 h2' BG6 ⊢
    walk_at "go"
    refine ro_catA (by simp only [List.length_cons, List.length_nil]; omega) ?_
    walk_at "go"
    intro q3 hq3
    have n3 : q3 ≠ b := ne_of_some hq3 (s2 _ _ hb0)
    have s3 := sub_new (Y := .lst [d, .ref q2, .tup P.reverse, .tup (P ++ [.tup []])]) s2 hq3
    have h23 := sub_new (Y := .lst [d, .ref q2, .tup P.reverse, .tup (P ++ [.tup []])]) Sub.refl hq3 _ _ h2'
    have h3' : (μ6.set q3 (.lst [d, .ref q2, .tup P.reverse, .tup (P ++ [.tup []])])) q3 = some (.lst [d, .ref q2, .tup P.reverse, .tup (P ++ [.tup []])]) := set_same
    have BG7 := BG6.new (X := .lst [d, .ref q2, .tup P.reverse, .tup (P ++ [.tup []])]) hq3
    generalize (μ6.set q3 (.lst [d, .ref q2, .tup P.reverse, .tup (P ++ [.tup []])])) = μ7 at s3 h23 h3' BG7 ⊢
    walk_at "go"
    refine use_tk BG7 (by decide) (by decide) fun e μ8 d0 d1 sb8 BG8 => ?_
    have h38 := sb8 _ _ n3 h3'
    have h28 := sb8 _ _ n2 h23
    have s58 : SubB b μ5 μ8 := fun a x n e => sb8 _ _ n (s3 _ _ e)
    have td8 := (td.sub s58).mono (m := 4) (j := 1000) (by decide) (by decide)
    have tl : ZG.Told μ8 b 4 1000 (.ref q2) := (ZG.told_lst n2 h28 rt (Nat.le_refl _)).mono (by decide) (by omega)
    have tr : ZG.Told μ8 b 4 1000 (.tup P.reverse) := (ZG.told_tup (fun x hx => rt x (List.mem_reverse.mp hx)) (Nat.le_refl _)).mono (by decide) (by rw [List.length_reverse]; omega)
    have ta : ZG.Told μ8 b 4 1000 (.tup (P ++ [.tup []])) := (ZG.told_tup (n := 1) (k := 4) (fun x hx => by
      rcases List.mem_append.mp hx with hx | hx
      · exact rt x hx
      · rw [List.mem_singleton.mp hx]; exact ZG.told_tup (n := 0) (k := 0) (fun y hy => by cases hy) (by simp)) (Nat.le_refl _)).mono (by decide) (by simp only [List.length_append, List.length_cons, List.length_nil]; omega)
    have sB8 := sb_trans sB5 s58
    have he : e = 0 ∨ e = 1 ∨ e = 2 ∨ e = 3 := by omega
    rcases he with rfl | rfl | rfl | rfl
    · refine ro_ix (seq_ref h38) rfl ?_
      walk_at "go"
      exact ⟨_, _, _, td8, sB8, BG8, rfl⟩
    · refine ro_ix (seq_ref h38) rfl ?_
      walk_at "go"
      exact ⟨_, _, _, tl, sB8, BG8, rfl⟩
    · refine ro_ix (seq_ref h38) rfl ?_
      walk_at "go"
      exact ⟨_, _, _, tr, sB8, BG8, rfl⟩
    · refine ro_ix (seq_ref h38) rfl ?_
      walk_at "go"
      exact ⟨_, _, _, ta, sB8, BG8, rfl⟩
  walk_at "go"
  refine ite_d (fun g3 => ?_) (fun g3 => ?_)
  · walk_at "go"
    refine ro_neD (okP.ok (by decide)) (by rfl) ?_
    rw [nil_eqv]
    refine ⟨_, rfl, ?_⟩
    by_cases pe : P = []
    · rw [show P.isEmpty = true from by rw [pe]; rfl, Bool.not_true, if_neg Bool.false_ne_true]
      walk_at "go"
      refine ite_d (fun z => absurd z (by omega)) (fun _ => ?_)
      walk_at "go"
      refine ite_d (fun z => absurd z (by rw [pe]; simp only [List.length_nil]; omega)) (fun _ => ?_)
      walk_at "go"
      exact ⟨_, _, _, prow, sB4, BG4, rfl⟩
    · rw [show P.isEmpty = false from by cases P <;> first | exact absurd rfl pe | rfl, Bool.not_false, if_pos rfl]
      have l1 := cl (lo := none) (hi := some at_)
      have l2 := cl (lo := none) (hi := some 1)
      have l3 := cl (lo := some at_) (hi := none)
      walk_at "go"
      refine ro_catA (by omega) ?_
      walk_at "go"
      refine ro_catA (by rw [List.length_append]; omega) ?_
      walk_at "go"
      refine ⟨_, _, _, (ZG.told_tup (n := 1) (k := 4) (fun x hx => ?_) (Nat.le_refl _)).mono (by decide) (by simp only [List.length_append]; omega), sB4, BG4, rfl⟩
      simp only [List.mem_append] at hx
      rcases hx with (hx | hx) | hx <;> exact ci hx
  walk_at "go"
  refine ite_d (fun g4 => ?_) (fun g4 => ?_)
  · walk_at "go"
    refine a_lc1 (fun d => match d with | .int k => .tup [.int (1 + k % (w - 1)), .int (1 + k / (w - 1)), .int 0, .int 0] | _ => .non) (fun _ => true) (ai_1 ?_)
    walk_at "go"
    refine use_tk BG4 (by decide) (by decide) fun e μ5 d0 d1 sb5 BG5 => ?_
    have sB5 := sb_trans sB4 sb5
    walk_at "go"
    refine ⟨by omega, by omega, by rw [List.length_map, List.length_range]; omega, fun x hx => at_yes ⟨rfl, rfl⟩, fun x hx _ => ?_, fun q2 hq2 => ?_⟩
    · obtain ⟨j, hj, rfl⟩ := List.mem_map.mp hx
      have hj := List.mem_range.mp hj
      walk_at "nf"
      walk_at "go"
      refine ro_c (divw_of (b := 100) (by omega) (by unfold Sz; omega) (by decide)) ?_
      walk_at "go"
      exact ⟨rfl, rfl⟩
    have hq2 : μ5 q2 = none := hq2
    obtain ⟨W, eW⟩ : ∃ W, W = List.map (fun d => match d with | .int k => D.tup [.int (1 + k % (w - 1)), .int (1 + k / (w - 1)), .int 0, .int 0] | _ => .non) (List.filter (fun _ => true) (List.map (fun (i : Nat) => D.int (0 + i)) (List.range (16 + e).toNat))) := ⟨_, rfl⟩
    have Wl : W.length ≤ 18 := by
      rw [eW, List.length_map, List.filter_eq_self.mpr (fun _ _ => rfl), List.length_map, List.length_range]
      omega
    have Wt : ∀ {μ : M}, ∀ x ∈ W, ZG.Told μ b 1 4 x := fun {μ} x hx => by
      rw [eW, List.filter_eq_self.mpr (fun _ _ => rfl), List.map_map] at hx
      obtain ⟨j, hj, rfl⟩ := List.mem_map.mp hx
      have hj := List.mem_range.mp hj
      have v0 : 0 ≤ (0 + (j : Int)) % (w - 1) ∧ (0 + (j : Int)) % (w - 1) < w - 1 := ⟨Int.emod_nonneg _ (by omega), Int.emod_lt_of_pos _ (by omega)⟩
      have v1 : 0 ≤ (0 + (j : Int)) / (w - 1) ∧ (0 + (j : Int)) / (w - 1) ≤ 0 + (j : Int) := ⟨Int.ediv_nonneg (by omega) (by omega), Int.ediv_le_self _ (by omega)⟩
      refine ZG.told_tup (n := 0) (k := 0) (fun y hy => ?_) (by simp)
      simp only [List.mem_cons, List.not_mem_nil, or_false] at hy
      rcases hy with rfl | rfl | rfl | rfl <;> exact tame_told (by unfold Tame; omega)
    show AA K tNil _ (μ5.set q2 (.lst (List.map (fun d => match d with | .int k => D.tup [.int (1 + k % (w - 1)), .int (1 + k / (w - 1)), .int 0, .int 0] | _ => .non) (List.filter (fun _ => true) (List.map (fun (i : Nat) => D.int (0 + i)) (List.range (16 + e).toNat)))))) _
    rw [← eW]
    have BG6 := BG5.new (X := .lst W) hq2
    have h2' : (μ5.set q2 (.lst W)) q2 = some (.lst W) := set_same
    have sB6 : SubB b μ (μ5.set q2 (.lst W)) := fun a x n ee => sub_new (Y := .lst W) Sub.refl hq2 _ _ (sB5 a x n ee)
    generalize (μ5.set q2 (.lst W)) = μ6 at BG6 h2' sB6 ⊢
    walk_at "go"
    refine rc_tuple (seq_ref h2') ?_
    walk_at "go"
    exact ⟨_, _, _, (ZG.told_tup Wt (Nat.le_refl _)).mono (by decide) (by omega), sB6, BG6, rfl⟩
  walk_at "go"
  refine ite_d (fun g5 => ?_) (fun g5 => ?_)
  rotate_left
  · walk_at "go"
    exact ⟨_, _, _, prow, sB4, BG4, rfl⟩
  obtain ⟨j, rfl⟩ : ∃ j : Nat, at_ = j := ⟨at_.toNat, by omega⟩
  have jl : j < rows.length := by omega
  have hr := List.getElem_mem jl
  have rbj := rb _ hr
  walk_at "go"
  refine ro_ix (ds := P) rfl (by rw [eP]; exact atI_map (f := encR) (l := rows) (a := rows[j]) (by omega) (by rw [Int.toNat_natCast]; exact List.getElem?_eq_getElem jl)) ?_
  walk_at "go"
  refine ⟨b, rows[j], w, h, l, .tup P, .int s, rfl, BG4, ⟨by unfold Tame; omega, by unfold Tame; omega, by unfold Tame; omega, by unfold Tame; omega⟩, ⟨by omega, by omega, by omega, by omega, by omega, by omega⟩, fun d μ5 td sb5 BG5 => ?_⟩
  have l1 := cl (lo := none) (hi := some (j : Int))
  have l2 := cl (lo := some ((j : Int) + 1)) (hi := none)
  walk_at "go"
  refine ro_catA (by simp only [List.length_cons, List.length_nil]; omega) ?_
  walk_at "go"
  refine ro_catA (by simp only [List.length_append, List.length_cons, List.length_nil]; omega) ?_
  walk_at "go"
  have l3 : (cutD P none (some (j : Int)) ++ [d] ++ cutD P (some ((j : Int) + 1)) none).length ≤ 16 := by
    have e1 : (cutD P none (some (j : Int))).length ≤ j := by
      unfold cutD
      rw [HT.sIx_none, HT.sIx_nat, List.length_take]
      omega
    have e2 : (cutD P (some ((j : Int) + 1)) none).length ≤ P.length - (j + 1) := by
      unfold cutD
      rw [show ((j : Int) + 1) = ((j + 1 : Nat) : Int) from by omega, HT.sIx_none, HT.sIx_nat, List.length_take]
      omega
    simp only [List.length_append, List.length_cons, List.length_nil]
    omega
  refine ⟨_, _, _, (ZG.told_tup (n := 3) (k := 54) (fun x hx => ?_) (Nat.le_refl _)).mono (by decide) (by omega), sb_trans sB4 sb5, BG5, rfl⟩
  simp only [List.mem_append, List.mem_singleton] at hx
  rcases hx with (hx | rfl) | hx
  · exact (ci hx).mono (by decide) (by decide)
  · exact td
  · exact (ci hx).mono (by decide) (by decide)))) only [↓Hold.on]
theorem bent_k {μ : M} {b : Addr} {p : D} (t : ZG.Told μ b 4 1000 p) : ∀ rows, p = .tup rows → rows.length ≤ 1000 ∧ ∀ r ∈ rows, Kx μ r := fun rows e => by
  subst e
  obtain ⟨h1, h2⟩ := told_parts t
  exact ⟨h1, fun r hr => told_kx (h2 r hr) (by decide)⟩
theorem Bent.get {μ : M} {b : Addr} {d : D} (B : Bent μ b d) : ∃ w h p l s P, d = .tup [w, h, p, l, s] ∧ (ZG.Told μ b 4 1000 w ∧ ZG.Told μ b 4 1000 h ∧ ZG.Told μ b 4 1000 p ∧ ZG.Told μ b 4 1000 l ∧ ZG.Told μ b 4 1000 s) ∧ ZG.Say μ b (.tup [w, h, p, l, s]) P ∧ ZG.Fit 5 6000 P := by
  obtain ⟨w, h, p, l, s, rfl, t⟩ := B
  obtain ⟨P, sP, fP⟩ := ZG.told_tup (j := 6000) t (by simp)
  exact ⟨w, h, p, l, s, P, rfl, ⟨t w (by simp), t h (by simp), t p (by simp), t l (by simp), t s (by simp)⟩, sP, fP⟩
theorem sub_sb {μ μ' : M} {b : Addr} (s : Sub μ μ') : SubB b μ μ' := fun a m _ e => s a m e
theorem ok_law {f : Addr} {fd : FuncData} (F : Fun K "law" "law" s_law f fd) (B : Bs mg) {C_Board : Addr} (K_Board : Cl_Board K C_Board) (G_l_bag : Def P w K mg base "_law_bag" ["_law_script", "_law_at"] 2 (spI K P_l_bag)) (G_l_bent : Def P w K mg base "_law_bent" ["_law_bag_here", "_law_made_here"] 4 (spI K P_l_bent)) (G_l_is_made : Def P w K mg base "_law_is_made" ["_law_made_here"] 3 (spI K P_l_is_made)) (G_l_is_refused : Def P w K mg base "_law_is_refused" ["_law_made_here"] 8 (spI K (P_l_is_refused C_Board))) (G_l_made : Def P w K mg base "_law_made" ["_law_bag_here", "_law_most"] 3 (spI K P_l_made)) (G_l_told : Def P w K mg base "_law_told" ["_law_made_here"] 8 (spI K (P_l_told C_Board))) : ZG.FnG P w K mg base 16 f fd ["_law_script"] (spI K P_law) := by
  refine ZG.free_ok F sc_law (fun vs H Q E h => spI_len h len_law) (fun cdv A outer s H vs Q E hg hr h => ?_)
  have hu65 := hu65_of hr
  refine ⟨_, (pss_cons (ps_for PassesOwn.never rfl (pi_range1 (by rfl) B.b_range (pa_cons (pe_op op_add pe_int (pe_callB (call_min2 rfl) (by rfl) B.b_min (by decide +kernel) (pa_cons pe_int (pa_cons (pe_callB (call_lenK (K := K) rfl) (by rfl) B.b_len (by decide +kernel) (pa_cons (pv 0) pa_nil)) pa_nil)))) pa_nil)) (pg_name (i := 1) sc_law.nd rfl (by first | exact Or.inl rfl | exact Or.inr rfl))
      (pss_cons (ps_set (i := 2) sc_law.nd rfl (by first | exact Or.inl rfl | exact Or.inr rfl) (pe_def G_l_bag (hr.mono (by decide)) (by rfl) (pa_cons (pv 0) (pa_cons (pv 1) pa_nil))))
      (pss_cons (ps_set (i := 3) sc_law.nd rfl (by first | exact Or.inl rfl | exact Or.inr rfl) (pe_def G_l_made (hr.mono (by decide)) (by rfl) (pa_cons (pv 2) (pa_cons pe_int pa_nil))))
      (pss_cons (ps_if (pt_val (pe_def G_l_is_refused (hr.mono (by decide)) (by rfl) (pa_cons (pv 3) pa_nil))) (pss_one (ps_ret pe_bl)) pss_nil)
      (pss_cons (ps_for PassesOwn.never rfl (pi_range1 (by rfl) B.b_range (pa_cons pe_int pa_nil)) (pg_name (i := 4) sc_law.nd rfl (by first | exact Or.inl rfl | exact Or.inr rfl))
      (pss_cons (ps_set (i := 5) sc_law.nd rfl (by first | exact Or.inl rfl | exact Or.inr rfl) (pe_def G_l_bent (hr.mono (by decide)) (by rfl) (pa_cons (pv 2) (pa_cons (pv 3) pa_nil))))
      (pss_cons (ps_set (i := 6) sc_law.nd rfl (by first | exact Or.inl rfl | exact Or.inr rfl) (pe_callTy (ZG.cr_strK (K := K) rfl hg hu65) (by rfl) B.b_str (by decide +kernel) (pa_cons (pv 5) pa_nil)))
      (pss_cons (ps_if (PW.pt (pw_or (pt_cmpR (op_eqDK (K := K) rfl hr.units) (pe_def G_l_is_refused (hr.mono (by decide)) (by rfl) (pa_cons (pv 5) pa_nil)) (pe_def G_l_is_made (hr.mono (by decide)) (by rfl) (pa_cons (pv 5) pa_nil)) (by first | exact nomark _ | rfl)) (pw_or1 (pt_cmpR op_ne (pe_callTy (ZG.cr_strK (K := K) rfl hg hu65) (by rfl) B.b_str (by decide +kernel) (pa_cons (pv 5) pa_nil)) (pv 6) (by first | exact nomark _ | rfl))))) (pss_one (ps_ret pe_bl)) pss_nil)
      (pss_one (ps_if (PW.pt (pw_and (pt_val (pe_def G_l_is_made (hr.mono (by decide)) (by rfl) (pa_cons (pv 5) pa_nil))) (pw_and1 (pt_cmpR (op_neDK (K := K) rfl hr.units) (pe_def G_l_told (hr.mono (by decide)) (by rfl) (pa_cons (pv 5) pa_nil)) (pv 5) (by first | exact nomark _ | rfl))))) (pss_one (ps_ret pe_bl)) pss_nil))))))
      (pss_cons (ps_if (PW.pt (pw_or (pt_not (pt_val (pe_def G_l_is_refused (hr.mono (by decide)) (by rfl) (pa_cons (pe_op (op_catAK (K := K) rfl) (pe_slice (sl_tupAK (K := K) rfl) (pe_def G_l_bent (hr.mono (by decide)) (by rfl) (pa_cons (pv 2) (pa_cons (pv 3) pa_nil))) po_none (po_some pe_int)) (pe_tup (pa_cons pe_non (pa_cons pe_int (pa_cons pe_int pa_nil))))) pa_nil)))) (pw_or1 (pt_not (pt_val (pe_def G_l_is_refused (hr.mono (by decide)) (by rfl) (pa_cons (pe_tup (pa_cons pe_int (pa_cons pe_int (pa_cons (pe_tup pa_nil) (pa_cons pe_int (pa_cons pe_int pa_nil)))))) pa_nil))))))) (pss_one (ps_ret pe_bl)) pss_nil)
      (pss_one (ps_if (PW.pt (pw_or (pt_val (pe_def G_l_is_refused (hr.mono (by decide)) (by rfl) (pa_cons (pe_tup (pa_cons pe_int (pa_cons pe_int (pa_cons (pe_tup (pa_cons (pe_tup (pa_cons pe_int (pa_cons pe_int (pa_cons pe_int (pa_cons pe_int pa_nil))))) pa_nil)) (pa_cons pe_int (pa_cons (pe_op op_pow pe_int pe_int) pa_nil)))))) pa_nil))) (pw_or1 (pt_not (pt_val (pe_def G_l_is_refused (hr.mono (by decide)) (by rfl) (pa_cons (pe_tup (pa_cons pe_int (pa_cons pe_int (pa_cons (pe_tup (pa_cons (pe_tup (pa_cons pe_int (pa_cons pe_int (pa_cons pe_int (pa_cons pe_int pa_nil))))) pa_nil)) (pa_cons pe_int (pa_cons pe_int pa_nil)))))) pa_nil))))))) (pss_one (ps_ret pe_bl)) pss_nil))))))))
      (pss_one (ps_ret pe_bl))), body_ok h (fun ds μ Φ p => ?_)⟩
  (try dsimp only [cxOf, Cx.nox, Cx.wish, List.map_cons, List.map_nil])
  obtain ⟨ns, rfl, hl, qz⟩ := p
  show AS K _ [some _, none, none, none, none, none, none] _ _
  walk_at "go"
  refine s_for1 (1 + if ((ns.map D.int).length : Int) < 4 then ((ns.map D.int).length : Int) else 4) (fun i τ' μ' => ∃ o1 o2 o3 o4 o5 o6 : Option D, τ' = [some (.rol (ns.map D.int)), o1, o2, o3, o4, o5, o6]) ?h ?hs ?hd
  case h =>
    walk_at "go"
    refine ⟨rfl, ?_, ?_, ?_⟩
    · split <;> omega
    · split <;> omega
    · exact ⟨_, _, _, _, _, _, rfl⟩
  case hd =>
    rintro τ' μ' ⟨o1, o2, o3, o4, o5, o6, rfl⟩
    walk_at "go"
    exact qz _
  case hs =>
    rintro i τ' μ' hi ⟨o1, o2, o3, o4, o5, o6, rfl⟩
    have hi6 : (i : Int) ≤ 6 := by split at hi <;> omega
    walk_at "go"
    refine use_bag (by omega) (by omega) fun b c m hb hm => ?_
    walk_at "go"
    refine use_made (by walk_at "mu") hm (by decide) (by decide) fun w h rows fl gap c3 m3 MD hm3 => ?_
    have BG : BgAt ((μ'.set b (.lst [.int c, .int m])).set b (.lst [.int c3, .int m3])) b := ⟨c3, m3, set_same, hm3⟩
    generalize ((μ'.set b (.lst [.int c, .int m])).set b (.lst [.int c3, .int m3])) = μ1 at BG ⊢
    clear hb hm
    obtain ⟨_, _, _, _, rl, _⟩ := made_bounds MD
    walk_at "go"
    refine ⟨.int w, .int h, .tup (rows.map encR), .int fl, .int gap, rfl, kd_int, kd_int, kd_tup, kd_int, kd_int, fun rs e => ?_, fun μ2 s2 => ?_⟩
    · cases e
      refine ⟨by rw [List.length_map]; omega, fun r hr => ?_⟩
      obtain ⟨r, _, rfl⟩ := List.mem_map.mp hr
      exact encR_kx r
    rw [MD.ok]
    have BG2 : BgAt μ2 b := by
      obtain ⟨c, m, e, hm⟩ := BG.at_
      exact ⟨c, m, s2 _ _ e, hm⟩
    clear BG s2
    walk_at "go"
    refine s_for1 6 (fun n τ' μ' => BgAt μ' b ∧ ∃ o4 o5 o6 : Option D, τ' = [some (.rol (ns.map D.int)), some (.int i), some (.ref b), some (.tup [.int w, .int h, .tup (rows.map encR), .int fl, .int gap]), o4, o5, o6]) ?h ?hs ?hd
    case h =>
      walk_at "go"
      exact ⟨rfl, by decide, by decide, BG2, _, _, _, rfl⟩
    case hd =>
      rintro τ' μ3 ⟨BG3, o4, o5, o6, rfl⟩
      walk_at "go"
      refine ⟨b, w, h, fl, gap, rows, rfl, BG3, MD, fun d μ4 BT sb4 BG4 => ?_⟩
      obtain ⟨w', h', p', l', s', P, rfl, ⟨t1, t2, t3, t4, t5⟩, _, _⟩ := BT.get
      walk_at "go"
      refine ⟨w', h', .non, .int 1, .int 1, rfl, told_kd t1, told_kd t2, kd_non, kd_int, kd_int, (fun rs e => by cases e), fun μ5 s5 => ?_⟩
      rw [show ab w' h' .non (.int 1) (.int 1) = false from by cases w' <;> cases h' <;> simp [ab]]
      refine ⟨_, rfl, ?_⟩
      rw [if_neg (show ¬ ((!(!false)) = true) from by decide)]
      walk_at "go"
      refine ⟨.int 1, .int 2, .tup [], .int 1, .int 1, rfl, kd_int, kd_int, kd_tup, kd_int, kd_int, (fun rs e => by cases e; exact ⟨by simp, fun r hr => by cases hr⟩), fun μ6 s6 => ?_⟩
      rw [show ab (.int 1) (.int 2) (.tup []) (.int 1) (.int 1) = false from by decide +kernel]
      refine ⟨_, rfl, ?_⟩
      rw [if_neg (show ¬ ((!(!false)) = true) from by decide)]
      walk_at "go"
      have kr : ∀ {μ : M}, ∀ rs, D.tup [.tup [.int 1, .int 1, .int 0, .int 2]] = .tup rs → rs.length ≤ 1000 ∧ ∀ r ∈ rs, Kx μ r := fun {μ} rs e => by
        cases e
        refine ⟨by simp, fun r hr => ?_⟩
        rw [List.mem_singleton.mp hr]
        exact encR_kx (1, 1, 0, 2)
      refine ⟨.int 2, .int 2, .tup [.tup [.int 1, .int 1, .int 0, .int 2]], .int 3, .int 1000000, rfl, kd_int, kd_int, kd_tup, kd_int, kd_int, kr, fun μ7 s7 => ?_⟩
      rw [show ab (.int 2) (.int 2) (.tup [.tup [.int 1, .int 1, .int 0, .int 2]]) (.int 3) (.int 1000000) = true from by decide +kernel]
      refine ⟨_, rfl, ?_⟩
      rw [if_neg (show ¬ ((!true) = true) from by decide)]
      walk_at "go"
      refine ⟨.int 2, .int 2, .tup [.tup [.int 1, .int 1, .int 0, .int 2]], .int 2, .int 1, rfl, kd_int, kd_int, kd_tup, kd_int, kd_int, kr, fun μ8 s8 => ?_⟩
      rw [show ab (.int 2) (.int 2) (.tup [.tup [.int 1, .int 1, .int 0, .int 2]]) (.int 2) (.int 1) = false from by decide +kernel]
      refine ⟨_, rfl, ?_⟩
      rw [if_neg (show ¬ ((!(!false)) = true) from by decide)]
      walk_at "go"
      exact ⟨_, _, _, _, _, _, rfl⟩
    case hs =>
      rintro j τ' μ3 hj ⟨BG3, o4, o5, o6, rfl⟩
      walk_at "go"
      refine ⟨b, w, h, fl, gap, rows, rfl, BG3, MD, fun d μ4 BT sb4 BG4 => ?_⟩
      obtain ⟨w', h', p', l', s', P, rfl, ⟨t1, t2, t3, t4, t5⟩, sP, fP⟩ := BT.get
      walk_at "go"
      refine ZG.rc_strP sP fP (by decide) (by decide) ?_
      walk_at "go"
      refine ⟨w', h', p', l', s', rfl, told_kd t1, told_kd t2, told_kd t3, told_kd t4, told_kd t5, bent_k t3, fun μ5 s5 => ?_⟩
      have u1 := t1.sub (sub_sb s5)
      have u2 := t2.sub (sub_sb s5)
      have u3 := t3.sub (sub_sb s5)
      have u4 := t4.sub (sub_sb s5)
      have u5 := t5.sub (sub_sb s5)
      have sP5 := ZG.say_sub (sub_sb s5) P _ sP
      have BG5 : BgAt μ5 b := by
        obtain ⟨c, m, e, hm⟩ := BG4.at_
        exact ⟨c, m, s5 _ _ e, hm⟩
      clear t1 t2 t3 t4 t5 sP BG4 s5 BT
      walk_at "go"
      refine ⟨w', h', p', l', s', rfl, told_kd u1, told_kd u2, told_kd u3, told_kd u4, told_kd u5, bent_k u3, ?_⟩
      walk_at "go"
      rw [show D.eqv (.bl (!ab w' h' p' l' s')) (.bl (ab w' h' p' l' s')) = false from by cases ab w' h' p' l' s' <;> rfl, if_neg Bool.false_ne_true]
      walk_at "go"
      refine ZG.rc_strP sP5 fP (by decide) (by decide) ?_
      walk_at "go"
      rw [decide_eq_true rfl, Bool.not_true, if_neg Bool.false_ne_true]
      walk_at "go"
      refine ⟨w', h', p', l', s', rfl, told_kd u1, told_kd u2, told_kd u3, told_kd u4, told_kd u5, bent_k u3, ?_⟩
      refine ⟨_, rfl, ?_⟩
      cases eab : ab w' h' p' l' s' with
      | false =>
        walk_at "go"
        exact ⟨BG5, _, _, _, rfl⟩
      | true =>
        obtain ⟨wn, hn, ln, sn, rows2, rfl, rfl, rfl, rfl, rfl, hl2⟩ := ab_of eab
        walk_at "go"
        refine ⟨wn, hn, ln, sn, rows2, rfl, by omega, eab, fun μ6 s6 => ?_⟩
        have ok5 : OkN 3 (.tup [.int wn, .int hn, .tup (rows2.map encR), .int ln, .int sn]) := okn_tup fun x hx => by
          simp only [List.mem_cons, List.not_mem_nil, or_false] at hx
          rcases hx with rfl | rfl | rfl | rfl | rfl
          · exact okn_int.mono (by decide)
          · exact okn_int.mono (by decide)
          · refine okn_tup (n := 1) fun x hx => ?_
            obtain ⟨r, _, rfl⟩ := List.mem_map.mp hx
            refine okn_tup (n := 0) fun y hy => ?_
            simp only [List.mem_cons, List.not_mem_nil, or_false] at hy
            rcases hy with rfl | rfl | rfl | rfl <;> exact okn_int
          · exact okn_int.mono (by decide)
          · exact okn_int.mono (by decide)
        walk_at "go"
        refine ro_neD (ok5.ok (by decide)) (ok5.ok (by decide)) ?_
        rw [eqv_self ok5]
        refine ⟨_, rfl, ?_⟩
        walk_at "go"
        refine ⟨?_, _, _, _, rfl⟩
        obtain ⟨c, m, e, hm⟩ := BG5.at_
        exact ⟨c, m, s6 _ _ e, hm⟩
end
theorem all_mk {l : PySem.W.OpenLaw} {w : World} {K : PySem.W.Frag} {h : Heap} {mg : Str → Option Value} {fa : Addr} (X : K.In h) (G : h.Ns mainGlobals mg) (hfa : mg "law" = some (.ref fa))
    {f1 f2 f3 f4 f5 f6 f7 f8 f9 f10 f11 f12 f13 f14 f15 f16 f17 f18 f19 f20 f21 f22 : Addr}
    {od1 an1 od2 an2 od3 an3 od4 an4 od5 an5 od6 an6 od7 an7 od8 an8 od9 an9 od10 an10 od11 an11 od12 an12 od13 an13 od14 an14 od15 an15 od16 an16 od17 an17 od18 an18 od19 an19 od20 an20 od21 an21 od22 an22 : Option Addr}
    {sl1 sl2 sl3 sl4 sl5 sl6 sl7 sl8 sl9 sl10 sl11 sl12 sl13 sl14 sl15 sl16 sl17 sl18 sl19 sl20 sl21 sl22 : Array (Option Value)}
    {oc1 kV1 dc1 pm1 cd1 ct1 oc2 kV2 dc2 pm2 cd2 ct2 oc3 kV3 dc3 pm3 cd3 ct3 oc4 kV4 dc4 pm4 cd4 ct4 oc5 kV5 dc5 pm5 cd5 ct5 oc6 kV6 dc6 pm6 cd6 ct6 oc7 dc7 pm7 cd7 ct7 oc8 kV8 dc8 pm8 cd8 ct8 oc9 kV9 dc9 pm9 cd9 ct9 oc10 kV10 dc10 pm10 cd10 ct10 oc11 kV11 dc11 pm11 cd11 ct11 oc12 kV12 dc12 pm12 cd12 ct12 oc13 kV13 dc13 pm13 cd13 ct13 oc14 kV14 dc14 pm14 cd14 ct14 oc15 kV15 dc15 pm15 cd15 ct15 oc16 kV16 dc16 pm16 cd16 ct16 oc17 kV17 dc17 pm17 cd17 ct17 oc18 kV18 dc18 pm18 cd18 ct18 oc19 kV19 dc19 pm19 cd19 ct19 oc20 kV20 dc20 pm20 cd20 ct20 oc21 kV21 dc21 pm21 cd21 ct21 oc22 kV22 dc22 pm22 cd22 ct22 : Value}
    {C_Board : Addr}
    {C_NoBoard : Addr}
    {C_NoPin : Addr}
    {nm_NoPin qn_NoPin : Str} {N_NoPin fI_NoPin : Addr} {bs_NoPin : List Value} {sn_NoPin : List Str} {sub_NoPin : List Value} {ab_NoPin : Bool} {col_NoPin : Option Bool} {dd_NoPin od_NoPin an_NoPin : Option Addr} {m0_NoPin m1_NoPin m2_NoPin m3_NoPin m5_NoPin : Option Value} {osl_NoPin : Array (Option Value)} {oc_NoPin kV_NoPin dc_NoPin pm_NoPin cd_NoPin ct_NoPin : Value}
    {C_NoLayer : Addr}
    {nm_NoLayer qn_NoLayer : Str} {N_NoLayer fI_NoLayer : Addr} {bs_NoLayer : List Value} {sn_NoLayer : List Str} {sub_NoLayer : List Value} {ab_NoLayer : Bool} {col_NoLayer : Option Bool} {dd_NoLayer od_NoLayer an_NoLayer : Option Addr} {m0_NoLayer m1_NoLayer m2_NoLayer m3_NoLayer m5_NoLayer : Option Value} {osl_NoLayer : Array (Option Value)} {oc_NoLayer kV_NoLayer dc_NoLayer pm_NoLayer cd_NoLayer ct_NoLayer : Value}
    {C_BoardError : Addr}
    {C_NoText : Addr}
    {tk_MOST : Tok}
    {tk_MOST_LAYERS : Tok}
    {tk_MOST_PINS : Tok}
    {D7 : Addr}
    {tk7_layers : Tok}
    {tk7_spacing : Tok}
    (aC_Board : PySem.W.nsIn K mainGlobals "Board" = some (some (.ref C_Board)))
    (pg_Board : PySem.W.plainGet K C_Board Str.empty = true)
    (hd_Board : PySem.W.hasDictIn K C_Board = true)
    (po_Board : PySem.W.plainOver K C_Board = true)
    (sa_Board : PySem.W.findIn K (.ref C_Board) "__setattr__" = some (some (.builtin "object.__setattr__")))
    (n_Board_wide : PySem.W.findIn K (.ref C_Board) "wide" = some none)
    (n_Board_high : PySem.W.findIn K (.ref C_Board) "high" = some none)
    (n_Board_pin_rows : PySem.W.findIn K (.ref C_Board) "pin_rows" = some none)
    (n_Board_layer_count : PySem.W.findIn K (.ref C_Board) "layer_count" = some none)
    (n_Board_apart_by : PySem.W.findIn K (.ref C_Board) "apart_by" = some none)
    (n_Board_spots : PySem.W.findIn K (.ref C_Board) "spots" = some none)
    (n_Board_kept_gates : PySem.W.findIn K (.ref C_Board) "kept_gates" = some none)
    (n_Board_kept_triangles : PySem.W.findIn K (.ref C_Board) "kept_triangles" = some none)
    (mk_Board : PySem.W.makesIn K C_Board = true)
    (kc_Board : PySem.W.keepIn K (.ref C_Board) = true)
    (aC_NoBoard : PySem.W.nsIn K mainGlobals "NoBoard" = some (some (.ref C_NoBoard)))
    (kc_NoBoard : PySem.W.keepIn K (.ref C_NoBoard) = true)
    (eC_NoBoard : PySem.W.subIn K (.ref C_NoBoard) (.type "BaseException") = some true)
    (tC_NoBoard : PySem.W.typeIn K (.ref C_NoBoard) = some (.type "type"))
    (iS_NoBoard : PySem.W.isClsIn K C_NoBoard = true)
    (q_NoBoard : PySem.W.excIn K C_NoBoard [.type "ValueError", .type "Exception", .type "BaseException", .type "object"] "ValueError.__new__" = true)
    (aC_NoPin : PySem.W.nsIn K mainGlobals "NoPin" = some (some (.ref C_NoPin)))
    (kc_NoPin : PySem.W.keepIn K (.ref C_NoPin) = true)
    (eC_NoPin : PySem.W.subIn K (.ref C_NoPin) (.type "BaseException") = some true)
    (tC_NoPin : PySem.W.typeIn K (.ref C_NoPin) = some (.type "type"))
    (xL_NoPin : K.lookup C_NoPin = some (PySem.excClassObj nm_NoPin qn_NoPin C_NoPin N_NoPin bs_NoPin XO.tlIE true sn_NoPin sub_NoPin ab_NoPin col_NoPin dd_NoPin m0_NoPin m1_NoPin m2_NoPin m3_NoPin m5_NoPin "IndexError.__new__"))
    (sa_NoPin : PySem.W.findIn K (.ref C_NoPin) "__setattr__" = some (some (.builtin "object.__setattr__")))
    (ga_NoPin : PySem.W.findIn K (.ref C_NoPin) "__getattribute__" = some (some (.builtin "BaseException.__getattribute__")))
    (gg_NoPin : PySem.W.findIn K (.ref C_NoPin) "__getattr__" = some none)
    (nf_NoPin : PySem.W.findIn K (.ref C_NoPin) "pin" = some none)
    (hC_NoPin : PySem.W.hasDictIn K C_NoPin = true)
    (iC_NoPin : PySem.W.findIn K (.ref C_NoPin) "__init__" = some (some (.ref fI_NoPin)))
    (tI_NoPin : PySem.W.typeIn K (.ref fI_NoPin) = some (.type "function"))
    (lI_NoPin : K.lookup fI_NoPin = some ⟨oc_NoPin, od_NoPin, .func (PySem.W.fnOf "__init__" "NoPin.__init__" (defArgs s_nopin_init) (defBody s_nopin_init) (defScope s_nopin_init) .none kV_NoPin dc_NoPin pm_NoPin an_NoPin cd_NoPin ct_NoPin), osl_NoPin⟩)
    (cI_NoPin : PySem.W.codeIn K cd_NoPin "NoPin.__init__" = true)
    (kI_NoPin : PySem.W.keepIn K (.ref fI_NoPin) = true)
    (aC_NoLayer : PySem.W.nsIn K mainGlobals "NoLayer" = some (some (.ref C_NoLayer)))
    (kc_NoLayer : PySem.W.keepIn K (.ref C_NoLayer) = true)
    (eC_NoLayer : PySem.W.subIn K (.ref C_NoLayer) (.type "BaseException") = some true)
    (tC_NoLayer : PySem.W.typeIn K (.ref C_NoLayer) = some (.type "type"))
    (xL_NoLayer : K.lookup C_NoLayer = some (PySem.excClassObj nm_NoLayer qn_NoLayer C_NoLayer N_NoLayer bs_NoLayer XO.tlIE true sn_NoLayer sub_NoLayer ab_NoLayer col_NoLayer dd_NoLayer m0_NoLayer m1_NoLayer m2_NoLayer m3_NoLayer m5_NoLayer "IndexError.__new__"))
    (sa_NoLayer : PySem.W.findIn K (.ref C_NoLayer) "__setattr__" = some (some (.builtin "object.__setattr__")))
    (ga_NoLayer : PySem.W.findIn K (.ref C_NoLayer) "__getattribute__" = some (some (.builtin "BaseException.__getattribute__")))
    (gg_NoLayer : PySem.W.findIn K (.ref C_NoLayer) "__getattr__" = some none)
    (nf_NoLayer : PySem.W.findIn K (.ref C_NoLayer) "layer" = some none)
    (hC_NoLayer : PySem.W.hasDictIn K C_NoLayer = true)
    (iC_NoLayer : PySem.W.findIn K (.ref C_NoLayer) "__init__" = some (some (.ref fI_NoLayer)))
    (tI_NoLayer : PySem.W.typeIn K (.ref fI_NoLayer) = some (.type "function"))
    (lI_NoLayer : K.lookup fI_NoLayer = some ⟨oc_NoLayer, od_NoLayer, .func (PySem.W.fnOf "__init__" "NoLayer.__init__" (defArgs s_nolayer_init) (defBody s_nolayer_init) (defScope s_nolayer_init) .none kV_NoLayer dc_NoLayer pm_NoLayer an_NoLayer cd_NoLayer ct_NoLayer), osl_NoLayer⟩)
    (cI_NoLayer : PySem.W.codeIn K cd_NoLayer "NoLayer.__init__" = true)
    (kI_NoLayer : PySem.W.keepIn K (.ref fI_NoLayer) = true)
    (sub_NoBoard_NoBoard : PySem.W.subIn K (.ref C_NoBoard) (.ref C_NoBoard) = some true)
    (sub_NoPin_NoBoard : PySem.W.subIn K (.ref C_NoPin) (.ref C_NoBoard) = some false)
    (sub_NoLayer_NoBoard : PySem.W.subIn K (.ref C_NoLayer) (.ref C_NoBoard) = some false)
    (aC_BoardError : PySem.W.nsIn K mainGlobals "BoardError" = some (some (.ref C_BoardError)))
    (aC_NoText : PySem.W.nsIn K mainGlobals "NoText" = some (some (.ref C_NoText)))
    (xg_NoBoard : PySem.W.findIn K (.ref C_NoBoard) "__getattribute__" = some (some (.builtin "BaseException.__getattribute__")))
    (xk_NoBoard : PySem.W.findIn K (.ref C_NoBoard) "__getattr__" = some none)
    (xd_NoBoard : PySem.W.hasDictIn K C_NoBoard = true)
    (xa_NoBoard : PySem.W.findIn K (.ref C_NoBoard) "__class__" = some (some (.builtin "object.__class__")))
    (xn_NoBoard : PySem.W.specialIn K (.builtin "object.__class__") "__get__" = some (some (.builtin "getset_descriptor.__get__")))
    (xt_NoBoard : PySem.W.takesIn K (.builtin "object.__class__") = some true)
    (xm_NoBoard : PySem.W.mroIn K C_NoBoard (.type "object") = some true)
    (xs_NoBoard : PySem.W.subIn K (.ref C_NoBoard) (.ref C_NoBoard) = some true)
    (yi_BoardError : PySem.W.isClsIn K C_BoardError = true)
    (yt_BoardError : PySem.W.typeIn K (.ref C_BoardError) = some (.type "type"))
    (yi_NoLayer : PySem.W.isClsIn K C_NoLayer = true)
    (yt_NoLayer : PySem.W.typeIn K (.ref C_NoLayer) = some (.type "type"))
    (yi_NoPin : PySem.W.isClsIn K C_NoPin = true)
    (yt_NoPin : PySem.W.typeIn K (.ref C_NoPin) = some (.type "type"))
    (yi_NoText : PySem.W.isClsIn K C_NoText = true)
    (yt_NoText : PySem.W.typeIn K (.ref C_NoText) = some (.type "type"))
    (ys_NoBoard_BoardError : PySem.W.subIn K (.ref C_NoBoard) (.ref C_BoardError) = some true)
    (ys_NoBoard_NoLayer : PySem.W.subIn K (.ref C_NoBoard) (.ref C_NoLayer) = some false)
    (ys_NoBoard_NoPin : PySem.W.subIn K (.ref C_NoBoard) (.ref C_NoPin) = some false)
    (ys_NoBoard_NoText : PySem.W.subIn K (.ref C_NoBoard) (.ref C_NoText) = some false)
    (ys_NoBoard_ValueError : PySem.W.subIn K (.ref C_NoBoard) (.type "ValueError") = some true)
    (v_MOST : PySem.W.nsIn K mainGlobals "MOST" = some (some (.int 1000000 tk_MOST)))
    (v_MOST_LAYERS : PySem.W.nsIn K mainGlobals "MOST_LAYERS" = some (some (.int 3 tk_MOST_LAYERS)))
    (v_MOST_PINS : PySem.W.nsIn K mainGlobals "MOST_PINS" = some (some (.int 16 tk_MOST_PINS)))
    (a1 : PySem.W.nsIn K mainGlobals "is_whole" = some (some (.ref f1)))
    (l1 : K.lookup f1 = some ⟨oc1, od1, .func (PySem.W.fnOf "is_whole" "is_whole" (defArgs s_is_whole) (defBody s_is_whole) (defScope s_is_whole) .none kV1 dc1 pm1 an1 cd1 ct1), sl1⟩)
    (c1 : PySem.W.codeIn K cd1 "is_whole" = true)
    (k1 : PySem.W.keepIn K (.ref f1) = true)
    (a2 : PySem.W.nsIn K mainGlobals "is_within" = some (some (.ref f2)))
    (l2 : K.lookup f2 = some ⟨oc2, od2, .func (PySem.W.fnOf "is_within" "is_within" (defArgs s_is_within) (defBody s_is_within) (defScope s_is_within) .none kV2 dc2 pm2 an2 cd2 ct2), sl2⟩)
    (c2 : PySem.W.codeIn K cd2 "is_within" = true)
    (k2 : PySem.W.keepIn K (.ref f2) = true)
    (a3 : PySem.W.nsIn K mainGlobals "is_row" = some (some (.ref f3)))
    (l3 : K.lookup f3 = some ⟨oc3, od3, .func (PySem.W.fnOf "is_row" "is_row" (defArgs s_is_row) (defBody s_is_row) (defScope s_is_row) .none kV3 dc3 pm3 an3 cd3 ct3), sl3⟩)
    (c3 : PySem.W.codeIn K cd3 "is_row" = true)
    (k3 : PySem.W.keepIn K (.ref f3) = true)
    (a4 : PySem.W.nsIn K mainGlobals "are_whole" = some (some (.ref f4)))
    (l4 : K.lookup f4 = some ⟨oc4, od4, .func (PySem.W.fnOf "are_whole" "are_whole" (defArgs s_are_whole) (defBody s_are_whole) (defScope s_are_whole) .none kV4 dc4 pm4 an4 cd4 ct4), sl4⟩)
    (c4 : PySem.W.codeIn K cd4 "are_whole" = true)
    (k4 : PySem.W.keepIn K (.ref f4) = true)
    (a5 : PySem.W.nsIn K mainGlobals "is_pin_row" = some (some (.ref f5)))
    (l5 : K.lookup f5 = some ⟨oc5, od5, .func (PySem.W.fnOf "is_pin_row" "is_pin_row" (defArgs s_is_pin_row) (defBody s_is_pin_row) (defScope s_is_pin_row) .none kV5 dc5 pm5 an5 cd5 ct5), sl5⟩)
    (c5 : PySem.W.codeIn K cd5 "is_pin_row" = true)
    (k5 : PySem.W.keepIn K (.ref f5) = true)
    (a6 : PySem.W.nsIn K mainGlobals "are_board" = some (some (.ref f6)))
    (l6 : K.lookup f6 = some ⟨oc6, od6, .func (PySem.W.fnOf "are_board" "are_board" (defArgs s_are_board) (defBody s_are_board) (defScope s_are_board) .none kV6 dc6 pm6 an6 cd6 ct6), sl6⟩)
    (c6 : PySem.W.codeIn K cd6 "are_board" = true)
    (k6 : PySem.W.keepIn K (.ref f6) = true)
    (a7 : PySem.W.findIn K (.ref C_Board) "__init__" = some (some (.ref f7)))
    (i7 : PySem.W.isFn K (.ref f7) = true)
    (l7 : K.lookup f7 = some ⟨oc7, od7, .func (PySem.W.fnOf "__init__" "Board.__init__" (defArgs s_board_init) (defBody s_board_init) (defScope s_board_init) .none (.ref D7) dc7 pm7 an7 cd7 ct7), sl7⟩)
    (c7 : PySem.W.codeIn K cd7 "Board.__init__" = true)
    (k7 : PySem.W.keepIn K (.ref f7) = true)
    (d7_layers : PySem.W.nsIn K D7 "layers" = some (some (.int 1 tk7_layers)))
    (d7_spacing : PySem.W.nsIn K D7 "spacing" = some (some (.int 1 tk7_spacing)))
    (a8 : PySem.W.findIn K (.ref C_Board) "look_pin" = some (some (.ref f8)))
    (i8 : PySem.W.isFn K (.ref f8) = true)
    (l8 : K.lookup f8 = some ⟨oc8, od8, .func (PySem.W.fnOf "look_pin" "Board.look_pin" (defArgs s_board_look_pin) (defBody s_board_look_pin) (defScope s_board_look_pin) .none kV8 dc8 pm8 an8 cd8 ct8), sl8⟩)
    (c8 : PySem.W.codeIn K cd8 "Board.look_pin" = true)
    (k8 : PySem.W.keepIn K (.ref f8) = true)
    (a9 : PySem.W.nsIn K mainGlobals "_law_cell_at" = some (some (.ref f9)))
    (l9 : K.lookup f9 = some ⟨oc9, od9, .func (PySem.W.fnOf "_law_cell_at" "_law_cell_at" (defArgs s_l_cell_at) (defBody s_l_cell_at) (defScope s_l_cell_at) .none kV9 dc9 pm9 an9 cd9 ct9), sl9⟩)
    (c9 : PySem.W.codeIn K cd9 "_law_cell_at" = true)
    (k9 : PySem.W.keepIn K (.ref f9) = true)
    (a10 : PySem.W.nsIn K mainGlobals "_law_bag" = some (some (.ref f10)))
    (l10 : K.lookup f10 = some ⟨oc10, od10, .func (PySem.W.fnOf "_law_bag" "_law_bag" (defArgs s_l_bag) (defBody s_l_bag) (defScope s_l_bag) .none kV10 dc10 pm10 an10 cd10 ct10), sl10⟩)
    (c10 : PySem.W.codeIn K cd10 "_law_bag" = true)
    (k10 : PySem.W.keepIn K (.ref f10) = true)
    (a11 : PySem.W.nsIn K mainGlobals "_law_take" = some (some (.ref f11)))
    (l11 : K.lookup f11 = some ⟨oc11, od11, .func (PySem.W.fnOf "_law_take" "_law_take" (defArgs s_l_take) (defBody s_l_take) (defScope s_l_take) .none kV11 dc11 pm11 an11 cd11 ct11), sl11⟩)
    (c11 : PySem.W.codeIn K cd11 "_law_take" = true)
    (k11 : PySem.W.keepIn K (.ref f11) = true)
    (a12 : PySem.W.nsIn K mainGlobals "_law_made" = some (some (.ref f12)))
    (l12 : K.lookup f12 = some ⟨oc12, od12, .func (PySem.W.fnOf "_law_made" "_law_made" (defArgs s_l_made) (defBody s_l_made) (defScope s_l_made) .none kV12 dc12 pm12 an12 cd12 ct12), sl12⟩)
    (c12 : PySem.W.codeIn K cd12 "_law_made" = true)
    (k12 : PySem.W.keepIn K (.ref f12) = true)
    (a13 : PySem.W.findIn K (.ref C_Board) "made_of" = some (some (.ref f13)))
    (i13 : PySem.W.isFn K (.ref f13) = true)
    (l13 : K.lookup f13 = some ⟨oc13, od13, .func (PySem.W.fnOf "made_of" "Board.made_of" (defArgs s_board_made_of) (defBody s_board_made_of) (defScope s_board_made_of) .none kV13 dc13 pm13 an13 cd13 ct13), sl13⟩)
    (c13 : PySem.W.codeIn K cd13 "Board.made_of" = true)
    (k13 : PySem.W.keepIn K (.ref f13) = true)
    (a14 : PySem.W.nsIn K mainGlobals "_law_whole" = some (some (.ref f14)))
    (l14 : K.lookup f14 = some ⟨oc14, od14, .func (PySem.W.fnOf "_law_whole" "_law_whole" (defArgs s_l_whole) (defBody s_l_whole) (defScope s_l_whole) .none kV14 dc14 pm14 an14 cd14 ct14), sl14⟩)
    (c14 : PySem.W.codeIn K cd14 "_law_whole" = true)
    (k14 : PySem.W.keepIn K (.ref f14) = true)
    (a15 : PySem.W.nsIn K mainGlobals "_law_is_pin" = some (some (.ref f15)))
    (l15 : K.lookup f15 = some ⟨oc15, od15, .func (PySem.W.fnOf "_law_is_pin" "_law_is_pin" (defArgs s_l_is_pin) (defBody s_l_is_pin) (defScope s_l_is_pin) .none kV15 dc15 pm15 an15 cd15 ct15), sl15⟩)
    (c15 : PySem.W.codeIn K cd15 "_law_is_pin" = true)
    (k15 : PySem.W.keepIn K (.ref f15) = true)
    (a16 : PySem.W.nsIn K mainGlobals "_law_is_made" = some (some (.ref f16)))
    (l16 : K.lookup f16 = some ⟨oc16, od16, .func (PySem.W.fnOf "_law_is_made" "_law_is_made" (defArgs s_l_is_made) (defBody s_l_is_made) (defScope s_l_is_made) .none kV16 dc16 pm16 an16 cd16 ct16), sl16⟩)
    (c16 : PySem.W.codeIn K cd16 "_law_is_made" = true)
    (k16 : PySem.W.keepIn K (.ref f16) = true)
    (a17 : PySem.W.nsIn K mainGlobals "_law_odd" = some (some (.ref f17)))
    (l17 : K.lookup f17 = some ⟨oc17, od17, .func (PySem.W.fnOf "_law_odd" "_law_odd" (defArgs s_l_odd) (defBody s_l_odd) (defScope s_l_odd) .none kV17 dc17 pm17 an17 cd17 ct17), sl17⟩)
    (c17 : PySem.W.codeIn K cd17 "_law_odd" = true)
    (k17 : PySem.W.keepIn K (.ref f17) = true)
    (a18 : PySem.W.nsIn K mainGlobals "_law_is_refused" = some (some (.ref f18)))
    (l18 : K.lookup f18 = some ⟨oc18, od18, .func (PySem.W.fnOf "_law_is_refused" "_law_is_refused" (defArgs s_l_is_refused) (defBody s_l_is_refused) (defScope s_l_is_refused) .none kV18 dc18 pm18 an18 cd18 ct18), sl18⟩)
    (c18 : PySem.W.codeIn K cd18 "_law_is_refused" = true)
    (k18 : PySem.W.keepIn K (.ref f18) = true)
    (a19 : PySem.W.nsIn K mainGlobals "_law_told" = some (some (.ref f19)))
    (l19 : K.lookup f19 = some ⟨oc19, od19, .func (PySem.W.fnOf "_law_told" "_law_told" (defArgs s_l_told) (defBody s_l_told) (defScope s_l_told) .none kV19 dc19 pm19 an19 cd19 ct19), sl19⟩)
    (c19 : PySem.W.codeIn K cd19 "_law_told" = true)
    (k19 : PySem.W.keepIn K (.ref f19) = true)
    (a20 : PySem.W.nsIn K mainGlobals "_law_bent_pin" = some (some (.ref f20)))
    (l20 : K.lookup f20 = some ⟨oc20, od20, .func (PySem.W.fnOf "_law_bent_pin" "_law_bent_pin" (defArgs s_l_bent_pin) (defBody s_l_bent_pin) (defScope s_l_bent_pin) .none kV20 dc20 pm20 an20 cd20 ct20), sl20⟩)
    (c20 : PySem.W.codeIn K cd20 "_law_bent_pin" = true)
    (k20 : PySem.W.keepIn K (.ref f20) = true)
    (a21 : PySem.W.nsIn K mainGlobals "_law_bent" = some (some (.ref f21)))
    (l21 : K.lookup f21 = some ⟨oc21, od21, .func (PySem.W.fnOf "_law_bent" "_law_bent" (defArgs s_l_bent) (defBody s_l_bent) (defScope s_l_bent) .none kV21 dc21 pm21 an21 cd21 ct21), sl21⟩)
    (c21 : PySem.W.codeIn K cd21 "_law_bent" = true)
    (k21 : PySem.W.keepIn K (.ref f21) = true)
    (a22 : PySem.W.nsIn K mainGlobals "law" = some (some (.ref f22)))
    (l22 : K.lookup f22 = some ⟨oc22, od22, .func (PySem.W.fnOf "law" "law" (defArgs s_law) (defBody s_law) (defScope s_law) .none kV22 dc22 pm22 an22 cd22 ct22), sl22⟩)
    (c22 : PySem.W.codeIn K cd22 "law" = true)
    (k22 : PySem.W.keepIn K (.ref f22) = true)
    (z_ValueError : PySem.W.nsIn K mainGlobals "ValueError" = some none)
    (z_all : PySem.W.nsIn K mainGlobals "all" = some none)
    (z_bool : PySem.W.nsIn K mainGlobals "bool" = some none)
    (z_int : PySem.W.nsIn K mainGlobals "int" = some none)
    (z_isinstance : PySem.W.nsIn K mainGlobals "isinstance" = some none)
    (z_len : PySem.W.nsIn K mainGlobals "len" = some none)
    (z_list : PySem.W.nsIn K mainGlobals "list" = some none)
    (z_min : PySem.W.nsIn K mainGlobals "min" = some none)
    (z_range : PySem.W.nsIn K mainGlobals "range" = some none)
    (z_str : PySem.W.nsIn K mainGlobals "str" = some none)
    (z_tuple : PySem.W.nsIn K mainGlobals "tuple" = some none) :
    ZG.LawN l w K 16 "_law_script" mg fa h := by
  refine Hold.out ?_
  simp (disch := (
  refine Hold.as ?_
  with_unfolding_all (
  have e := hfa.symm.trans (PySem.W.mg_of X G a22)
  cases e
  have B : Bs mg := ⟨PySem.W.mg_none_of X G z_ValueError, PySem.W.mg_none_of X G z_all, PySem.W.mg_none_of X G z_bool, PySem.W.mg_none_of X G z_int, PySem.W.mg_none_of X G z_isinstance, PySem.W.mg_none_of X G z_len, PySem.W.mg_none_of X G z_list, PySem.W.mg_none_of X G z_min, PySem.W.mg_none_of X G z_range, PySem.W.mg_none_of X G z_str, PySem.W.mg_none_of X G z_tuple⟩
  have K_Board : Cl_Board K C_Board := ⟨⟨pg_Board, hd_Board, po_Board, sa_Board⟩, n_Board_wide, n_Board_high, n_Board_pin_rows, n_Board_layer_count, n_Board_apart_by, n_Board_spots, n_Board_kept_gates, n_Board_kept_triangles⟩
  have V_MOST : Cst mg "MOST" (.int 1000000) := ⟨_, PySem.W.mg_of X G v_MOST, ⟨_, rfl⟩⟩
  have V_MOST_LAYERS : Cst mg "MOST_LAYERS" (.int 3) := ⟨_, PySem.W.mg_of X G v_MOST_LAYERS, ⟨_, rfl⟩⟩
  have V_MOST_PINS : Cst mg "MOST_PINS" (.int 16) := ⟨_, PySem.W.mg_of X G v_MOST_PINS, ⟨_, rfl⟩⟩
  have X_NoBoard : ExcC K C_NoBoard := ⟨xg_NoBoard, xk_NoBoard, eC_NoBoard, xd_NoBoard, xa_NoBoard, xn_NoBoard, xt_NoBoard, xm_NoBoard⟩
  have V_BoardError : Cst mg "BoardError" (.ref C_BoardError) := ⟨_, PySem.W.mg_of X G aC_BoardError, rfl⟩
  have V_NoLayer : Cst mg "NoLayer" (.ref C_NoLayer) := ⟨_, PySem.W.mg_of X G aC_NoLayer, rfl⟩
  have V_NoPin : Cst mg "NoPin" (.ref C_NoPin) := ⟨_, PySem.W.mg_of X G aC_NoPin, rfl⟩
  have V_NoText : Cst mg "NoText" (.ref C_NoText) := ⟨_, PySem.W.mg_of X G aC_NoText, rfl⟩
  have Q_NoBoard_BoardError : PySem.W.kitOne K (.ref C_NoBoard) (.ref C_BoardError) = some true := kit_own xs_NoBoard yi_BoardError yt_BoardError ys_NoBoard_BoardError
  have Q_NoBoard_NoLayer : PySem.W.kitOne K (.ref C_NoBoard) (.ref C_NoLayer) = some false := kit_own xs_NoBoard yi_NoLayer yt_NoLayer ys_NoBoard_NoLayer
  have Q_NoBoard_NoPin : PySem.W.kitOne K (.ref C_NoBoard) (.ref C_NoPin) = some false := kit_own xs_NoBoard yi_NoPin yt_NoPin ys_NoBoard_NoPin
  have Q_NoBoard_NoText : PySem.W.kitOne K (.ref C_NoBoard) (.ref C_NoText) = some false := kit_own xs_NoBoard yi_NoText yt_NoText ys_NoBoard_NoText
  have Q_NoBoard_ValueError : PySem.W.kitOne K (.ref C_NoBoard) (.type "ValueError") = some true := kit_bt (by decide +kernel) ys_NoBoard_ValueError
  have H_NoBoard_NoBoard := exm_pair eC_NoBoard iS_NoBoard tC_NoBoard sub_NoBoard_NoBoard
  have H_NoPin_NoBoard := exm_pair eC_NoBoard iS_NoBoard tC_NoBoard sub_NoPin_NoBoard
  have H_NoLayer_NoBoard := exm_pair eC_NoBoard iS_NoBoard tC_NoBoard sub_NoLayer_NoBoard
  have F1 := fun_mk (st := s_is_whole) l1 c1 k1
  have F2 := fun_mk (st := s_is_within) l2 c2 k2
  have F3 := fun_mk (st := s_is_row) l3 c3 k3
  have F4 := fun_mk (st := s_are_whole) l4 c4 k4
  have F5 := fun_mk (st := s_is_pin_row) l5 c5 k5
  have F6 := fun_mk (st := s_are_board) l6 c6 k6
  have F7 : FunD K "__init__" "Board.__init__" (defArgs s_board_init) (defBody s_board_init) (defScope s_board_init) [] [("layers", .int 1), ("spacing", .int 1)] f7 _ := ⟨⟨oc7, od7, .none, .ref D7, dc7, pm7, an7, cd7, ct7, sl7, rfl, l7, c7, .inl ⟨rfl, rfl⟩, .inr ⟨D7, rfl, fun q hq => by
    simp only [List.mem_cons, List.not_mem_nil, or_false] at hq
    rcases hq with rfl | rfl
    · exact ⟨_, d7_layers, ⟨_, rfl⟩⟩
    · exact ⟨_, d7_spacing, ⟨_, rfl⟩⟩⟩⟩, k7⟩
  have F8 := fun_mk (st := s_board_look_pin) l8 c8 k8
  have F9 := fun_mk (st := s_l_cell_at) l9 c9 k9
  have F10 := fun_mk (st := s_l_bag) l10 c10 k10
  have F11 := fun_mk (st := s_l_take) l11 c11 k11
  have F12 := fun_mk (st := s_l_made) l12 c12 k12
  have F13 := fun_mk (st := s_board_made_of) l13 c13 k13
  have F14 := fun_mk (st := s_l_whole) l14 c14 k14
  have F15 := fun_mk (st := s_l_is_pin) l15 c15 k15
  have F16 := fun_mk (st := s_l_is_made) l16 c16 k16
  have F17 := fun_mk (st := s_l_odd) l17 c17 k17
  have F18 := fun_mk (st := s_l_is_refused) l18 c18 k18
  have F19 := fun_mk (st := s_l_told) l19 c19 k19
  have F20 := fun_mk (st := s_l_bent_pin) l20 c20 k20
  have F21 := fun_mk (st := s_l_bent) l21 c21 k21
  have F22 := fun_mk (st := s_law) l22 c22 k22
  refine ⟨PySem.W.fnOf "law" "law" (defArgs s_law) (defBody s_law) (defScope s_law) .none kV22 dc22 pm22 an22 cd22 ct22, fun s v => .of_eq rfl, fun base _ _ => ?_⟩
  have E_NoBoard : Exc0 K mg "NoBoard" C_NoBoard := ⟨⟨"ValueError", _, _, XO.tlVE, PySem.F.excBase_ValueError, q_NoBoard⟩, PySem.W.mg_of X G aC_NoBoard, kc_NoBoard, eC_NoBoard, tC_NoBoard⟩
  have FX_NoPin := fun_mk (st := s_nopin_init) lI_NoPin cI_NoPin kI_NoPin
  have bX_NoPin := FX_NoPin.binds (ps := ["self", "pin"]) fun _ _ _ _ _ _ us hl => match us, hl with | [_, _], _ => rfl
  have E_NoPin : Exc1 l.prog w K mg base "NoPin" "pin" C_NoPin := ⟨⟨"IndexError", _, _, _, XO.tlIE, fI_NoPin, _, "self", "pin", PySem.F.excBase_IndexError, ⟨by decide +kernel, by decide +kernel, by decide +kernel⟩, ⟨⟨_, _, _, _, _, _, _, _, _, _, _, _, _, _, _, xL_NoPin, by first | decide +kernel | exact XO.rT_more (by decide +kernel)⟩, XO.bt_IE, sa_NoPin, eC_NoPin, tC_NoPin, kc_NoPin⟩, iC_NoPin, tI_NoPin, xi_NoPin FX_NoPin, bX_NoPin⟩, nf_NoPin, PySem.W.mg_of X G aC_NoPin, ⟨ga_NoPin, gg_NoPin, eC_NoPin, hC_NoPin⟩⟩
  have FX_NoLayer := fun_mk (st := s_nolayer_init) lI_NoLayer cI_NoLayer kI_NoLayer
  have bX_NoLayer := FX_NoLayer.binds (ps := ["self", "layer"]) fun _ _ _ _ _ _ us hl => match us, hl with | [_, _], _ => rfl
  have E_NoLayer : Exc1 l.prog w K mg base "NoLayer" "layer" C_NoLayer := ⟨⟨"IndexError", _, _, _, XO.tlIE, fI_NoLayer, _, "self", "layer", PySem.F.excBase_IndexError, ⟨by decide +kernel, by decide +kernel, by decide +kernel⟩, ⟨⟨_, _, _, _, _, _, _, _, _, _, _, _, _, _, _, xL_NoLayer, by first | decide +kernel | exact XO.rT_more (by decide +kernel)⟩, XO.bt_IE, sa_NoLayer, eC_NoLayer, tC_NoLayer, kc_NoLayer⟩, iC_NoLayer, tI_NoLayer, xi_NoLayer FX_NoLayer, bX_NoLayer⟩, nf_NoLayer, PySem.W.mg_of X G aC_NoLayer, ⟨ga_NoLayer, gg_NoLayer, eC_NoLayer, hC_NoLayer⟩⟩
  have b1 := F1.binds (ps := ["thing"]) fun _ _ _ _ _ _ us hl => match us, hl with | [_], _ => rfl
  have G1 : Def l.prog w K mg base "is_whole" ["thing"] 1 (spI K P_is_whole) := ⟨f1, _, ok_is_whole F1 B, PySem.W.mg_of X G a1, k1, b1⟩
  have b2 := F2.binds (ps := ["thing", "least", "most"]) fun _ _ _ _ _ _ us hl => match us, hl with | [_, _, _], _ => rfl
  have G2 : Def l.prog w K mg base "is_within" ["thing", "least", "most"] 2 (spI K P_is_within) := ⟨f2, _, ok_is_within F2 B G1, PySem.W.mg_of X G a2, k2, b2⟩
  have b3 := F3.binds (ps := ["thing", "least", "most"]) fun _ _ _ _ _ _ us hl => match us, hl with | [_, _, _], _ => rfl
  have G3 : Def l.prog w K mg base "is_row" ["thing", "least", "most"] 1 (spI K P_is_row) := ⟨f3, _, ok_is_row F3 B, PySem.W.mg_of X G a3, k3, b3⟩
  have b4 := F4.binds (ps := ["thing", "many"]) fun _ _ _ _ _ _ us hl => match us, hl with | [_, _], _ => rfl
  have G4 : Def l.prog w K mg base "are_whole" ["thing", "many"] 2 (spI K P_are_whole) := ⟨f4, _, ok_are_whole F4 B G3 G1, PySem.W.mg_of X G a4, k4, b4⟩
  have b5 := F5.binds (ps := ["thing", "width", "height", "layers"]) fun _ _ _ _ _ _ us hl => match us, hl with | [_, _, _, _], _ => rfl
  have G5 : Def l.prog w K mg base "is_pin_row" ["thing", "width", "height", "layers"] 3 (spI K P_is_pin_row) := ⟨f5, _, ok_is_pin_row F5 B G4, PySem.W.mg_of X G a5, k5, b5⟩
  have b6 := F6.binds (ps := ["width", "height", "pins", "layers", "spacing"]) fun _ _ _ _ _ _ us hl => match us, hl with | [_, _, _, _, _], _ => rfl
  have G6 : Def l.prog w K mg base "are_board" ["width", "height", "pins", "layers", "spacing"] 4 (spI K P_are_board) := ⟨f6, _, ok_are_board F6 B V_MOST V_MOST_LAYERS V_MOST_PINS G5 G3 G2, PySem.W.mg_of X G a6, k6, b6⟩
  obtain ⟨g7, hb7⟩ := kbn_of (ps := ["self", "width", "height", "pins", "layers", "spacing"]) F7 4 ["layers", "spacing"] [] [(true, 0), (true, 1)] (by simp) (by simp) (fun D doc pm an cdv ct us mv ws h1 h2 h3 => match us, mv, ws, h1, h2, h3 with | [_, _, _, _], [], [_, _], _, _, _ => rfl)
  have M_Board : MkK l.prog w K mg base "Board" C_Board ["self", "width", "height", "pins", "layers", "spacing"] 3 ["layers", "spacing"] [(true, 0), (true, 1)] [] 6 (spX K (xn mg) (P_board_init C_Board)) := ⟨⟨f7, _, g7, ⟨mk_Board, a7, i7, kc_Board⟩, ok_board_init F7 B K_Board E_NoBoard G6, PySem.W.mg_of X G aC_Board, hb7⟩⟩
  have b8 := F8.binds (ps := ["self", "number"]) fun _ _ _ _ _ _ us hl => match us, hl with | [_, _], _ => rfl
  have G8 : Mth l.prog w K mg base C_Board "look_pin" ["self", "number"] 4 (spX K (xn mg) (P_board_look_pin C_Board)) := ⟨f8, _, ok_board_look_pin F8 B K_Board E_NoPin G2, K_Board.cls, ⟨a8, i8, k8⟩, b8⟩
  have b9 := F9.binds (ps := ["_law_script", "_law_k"]) fun _ _ _ _ _ _ us hl => match us, hl with | [_, _], _ => rfl
  have G9 : Def l.prog w K mg base "_law_cell_at" ["_law_script", "_law_k"] 1 (spI K P_l_cell_at) := ⟨f9, _, ok_l_cell_at F9 B, PySem.W.mg_of X G a9, k9, b9⟩
  have b10 := F10.binds (ps := ["_law_script", "_law_at"]) fun _ _ _ _ _ _ us hl => match us, hl with | [_, _], _ => rfl
  have G10 : Def l.prog w K mg base "_law_bag" ["_law_script", "_law_at"] 2 (spI K P_l_bag) := ⟨f10, _, ok_l_bag F10 B G9, PySem.W.mg_of X G a10, k10, b10⟩
  have b11 := F11.binds (ps := ["_law_bag_here", "_law_many"]) fun _ _ _ _ _ _ us hl => match us, hl with | [_, _], _ => rfl
  have G11 : Def l.prog w K mg base "_law_take" ["_law_bag_here", "_law_many"] 1 (spI K P_l_take) := ⟨f11, _, ok_l_take F11 B, PySem.W.mg_of X G a11, k11, b11⟩
  have b12 := F12.binds (ps := ["_law_bag_here", "_law_most"]) fun _ _ _ _ _ _ us hl => match us, hl with | [_, _], _ => rfl
  have G12 : Def l.prog w K mg base "_law_made" ["_law_bag_here", "_law_most"] 3 (spI K P_l_made) := ⟨f12, _, ok_l_made F12 B G11, PySem.W.mg_of X G a12, k12, b12⟩
  have b13 := F13.binds (ps := ["self"]) fun _ _ _ _ _ _ us hl => match us, hl with | [_], _ => rfl
  have G13 : Mth l.prog w K mg base C_Board "made_of" ["self"] 1 (spI K (P_board_made_of C_Board)) := ⟨f13, _, fn_lift (ok_board_made_of F13 B K_Board), K_Board.cls, ⟨a13, i13, k13⟩, b13⟩
  have b14 := F14.binds (ps := ["_law_thing"]) fun _ _ _ _ _ _ us hl => match us, hl with | [_], _ => rfl
  have G14 : Def l.prog w K mg base "_law_whole" ["_law_thing"] 1 (spI K P_l_whole) := ⟨f14, _, ok_l_whole F14 B, PySem.W.mg_of X G a14, k14, b14⟩
  have b15 := F15.binds (ps := ["_law_thing", "_law_made_here"]) fun _ _ _ _ _ _ us hl => match us, hl with | [_, _], _ => rfl
  have G15 : Def l.prog w K mg base "_law_is_pin" ["_law_thing", "_law_made_here"] 2 (spI K P_l_is_pin) := ⟨f15, _, ok_l_is_pin F15 B G14, PySem.W.mg_of X G a15, k15, b15⟩
  have b16 := F16.binds (ps := ["_law_made_here"]) fun _ _ _ _ _ _ us hl => match us, hl with | [_], _ => rfl
  have G16 : Def l.prog w K mg base "_law_is_made" ["_law_made_here"] 3 (spI K P_l_is_made) := ⟨f16, _, ok_l_is_made F16 B G15 G14, PySem.W.mg_of X G a16, k16, b16⟩
  have b17 := F17.binds (ps := ["_law_bag_here"]) fun _ _ _ _ _ _ us hl => match us, hl with | [_], _ => rfl
  have G17 : Def l.prog w K mg base "_law_odd" ["_law_bag_here"] 2 (spI K P_l_odd) := ⟨f17, _, ok_l_odd F17 B G11, PySem.W.mg_of X G a17, k17, b17⟩
  have b18 := F18.binds (ps := ["_law_made_here"]) fun _ _ _ _ _ _ us hl => match us, hl with | [_], _ => rfl
  have G18 : Def l.prog w K mg base "_law_is_refused" ["_law_made_here"] 8 (spI K (P_l_is_refused C_Board)) := ⟨f18, _, ok_l_is_refused F18 B K_Board E_NoBoard E_NoLayer E_NoPin H_NoBoard_NoBoard H_NoLayer_NoBoard H_NoPin_NoBoard X_NoBoard V_BoardError V_NoLayer V_NoPin V_NoText Q_NoBoard_BoardError Q_NoBoard_NoLayer Q_NoBoard_NoPin Q_NoBoard_NoText Q_NoBoard_ValueError M_Board, PySem.W.mg_of X G a18, k18, b18⟩
  have b19 := F19.binds (ps := ["_law_made_here"]) fun _ _ _ _ _ _ us hl => match us, hl with | [_], _ => rfl
  have G19 : Def l.prog w K mg base "_law_told" ["_law_made_here"] 8 (spI K (P_l_told C_Board)) := ⟨f19, _, ok_l_told F19 B K_Board G13 M_Board, PySem.W.mg_of X G a19, k19, b19⟩
  have b20 := F20.binds (ps := ["_law_bag_here", "_law_row", "_law_made_here"]) fun _ _ _ _ _ _ us hl => match us, hl with | [_, _, _], _ => rfl
  have G20 : Def l.prog w K mg base "_law_bent_pin" ["_law_bag_here", "_law_row", "_law_made_here"] 3 (spI K P_l_bent_pin) := ⟨f20, _, ok_l_bent_pin F20 B G17 G11, PySem.W.mg_of X G a20, k20, b20⟩
  have b21 := F21.binds (ps := ["_law_bag_here", "_law_made_here"]) fun _ _ _ _ _ _ us hl => match us, hl with | [_, _], _ => rfl
  have G21 : Def l.prog w K mg base "_law_bent" ["_law_bag_here", "_law_made_here"] 4 (spI K P_l_bent) := ⟨f21, _, ok_l_bent F21 B G20 G17 G11, PySem.W.mg_of X G a21, k21, b21⟩
  exact ok_law F22 B K_Board G10 G21 G16 G18 G12 G19))) only [↓Hold.on]
theorem facts {l : PySem.W.OpenLaw} {w : World} {K : PySem.W.Frag} {h : Heap} {mg : Str → Option Value} {fa : Addr} (X : K.In h) (G : h.Ns mainGlobals mg) (hfa : mg "law" = some (.ref fa)) (c : He.SaysX [] fns [] tfs exs w h K) :
    ZG.LawN l w K 16 "_law_script" mg fa h := by
  refine Hold.out ?_
  simp (disch := (
  refine Hold.as ?_
  with_unfolding_all (
  have hz : exs K = true := c.more
  have g0 : xp0 K = true := hz
  obtain ⟨h0, g0⟩ := He.ba g0
  obtain ⟨h1, g0⟩ := He.ba g0
  obtain ⟨h2, g0⟩ := He.ba g0
  have F_1 := c.t.d.def_ 0 (d := fd0) rfl
  obtain ⟨oc1, od1, kV1, dc1, pm1, an1, cd1, ct1, sl1, l1, c1, k1, w1⟩ := HX.fun_out F_1
  have F_2 := c.t.d.def_ 1 (d := fd1) rfl
  obtain ⟨oc2, od2, kV2, dc2, pm2, an2, cd2, ct2, sl2, l2, c2, k2, w2⟩ := HX.fun_out F_2
  have F_3 := c.t.d.def_ 2 (d := fd2) rfl
  obtain ⟨oc3, od3, kV3, dc3, pm3, an3, cd3, ct3, sl3, l3, c3, k3, w3⟩ := HX.fun_out F_3
  have F_4 := c.t.d.def_ 3 (d := fd3) rfl
  obtain ⟨oc4, od4, kV4, dc4, pm4, an4, cd4, ct4, sl4, l4, c4, k4, w4⟩ := HX.fun_out F_4
  have F_5 := c.t.d.def_ 4 (d := fd4) rfl
  obtain ⟨oc5, od5, kV5, dc5, pm5, an5, cd5, ct5, sl5, l5, c5, k5, w5⟩ := HX.fun_out F_5
  have F_6 := c.t.d.def_ 5 (d := fd5) rfl
  obtain ⟨oc6, od6, kV6, dc6, pm6, an6, cd6, ct6, sl6, l6, c6, k6, w6⟩ := HX.fun_out F_6
  have F_7 := c.t.d.def_ 6 (d := fd6) rfl
  obtain ⟨oc7, od7, kV7, dc7, pm7, an7, cd7, ct7, sl7, l7, c7, k7, w7⟩ := HX.fun_out F_7
  obtain ⟨D7, rfl, y7⟩ := HX.kw_out w7
  obtain ⟨tk7_layers, d7_layers⟩ := HX.kw_int (x := "layers") (i := 1) y7 List.mem_cons_self
  obtain ⟨tk7_spacing, d7_spacing⟩ := HX.kw_int (x := "spacing") (i := 1) y7 (List.mem_cons_of_mem _ List.mem_cons_self)
  have F_8 := c.t.d.def_ 7 (d := fd7) rfl
  obtain ⟨oc8, od8, kV8, dc8, pm8, an8, cd8, ct8, sl8, l8, c8, k8, w8⟩ := HX.fun_out F_8
  have F_9 := c.t.d.def_ 8 (d := fd8) rfl
  obtain ⟨oc9, od9, kV9, dc9, pm9, an9, cd9, ct9, sl9, l9, c9, k9, w9⟩ := HX.fun_out F_9
  have F_10 := c.t.d.def_ 9 (d := fd9) rfl
  obtain ⟨oc10, od10, kV10, dc10, pm10, an10, cd10, ct10, sl10, l10, c10, k10, w10⟩ := HX.fun_out F_10
  have F_11 := c.t.d.def_ 10 (d := fd10) rfl
  obtain ⟨oc11, od11, kV11, dc11, pm11, an11, cd11, ct11, sl11, l11, c11, k11, w11⟩ := HX.fun_out F_11
  have F_12 := c.t.d.def_ 11 (d := fd11) rfl
  obtain ⟨oc12, od12, kV12, dc12, pm12, an12, cd12, ct12, sl12, l12, c12, k12, w12⟩ := HX.fun_out F_12
  have F_13 := c.t.d.def_ 12 (d := fd12) rfl
  obtain ⟨oc13, od13, kV13, dc13, pm13, an13, cd13, ct13, sl13, l13, c13, k13, w13⟩ := HX.fun_out F_13
  have F_14 := c.t.d.def_ 13 (d := fd13) rfl
  obtain ⟨oc14, od14, kV14, dc14, pm14, an14, cd14, ct14, sl14, l14, c14, k14, w14⟩ := HX.fun_out F_14
  have F_15 := c.t.d.def_ 14 (d := fd14) rfl
  obtain ⟨oc15, od15, kV15, dc15, pm15, an15, cd15, ct15, sl15, l15, c15, k15, w15⟩ := HX.fun_out F_15
  have F_16 := c.t.d.def_ 15 (d := fd15) rfl
  obtain ⟨oc16, od16, kV16, dc16, pm16, an16, cd16, ct16, sl16, l16, c16, k16, w16⟩ := HX.fun_out F_16
  have F_17 := c.t.d.def_ 16 (d := fd16) rfl
  obtain ⟨oc17, od17, kV17, dc17, pm17, an17, cd17, ct17, sl17, l17, c17, k17, w17⟩ := HX.fun_out F_17
  have F_18 := c.t.d.def_ 17 (d := fd17) rfl
  obtain ⟨oc18, od18, kV18, dc18, pm18, an18, cd18, ct18, sl18, l18, c18, k18, w18⟩ := HX.fun_out F_18
  have F_19 := c.t.d.def_ 18 (d := fd18) rfl
  obtain ⟨oc19, od19, kV19, dc19, pm19, an19, cd19, ct19, sl19, l19, c19, k19, w19⟩ := HX.fun_out F_19
  have F_20 := c.t.d.def_ 19 (d := fd19) rfl
  obtain ⟨oc20, od20, kV20, dc20, pm20, an20, cd20, ct20, sl20, l20, c20, k20, w20⟩ := HX.fun_out F_20
  have F_21 := c.t.d.def_ 20 (d := fd20) rfl
  obtain ⟨oc21, od21, kV21, dc21, pm21, an21, cd21, ct21, sl21, l21, c21, k21, w21⟩ := HX.fun_out F_21
  have F_22 := c.t.d.def_ 21 (d := fd21) rfl
  obtain ⟨oc22, od22, kV22, dc22, pm22, an22, cd22, ct22, sl22, l22, c22, k22, w22⟩ := HX.fun_out F_22
  have F_NoPin := c.t.d.def_ 22 (d := fd22) rfl
  obtain ⟨oc_NoPin, od_NoPin, kV_NoPin, dc_NoPin, pm_NoPin, an_NoPin, cd_NoPin, ct_NoPin, osl_NoPin, lI_NoPin, cI_NoPin, kI_NoPin, _⟩ := HX.fun_out F_NoPin
  have F_NoLayer := c.t.d.def_ 23 (d := fd23) rfl
  obtain ⟨oc_NoLayer, od_NoLayer, kV_NoLayer, dc_NoLayer, pm_NoLayer, an_NoLayer, cd_NoLayer, ct_NoLayer, osl_NoLayer, lI_NoLayer, cI_NoLayer, kI_NoLayer, _⟩ := HX.fun_out F_NoLayer
  have u0 := HX.dc h0 0 rfl
  have u1 := HX.at_ h0 1 rfl
  have u2 := HX.at_ h0 2 rfl
  have u3 := HX.at_ h0 3 rfl
  have u4 := HX.dc h0 4 rfl
  have u5 := HX.dc h0 5 rfl
  have u6 := HX.dc h0 6 rfl
  have u7 := HX.dc h0 7 rfl
  have u8 := HX.dc h0 8 rfl
  have u9 := HX.dc h0 9 rfl
  have u10 := HX.dc h0 10 rfl
  have u11 := HX.dc h0 11 rfl
  have u12 := HX.dc h0 12 rfl
  have u13 := HX.at_ h0 13 rfl
  have u14 := HX.at_ h0 14 rfl
  have u15 := HX.dc h0 15 rfl
  have u16 := HX.at_ h0 16 rfl
  have u17 := HX.dc h0 17 rfl
  have u18 := HX.dc h0 18 rfl
  have u19 := HX.at_ h0 19 rfl
  have u20 := HX.at_ h0 20 rfl
  have u21 := HX.dc h0 21 rfl
  have u22 := HX.at_ h0 22 rfl
  have u23 := HX.dc h0 23 rfl
  have u24 := HX.dc h0 24 rfl
  obtain ⟨nm_NoPin, qn_NoPin, N_NoPin, bs_NoPin, sn_NoPin, sub_NoPin, ab_NoPin, col_NoPin, dd_NoPin, m0_NoPin, m1_NoPin, m2_NoPin, m3_NoPin, m5_NoPin, xL_NoPin⟩ := HX.excB_ok (HX.at_ h0 25 rfl)
  have u25 := HX.dc h0 26 rfl
  have u26 := HX.dc h0 27 rfl
  have u27 := HX.dc h0 28 rfl
  have u28 := HX.dc h0 29 rfl
  have u29 := HX.at_ h0 30 rfl
  have u30 := HX.dc h0 31 rfl
  have u31 := HX.dc h0 32 rfl
  have u32 := HX.dc h0 33 rfl
  have u33 := HX.at_ h0 34 rfl
  have u34 := HX.dc h0 35 rfl
  have u35 := HX.dc h0 36 rfl
  obtain ⟨nm_NoLayer, qn_NoLayer, N_NoLayer, bs_NoLayer, sn_NoLayer, sub_NoLayer, ab_NoLayer, col_NoLayer, dd_NoLayer, m0_NoLayer, m1_NoLayer, m2_NoLayer, m3_NoLayer, m5_NoLayer, xL_NoLayer⟩ := HX.excB_ok (HX.at_ h0 37 rfl)
  have u36 := HX.dc h0 38 rfl
  have u37 := HX.dc h0 39 rfl
  have u38 := HX.dc h1 0 rfl
  have u39 := HX.dc h1 1 rfl
  have u40 := HX.at_ h1 2 rfl
  have u41 := HX.dc h1 3 rfl
  have u42 := HX.dc h1 4 rfl
  have u43 := HX.dc h1 5 rfl
  have u44 := HX.dc h1 6 rfl
  have u45 := HX.dc h1 7 rfl
  have u46 := HX.dc h1 8 rfl
  have u47 := HX.dc h1 9 rfl
  have u48 := HX.dc h1 10 rfl
  have u49 := HX.dc h1 11 rfl
  have u50 := HX.at_ h1 12 rfl
  have u51 := HX.dc h1 13 rfl
  have u52 := HX.dc h1 14 rfl
  have u53 := HX.dc h1 15 rfl
  have u54 := HX.dc h1 16 rfl
  have u55 := HX.dc h1 17 rfl
  have u56 := HX.at_ h1 18 rfl
  have u57 := HX.dc h1 19 rfl
  have u58 := HX.at_ h1 20 rfl
  have u59 := HX.dc h1 21 rfl
  have u60 := HX.at_ h1 22 rfl
  have u61 := HX.dc h1 23 rfl
  have u62 := HX.at_ h1 24 rfl
  have u63 := HX.dc h1 25 rfl
  have u64 := HX.dc h1 26 rfl
  have u65 := HX.dc h1 27 rfl
  have u66 := HX.dc h1 28 rfl
  have u67 := HX.dc h1 29 rfl
  have u68 := HX.dc h1 30 rfl
  obtain ⟨tk_MOST, v_MOST⟩ := HX.intB_ok (HX.at_ h1 31 rfl)
  obtain ⟨tk_MOST_LAYERS, v_MOST_LAYERS⟩ := HX.intB_ok (HX.at_ h1 32 rfl)
  obtain ⟨tk_MOST_PINS, v_MOST_PINS⟩ := HX.intB_ok (HX.at_ h1 33 rfl)
  have u69 := HX.dc h1 34 rfl
  have u70 := HX.dc h1 35 rfl
  have u71 := HX.dc h1 36 rfl
  have u72 := HX.dc h1 37 rfl
  have u73 := HX.dc h1 38 rfl
  have u74 := HX.dc h1 39 rfl
  have u75 := HX.dc h2 0 rfl
  have u76 := HX.at_ h2 1 rfl
  have u77 := HX.dc h2 2 rfl
  have u78 := HX.at_ h2 3 rfl
  have u79 := HX.dc h2 4 rfl
  have u80 := HX.dc h2 5 rfl
  have u81 := HX.dc h2 6 rfl
  have u82 := HX.dc h2 7 rfl
  have u83 := HX.dc h2 8 rfl
  have u84 := HX.at_ h2 9 rfl
  have u85 := HX.dc h2 10 rfl
  have u86 := HX.dc h2 11 rfl
  have u87 := HX.dc h2 12 rfl
  have u88 := HX.dc h2 13 rfl
  have u89 := HX.dc h2 14 rfl
  have u90 := HX.dc h2 15 rfl
  have u91 := HX.dc h2 16 rfl
  have u92 := HX.dc h2 17 rfl
  have u93 := HX.dc h2 18 rfl
  have u94 := HX.dc h2 19 rfl
  have u95 := HX.dc h2 20 rfl
  have u96 := HX.dc h2 21 rfl
  have u97 := HX.dc h2 22 rfl
  have u98 := HX.dc h2 23 rfl
  have u99 := HX.dc h2 24 rfl
  have u100 := HX.dc h2 25 rfl
  have u101 := HX.dc h2 26 rfl
  have u102 := HX.dc h2 27 rfl
  have u103 := HX.dc h2 28 rfl
  have u104 := HX.dc h2 29 rfl
  exact all_mk X G hfa u0 u1 u2 u3 u4 u5 u6 u7 u8 u9 u10 u11 u12 u13 u14 u15 u16 u17 u18 u19 u20 u21 u22 u23 u24 xL_NoPin u25 u26 u27 u28 u29 u30 u31 lI_NoPin cI_NoPin kI_NoPin u32 u33 u34 u35 xL_NoLayer u36 u37 u38 u39 u40 u41 u42 lI_NoLayer cI_NoLayer kI_NoLayer u43 u44 u45 u46 u47 u48 u49 u50 u51 u52 u53 u54 u55 u56 u57 u58 u59 u60 u61 u62 u63 u64 u65 u66 u67 u68 v_MOST v_MOST_LAYERS v_MOST_PINS u69 l1 c1 k1 u70 l2 c2 k2 u71 l3 c3 k3 u72 l4 c4 k4 u73 l5 c5 k5 u74 l6 c6 k6 u75 u76 l7 c7 k7 d7_layers d7_spacing u77 u78 l8 c8 k8 u79 l9 c9 k9 u80 l10 c10 k10 u81 l11 c11 k11 u82 l12 c12 k12 u83 u84 l13 c13 k13 u85 l14 c14 k14 u86 l15 c15 k15 u87 l16 c16 k16 u88 l17 c17 k17 u89 l18 c18 k18 u90 l19 c19 k19 u91 l20 c20 k20 u92 l21 c21 k21 u93 l22 c22 k22 u94 u95 u96 u97 u98 u99 u100 u101 u102 u103 u104))) only [↓Hold.on]
end W
open PySem PySem.W PySem.Calls PyProof.Rows in
set_option maxRecDepth 100000 in
set_option maxHeartbeats 0 in
theorem PySem.Challenge.cw_rubberroutes_k06_what_is_no_board_holds : PySem.Challenge.rw_rubberroutes_k06_what_is_no_board.Holds := by
  w_on; o_law
  refine HandSHeadRun.head_any (r := _root_.W.RR) (q := _root_.W.qv) (H := _root_.W.hk) (ob := _root_.W.hob) (M := 40000) (loose := _root_.W.loose) (d := HandSHeadRun.topDef _root_.W.RR.prog 42) (kwd := []) _root_.W.hob_eq (by kernel_rfl) (fun s => by kernel_rfl) _root_.W.run (by kernel_rfl) (by kernel_rfl) (by kernel_rfl) (by rfl) (by first | assumption | decide +kernel) (by decide +kernel) ⟨rfl, rfl, rfl, rfl, rfl, by decide +kernel⟩ ?hw ?hc
  case hw => w_witness2
  case hc =>
    refine ZG.walk_N (l := PySem.Challenge.rw_rubberroutes_k06_what_is_no_board) (k := 16) (x := "_law_script") rfl (by kernel_rfl) ⟨rfl, by decide, by decide⟩ ?F
    intro w mg fa h Y G hmg0
    obtain ⟨K, KX, c⟩ := Y
    have hmg : mg ("law" : PySem.Str) = some (.ref fa) := by
      have e : (HandSHeadRun.topDef _root_.W.RR.prog 42).name = ("law" : PySem.Str) := by kernel_rfl
      rw [← e]
      exact hmg0
    exact ⟨K, KX, _root_.W.facts KX G hmg c⟩
