import PyProof.Rows.All
import Wide.All
import OpenK.AllK
import Wide.FinOn
import HandS.ForMost
import HandS.Wide
import HandS.IsInst
import HandS.Deep
import HandS.Style
import HandS.Zip
import HandS.Defaults
import HandS.TryOnly
import HandS.Zip0
import KE.KDictZip
import KE.KItemsList
import HandS.ListItems
import HandS.TupAny
import HandS.ExcOwn
import HandS.Lambda
import HandS.ExcInit
import HandS.WordsExc
import HandS.MakeKwOnly
import HandS.ExcField
import HandS.HotCalls
import HandS.SetBool
import HandS.TupSets
import HandS.Flt
import KE.SortData
import HandS.SuiteRaise
import HandS.RaiseFrom
import PyProof.NsDelKeeps
import HandS.ExcIs
import KE.KTryMore
import HandS.Nested
import HandS.EndTab
import HandS.SortKw
import KE.SortKeyHeap
import KE.GoesEnumKw
import KE.DataCmp
import HandS.Conv
import HandS.Style
import KE.KNestM
import HandS.DictComp
import HandS.TryMany
import PyProof.StrOps2
import HandS.DictTup
import PyProof.TupleOfSeq
import KE.DataMinMax
import KE.GoesMore
import KE.GoesZip
import KE.GoesEnum
import HandS.TupMul
import HandS.ListItems
import KE.KDictSum
import KE.DataFind
import HandS.Text
import HandS.FStr
import HandS.More
import KE.KUnpackStar
import HandS.SetFor
import HandS.Strs
import KE.KCallOwn
import HandS.SlotsOwn
import HandS.OwnEq
import HandS.WordsDict
import HandS.SuiteRaise
import KE.KEqDict
import HandS.Head0
import HandS.Head1
import HandS.Head2
import HandS.HeadHook1
import HandS.HeadHook2
import HandS.HeadHook3
import HandS.HeadHook4
import HandS.HeadWalk
import KE.GoesComp
import KE.GoesRaise
import PySem.Challenge.RW_rubberroutes_k69_texts_of_boards
set_option Elab.async false
set_option linter.all false
set_option maxRecDepth 100000
set_option maxHeartbeats 4000000
structure Hold (p : Prop) : Prop where
  out : p
theorem Hold.on {p : Prop} (h : p) : Hold p = True := eq_true ⟨h⟩
theorem Hold.as {p : Prop} (h : p) : p := h
namespace Z
open PySem L2
inductive D where
  | non | bl (b : Bool) | int (i : Int) | str (s : Str) | ty (n : String) | tup (ds : List D) | rol (ds : List D) | ref (a : Addr)
inductive MO where
  | lst (ds : List D) | dK (kvs : List (Key × D)) | dT (kvs : List (List Key × D)) | ins (C dx : Addr) (fs : List (Str × D)) | xd (fs : List (Str × D)) | fT (od : Obj) (vs : List (List Key × V)) (kvs : List (List Key × D)) | fK (od : Obj) (vs : List (Key × V)) (kvs : List (Key × D)) | fTp (od : Obj) (ds : List D) | xo (od : Obj) (C : Addr) | tab (q : Str) | lam (od : Obj) (c : Addr) (q : Str) (τ : List (Option D)) (σ : L2.St)
abbrev M := Addr → Option MO
def M.set (μ : M) (a : Addr) (m : MO) : M := fun b => if b = a then some m else μ b
theorem set_same {μ : M} {a : Addr} {m : MO} : μ.set a m a = some m := by unfold M.set; rw [if_pos rfl]
theorem set_ne {μ : M} {a b : Addr} {m : MO} (h : b ≠ a) : μ.set a m b = μ b := by unfold M.set; rw [if_neg h]
theorem set_set {μ : M} {a : Addr} {m m' : MO} : (μ.set a m).set a m' = μ.set a m' := by
  funext b; unfold M.set; split <;> rfl
inductive TupAt (K : PySem.W.Frag) (H : Hp) (a : Addr) (xs : List V) : Prop
  | inl (h : H a = some (.tup xs)) : TupAt K H a xs
def RolAt (K : PySem.W.Frag) (H : Hp) (a : Addr) (xs : List V) : Prop :=
  (∃ o, H a = some (.frz o (.lst xs))) ∨ ∃ (o : Obj) (its : Array Value) (n : Nat), K.lookup a = some o ∧ o.cls = .type "list" ∧ o.dict = none ∧ o.data = .seq its n ∧ its.size ≤ sizeLine ∧ Vals xs its.toList
theorem TupAt.sq {K : PySem.W.Frag} {H : Hp} {a : Addr} {xs : List V} (h : TupAt K H a xs) : SqT K H a xs := by
  cases h with
  | inl h => exact .inl (.inl h)
theorem RolAt.sq {K : PySem.W.Frag} {H : Hp} {a : Addr} {xs : List V} (h : RolAt K H a xs) : SqL K H a xs := by
  rcases h with ⟨o, h⟩ | h
  · exact .inl (.inr ⟨o, h⟩)
  · exact .inr h
mutual
inductive Rel (K : PySem.W.Frag) (H : Hp) : V → D → Prop
  | non : Rel K H .non .non
  | bl (b : Bool) : Rel K H (.bl b) (.bl b)
  | int (i : Int) : Rel K H (.int i) (.int i)
  | str (s : Str) : Rel K H (.str s) (.str s)
  | ty (n : String) : Rel K H (.ty n) (.ty n)
  | ref (a : Addr) : Rel K H (.ref a) (.ref a)
  | tup {a : Addr} {xs : List V} {ds : List D} : TupAt K H a xs → Rels K H xs ds → Rel K H (.ref a) (.tup ds)
  | rol {a : Addr} {xs : List V} {ds : List D} : RolAt K H a xs → Rels K H xs ds → Rel K H (.ref a) (.rol ds)
inductive Rels (K : PySem.W.Frag) (H : Hp) : List V → List D → Prop
  | nil : Rels K H [] []
  | cons {v : V} {vs : List V} {d : D} {ds : List D} : Rel K H v d → Rels K H vs ds → Rels K H (v :: vs) (d :: ds)
end
/-- field lists, pair lists -/
def RelKV {κ : Type} (K : PySem.W.Frag) (H : Hp) : List (κ × V) → List (κ × D) → Prop := Paired fun p q => p.1 = q.1 ∧ Rel K H p.2 q.2
abbrev T := List (Option D)
def Slots (K : PySem.W.Frag) (H : Hp) (τ : T) (σ : St) : Prop := τ.length = σ.length ∧ ∀ (i : Nat) (d : D), τ[i]? = some (some d) → ∃ v, σ[i]? = some (some v) ∧ Rel K H v d
def MRel (K : PySem.W.Frag) (H : Hp) (a : Addr) : MO → Prop
  | .lst ds => ∃ vs, H a = some (.lst vs) ∧ Rels K H vs ds
  | .dK kvs => ∃ vs, H a = some (.dK vs) ∧ RelKV K H vs kvs
  | .dT kvs => ∃ vs, H a = some (.dT vs) ∧ RelKV K H vs kvs
  | .ins C dx fs => ∃ vs, H a = some (.ins C dx vs) ∧ RelKV K H vs fs
  | .xd fs => ∃ vs, H a = some (.xd vs) ∧ RelKV K H vs fs
  | .fT od us kvs => ∃ vs, H a = some (.frz od (.dT vs)) ∧ RelKV K H vs kvs ∧ vs = us
  | .fK od us kvs => ∃ vs, H a = some (.frz od (.dK vs)) ∧ RelKV K H vs kvs ∧ vs = us
  | .fTp od ds => ∃ vs, H a = some (.frz od (.tup vs)) ∧ Rels K H vs ds ∧ od.dict = none
  | .xo od C => ∃ z : Addr, H a = some (.frz od (.own z)) ∧ od.cls = .ref C ∧ ∃ vs, od.data = .fields vs
  | .tab q => ∃ ps : Array Value, H a = some (.tbl ps) ∧ TriplesOk ps.toList ∧ ∀ (pos : Pos) (cv : Value), codeAmong pos ps.toList = some cv → ∃ c, cv = .ref c ∧ H c = some (LamX.CodeO c q)
  | .lam od c q τ σ => ∃ z : Addr, H a = some (.frz od (.own z)) ∧ H c = some (LamX.CodeO c q) ∧ Slots K H τ σ
def Con (K : PySem.W.Frag) (H : Hp) (μ : M) : Prop := ∀ a m, μ a = some m → MRel K H a m
/-- what is tracked outside of the store stays, and stays outside -/
def Fr (μ μ' : M) (H H' : Hp) : Prop := ∀ a o, μ a = none → H a = some o → H' a = some o ∧ μ' a = none
section
variable {K : PySem.W.Frag} {H H' H1 H2 : Hp} {μ μ' μ1 μ2 : M} {τ : T} {σ : St}
theorem Fr.refl : Fr μ μ H H := fun _ _ h e => ⟨e, h⟩
theorem Fr.trans (a : Fr μ μ1 H H1) (b : Fr μ1 μ2 H1 H2) : Fr μ μ2 H H2 := fun x o h e => let ⟨e1, h1⟩ := a x o h e; b x o h1 e1
theorem Con.tn (c : Con K H μ) {a : Addr} {xs : List V} (e : H a = some (.tup xs)) : μ a = none := by
  cases q : μ a with
  | none => rfl
  | some m =>
    have r := c a m q
    cases m <;> (obtain ⟨vs, h, _⟩ := r; rw [e] at h; cases h)
theorem Con.fn (c : Con K H μ) {a : Addr} {o : Obj} {u : List V} (e : H a = some (.frz o (.lst u))) : μ a = none := by
  cases q : μ a with
  | none => rfl
  | some m =>
    have r := c a m q
    cases m <;> (obtain ⟨vs, h, _⟩ := r; rw [e] at h; cases h)
theorem Con.free (c : Con K H μ) {a : Addr} (e : H a = none) : μ a = none := by
  cases q : μ a with
  | none => rfl
  | some m =>
    have r := c a m q
    cases m <;> (obtain ⟨vs, h, _⟩ := r; rw [e] at h; cases h)
/-- tuples and read-only lists stay -/
structure Tx (H H' : Hp) : Prop where
  t : ∀ a xs, H a = some (.tup xs) → H' a = some (.tup xs)
  l : ∀ a o xs, H a = some (.frz o (.lst xs)) → H' a = some (.frz o (.lst xs))
  c : ∀ a q, H a = some (LamX.CodeO a q) → H' a = some (LamX.CodeO a q)
theorem Con.cn (c : Con K H μ) {a : Addr} {q : Str} (e : H a = some (LamX.CodeO a q)) : μ a = none := by
  cases h : μ a with
  | none => rfl
  | some m =>
    have r := c a m h
    unfold LamX.CodeO at e
    cases m <;> (obtain ⟨vs, h, _⟩ := r; rw [e] at h; cases h)
theorem Tx.refl : Tx H H := ⟨fun _ _ h => h, fun _ _ _ h => h, fun _ _ h => h⟩
theorem Tx.trans (a : Tx H H1) (b : Tx H1 H2) : Tx H H2 := ⟨fun x xs h => b.t x xs (a.t x xs h), fun x o xs h => b.l x o xs (a.l x o xs h), fun x q h => b.c x q (a.c x q h)⟩
theorem Fr.tx (f : Fr μ μ' H H') (c : Con K H μ) : Tx H H' := ⟨fun a xs e => (f a _ (c.tn e) e).1, fun a o xs e => (f a _ (c.fn e) e).1, fun a q e => (f a _ (c.cn e) e).1⟩
theorem TupAt.mono {a : Addr} {xs : List V} (t : Tx H H') (h : TupAt K H a xs) : TupAt K H' a xs := by
  cases h with
  | inl h => exact .inl (t.t _ _ h)
theorem RolAt.mono {a : Addr} {xs : List V} (t : Tx H H') (h : RolAt K H a xs) : RolAt K H' a xs := by
  rcases h with ⟨o, h⟩ | h
  · exact .inl ⟨o, t.l _ _ _ h⟩
  · exact .inr h
mutual
theorem Rel.mono (t : Tx H H') : ∀ (d : D) (v : V), Rel K H v d → Rel K H' v d
  | .non, _, .non => .non
  | .bl _, _, .bl b => .bl b
  | .int _, _, .int b => .int b
  | .str _, _, .str b => .str b
  | .ty _, _, .ty b => .ty b
  | .ref _, _, .ref b => .ref b
  | .tup ds, _, .tup h r => .tup (h.mono t) (Rels.mono t ds _ r)
  | .rol ds, _, .rol h r => .rol (h.mono t) (Rels.mono t ds _ r)
theorem Rels.mono (t : Tx H H') : ∀ (ds : List D) (vs : List V), Rels K H vs ds → Rels K H' vs ds
  | [], _, .nil => .nil
  | d :: ds, _, .cons a b => .cons (Rel.mono t d _ a) (Rels.mono t ds _ b)
end
theorem RelKV.mono {κ : Type} (t : Tx H H') : ∀ {xs : List (κ × V)} {ys : List (κ × D)}, RelKV K H xs ys → RelKV K H' xs ys
  | _, _, .nil => .nil
  | _, _, .cons a b => .cons ⟨a.1, Rel.mono t _ _ a.2⟩ (RelKV.mono t b)
theorem Slots.mono (t : Tx H H') (s : Slots K H τ σ) : Slots K H' τ σ := ⟨s.1, fun i d e => let ⟨v, h, r⟩ := s.2 i d e; ⟨v, h, Rel.mono t d v r⟩⟩
theorem Rels.length : ∀ {vs : List V} {ds : List D}, Rels K H vs ds → vs.length = ds.length
  | _, _, .nil => rfl
  | _, _, .cons _ b => by rw [List.length_cons, List.length_cons, Rels.length b]
theorem Rels.append : ∀ {vs ws : List V} {ds es : List D}, Rels K H vs ds → Rels K H ws es → Rels K H (vs ++ ws) (ds ++ es)
  | _, _, _, _, .nil, h => h
  | _, _, _, _, .cons a b, h => .cons a (Rels.append b h)
theorem Rels.get : ∀ {vs : List V} {ds : List D} {i : Nat} {d : D}, Rels K H vs ds → ds[i]? = some d → ∃ v, vs[i]? = some v ∧ Rel K H v d
  | _, _, i, d, .nil, e => by simp at e
  | _, _, 0, d, .cons a _, e => ⟨_, rfl, by simp at e; subst e; exact a⟩
  | _, _, i + 1, d, .cons _ b, e => by
    obtain ⟨v, h1, h2⟩ := Rels.get (i := i) (d := d) b (by simpa using e)
    exact ⟨v, by simpa using h1, h2⟩
theorem Rels.getV : ∀ {vs : List V} {ds : List D} {i : Nat} {v : V}, Rels K H vs ds → vs[i]? = some v → ∃ d, ds[i]? = some d ∧ Rel K H v d
  | _, _, i, d, .nil, e => by simp at e
  | _, _, 0, d, .cons a _, e => ⟨_, rfl, by simp at e; subst e; exact a⟩
  | _, _, i + 1, d, .cons _ b, e => by
    obtain ⟨v, h1, h2⟩ := Rels.getV (i := i) (v := d) b (by simpa using e)
    exact ⟨v, by simpa using h1, h2⟩
theorem Rels.set {v : V} {d : D} (r : Rel K H v d) : ∀ {vs : List V} {ds : List D} (i : Nat), Rels K H vs ds → Rels K H (vs.set i v) (ds.set i d)
  | _, _, _, .nil => .nil
  | _, _, 0, .cons _ b => .cons r b
  | _, _, i + 1, .cons a b => .cons a (Rels.set r i b)
theorem Rels.reverse : ∀ {vs : List V} {ds : List D}, Rels K H vs ds → Rels K H vs.reverse ds.reverse
  | _, _, .nil => .nil
  | _, _, .cons a b => by rw [List.reverse_cons, List.reverse_cons]; exact (Rels.reverse b).append (.cons a .nil)
theorem Rels.take : ∀ {vs : List V} {ds : List D} (n : Nat), Rels K H vs ds → Rels K H (vs.take n) (ds.take n)
  | _, _, 0, _ => .nil
  | _, _, _ + 1, .nil => .nil
  | _, _, n + 1, .cons a b => .cons a (Rels.take n b)
theorem Rels.drop : ∀ {vs : List V} {ds : List D} (n : Nat), Rels K H vs ds → Rels K H (vs.drop n) (ds.drop n)
  | _, _, 0, h => h
  | _, _, _ + 1, .nil => .nil
  | _, _, n + 1, .cons _ b => Rels.drop n b
theorem Slots.set {v : V} {d : D} (s : Slots K H τ σ) (r : Rel K H v d) (i : Nat) : Slots K H (τ.set i (some d)) (σ.set i (some v)) := by
  refine ⟨by rw [List.length_set, List.length_set]; exact s.1, fun j e h => ?_⟩
  by_cases hj : i = j
  · subst hj
    by_cases hi : i < τ.length
    · rw [List.getElem?_set_self hi] at h
      cases h
      exact ⟨v, by rw [List.getElem?_set_self (by rw [← s.1]; exact hi)], r⟩
    · rw [List.getElem?_eq_none (by rw [List.length_set]; omega)] at h; cases h
  · rw [List.getElem?_set_ne hj] at h
    obtain ⟨v', e', r'⟩ := s.2 j e h
    exact ⟨v', by rw [List.getElem?_set_ne hj]; exact e', r'⟩
/-- objects other than p are as they were: the store but p is borne again -/
theorem MRel.mono (t : Tx H H') {a : Addr} (e : H' a = H a) : ∀ {m : MO}, MRel K H a m → MRel K H' a m
  | .lst _, ⟨vs, h, r⟩ => ⟨vs, e.trans h, Rels.mono t _ _ r⟩
  | .dK _, ⟨vs, h, r⟩ => ⟨vs, e.trans h, RelKV.mono t r⟩
  | .dT _, ⟨vs, h, r⟩ => ⟨vs, e.trans h, RelKV.mono t r⟩
  | .ins _ _ _, ⟨vs, h, r⟩ => ⟨vs, e.trans h, RelKV.mono t r⟩
  | .xd _, ⟨vs, h, r⟩ => ⟨vs, e.trans h, RelKV.mono t r⟩
  | .fT _ _ _, ⟨vs, h, r, z⟩ => ⟨vs, e.trans h, RelKV.mono t r, z⟩
  | .fK _ _ _, ⟨vs, h, r, z⟩ => ⟨vs, e.trans h, RelKV.mono t r, z⟩
  | .fTp _ _, ⟨vs, h, r, z⟩ => ⟨vs, e.trans h, Rels.mono t _ _ r, z⟩
  | .xo _ _, ⟨u, h, r⟩ => ⟨u, e.trans h, r⟩
  | .tab _, ⟨ps, h, z, r⟩ => ⟨ps, e.trans h, z, fun pos cv q => let ⟨c, e1, e2⟩ := r pos cv q; ⟨c, e1, t.c _ _ e2⟩⟩
  | .lam _ _ _ _ _, ⟨z, h, k, r⟩ => ⟨z, e.trans h, t.c _ _ k, Slots.mono t r⟩
/-- a new untracked-by-the-store object -/
theorem tx_new {p : Addr} {o : HO} (n : H p = none) : Tx H (upd H p o) := ⟨fun a xs e => by rw [upd_ne (ne_of_none e n)]; exact e, fun a ob xs e => by rw [upd_ne (ne_of_none e n)]; exact e, fun a q e => by rw [upd_ne (ne_of_none e n)]; exact e⟩
theorem con_new {p : Addr} {o : HO} (n : H p = none) (c : Con K H μ) : Con K (upd H p o) μ := fun a m e => by
  have ha : a ≠ p := fun z => by subst z; rw [c.free n] at e; cases e
  exact (c a m e).mono (tx_new n) (upd_ne ha)
theorem fr_new {p : Addr} {o : HO} (n : H p = none) : Fr μ μ H (upd H p o) := fun a u h e => ⟨by rw [upd_ne (ne_of_none e n)]; exact e, h⟩
/-- .. and in the store -/
theorem con_put {p : Addr} {o : HO} {m : MO} (n : H p = none) (c : Con K H μ) (r : MRel K (upd H p o) p m) : Con K (upd H p o) (μ.set p m) := fun a m' e => by
  by_cases ha : a = p
  · subst ha; rw [set_same] at e; cases e; exact r
  · rw [set_ne ha] at e
    exact (c a m' e).mono (tx_new n) (upd_ne ha)
theorem fr_put {p : Addr} {o : HO} {m : MO} (n : H p = none) : Fr μ (μ.set p m) H (upd H p o) := fun a u h e => by
  have ha : a ≠ p := ne_of_none e n
  exact ⟨by rw [upd_ne ha]; exact e, by rw [set_ne ha]; exact h⟩
/-- an object of the store is changed -/
theorem tx_mut {p : Addr} {o : HO} {m : MO} (c : Con K H μ) (h : μ p = some m) : Tx H (upd H p o) :=
  ⟨fun a xs e => by rw [upd_ne (fun z => by subst z; rw [c.tn e] at h; cases h)]; exact e, fun a ob xs e => by rw [upd_ne (fun z => by subst z; rw [c.fn e] at h; cases h)]; exact e, fun a q e => by rw [upd_ne (fun z => by subst z; rw [c.cn e] at h; cases h)]; exact e⟩
theorem con_mut {p : Addr} {o : HO} {m m' : MO} (c : Con K H μ) (h : μ p = some m) (r : MRel K (upd H p o) p m') : Con K (upd H p o) (μ.set p m') := fun a u e => by
  by_cases ha : a = p
  · subst ha; rw [set_same] at e; cases e; exact r
  · rw [set_ne ha] at e
    exact (c a u e).mono (tx_mut c h) (upd_ne ha)
theorem fr_mut {p : Addr} {o : HO} {m m' : MO} (h : μ p = some m) : Fr μ (μ.set p m') H (upd H p o) := fun a u n e => by
  have ha : a ≠ p := fun z => by subst z; rw [n] at h; cases h
  exact ⟨by rw [upd_ne ha]; exact e, by rw [set_ne ha]; exact n⟩
/-- the store forgotten in part -/
def Sub (μ μ' : M) : Prop := ∀ a m, μ a = some m → μ' a = some m
theorem Sub.refl : Sub μ μ := fun _ _ h => h
theorem Sub.trans (a : Sub μ μ1) (b : Sub μ1 μ2) : Sub μ μ2 := fun x m h => b x m (a x m h)
theorem Sub.set {p : Addr} {m : MO} (h : μ p = none) : Sub μ (μ.set p m) := fun a m' e => by rw [set_ne (fun z => by subst z; rw [h] at e; cases e)]; exact e
theorem Con.sub (s : Sub μ μ') (c : Con K H μ') : Con K H μ := fun a m e => c a m (s a m e)
theorem Sub.none (s : Sub μ μ') {a : Addr} (h : μ' a = Option.none) : μ a = Option.none := by
  cases q : μ a with
  | none => rfl
  | some m => rw [s a m q] at h; cases h
theorem Fr.sub (f : Fr μ μ1 H H1) (s : Sub μ2 μ1) : Fr μ μ2 H H1 := fun a o n e => let ⟨e1, h1⟩ := f a o n e; ⟨e1, s.none h1⟩
end
def AE (K : PySem.W.Frag) (t : TE) (τ : T) (μ : M) (Φ : D → M → Prop) : Prop :=
  ∀ σ H, Slots K H τ σ → Con K H μ → ∀ Q : VK, (∀ d μ' v H', Fr μ μ' H H' → Con K H' μ' → Rel K H' v d → Φ d μ' → Q v H') → t σ H Q
def AA (K : PySem.W.Frag) (t : TA) (τ : T) (μ : M) (Φ : List D → M → Prop) : Prop :=
  ∀ σ H, Slots K H τ σ → Con K H μ → ∀ Q : List V → Hp → Prop, (∀ d μ' v H', Fr μ μ' H H' → Con K H' μ' → Rels K H' v d → Φ d μ' → Q v H') → t σ H Q
def AT (K : PySem.W.Frag) (t : TT) (τ : T) (μ : M) (Φ : Bool → M → Prop) : Prop :=
  ∀ σ H, Slots K H τ σ → Con K H μ → ∀ Q : Bool → Hp → Prop, (∀ b μ' H', Fr μ μ' H H' → Con K H' μ' → Φ b μ' → Q b H') → t σ H Q
structure AEnds where
  nx : T → M → Prop
  rt : D → M → Prop
  bk : T → M → Prop := fun _ _ => False
  ct : T → M → Prop := fun _ _ => False
  /-- what is wished of an exception; what the names of classes stand for; what holds where one is raised -/
  W : WX := fun _ _ _ _ => False
  cn : Str → Option Value := fun _ => none
  xs : Str → Option Addr → T → M → Prop := fun _ _ _ _ => False
/-- the concrete ends that follow from the abstract ones -/
structure EndsOk (K : PySem.W.Frag) (N : AEnds) (μ : M) (H : Hp) (E : Ends) : Prop where
  nx : ∀ τ' μ' σ' H', Fr μ μ' H H' → Con K H' μ' → Slots K H' τ' σ' → N.nx τ' μ' → E.nx σ' H'
  rt : ∀ d μ' v H', Fr μ μ' H H' → Con K H' μ' → Rel K H' v d → N.rt d μ' → E.rt v H'
  bk : ∀ τ' μ' σ' H', Fr μ μ' H H' → Con K H' μ' → Slots K H' τ' σ' → N.bk τ' μ' → E.bk σ' H'
  ct : ∀ τ' μ' σ' H', Fr μ μ' H H' → Con K H' μ' → Slots K H' τ' σ' → N.ct τ' μ' → E.ct σ' H'
  wx : ∀ x dx τ' μ' cls σ' H', N.cn x = some cls → Fr μ μ' H H' → Con K H' μ' → Slots K H' τ' σ' → N.xs x dx τ' μ' → N.W cls dx σ' H'
def AS (K : PySem.W.Frag) (t : TS) (τ : T) (μ : M) (N : AEnds) : Prop :=
  ∀ σ H, Slots K H τ σ → Con K H μ → ∀ E : Ends, EndsOk K N μ H E → t E σ H
/-- a target -/
def AG (K : PySem.W.Frag) (g : TG) (d : D) (τ : T) (μ : M) (Φ : T → M → Prop) : Prop :=
  ∀ σ H v, Slots K H τ σ → Con K H μ → Rel K H v d → ∀ Q : St → Hp → Prop, (∀ τ' μ' σ' H', Fr μ μ' H H' → Con K H' μ' → Slots K H' τ' σ' → Φ τ' μ' → Q σ' H') → g v σ H Q
def AGs (K : PySem.W.Frag) (g : TGs) (ds : List D) (τ : T) (μ : M) (Φ : T → M → Prop) : Prop :=
  ∀ σ H vs, Slots K H τ σ → Con K H μ → Rels K H vs ds → ∀ Q : St → Hp → Prop, (∀ τ' μ' σ' H', Fr μ μ' H H' → Con K H' μ' → Slots K H' τ' σ' → Φ τ' μ' → Q σ' H') → g vs σ H Q
/-- an operation on values -/
def RO (K : PySem.W.Frag) (r : R2) (d e : D) (μ : M) (Φ : D → M → Prop) : Prop :=
  ∀ H x y, Con K H μ → Rel K H x d → Rel K H y e → ∀ Q : VK, (∀ z μ' v H', Fr μ μ' H H' → Con K H' μ' → Rel K H' v z → Φ z μ' → Q v H') → r x y H Q
def RU (K : PySem.W.Frag) (r : V → Hp → VK → Prop) (d : D) (μ : M) (Φ : D → M → Prop) : Prop :=
  ∀ H x, Con K H μ → Rel K H x d → ∀ Q : VK, (∀ z μ' v H', Fr μ μ' H H' → Con K H' μ' → Rel K H' v z → Φ z μ' → Q v H') → r x H Q
def RC (K : PySem.W.Frag) (r : List V → Hp → VK → Prop) (ds : List D) (μ : M) (Φ : D → M → Prop) : Prop :=
  ∀ H xs, Con K H μ → Rels K H xs ds → ∀ Q : VK, (∀ z μ' v H', Fr μ μ' H H' → Con K H' μ' → Rel K H' v z → Φ z μ' → Q v H') → r xs H Q
section
variable {K : PySem.W.Frag} {τ : T} {μ : M} {Φ Ψ : D → M → Prop} {ta tb te : TE} {r : R2} {t u : TT} {x y z d e : D}
theorem AE.imp (h : AE K te τ μ Φ) (k : ∀ d μ', Φ d μ' → Ψ d μ') : AE K te τ μ Ψ := fun σ H s c Q q => h σ H s c Q fun d μ' v H' f c' r p => q d μ' v H' f c' r (k d μ' p)
theorem AT.imp {Φ Ψ : Bool → M → Prop} (h : AT K t τ μ Φ) (k : ∀ d μ', Φ d μ' → Ψ d μ') : AT K t τ μ Ψ := fun σ H s c Q q => h σ H s c Q fun d μ' H' f c' p => q d μ' H' f c' (k d μ' p)
/-- a part of the store is forgotten -/
theorem AE.forget (h : AE K te τ μ fun d μ' => ∃ μ2, Sub μ2 μ' ∧ Φ d μ2) : AE K te τ μ Φ := fun σ H s c Q q => h σ H s c Q fun d μ' v H' f c' r ⟨μ2, sb, p⟩ => q d μ2 v H' (f.sub sb) (c'.sub sb) r p
theorem a_var {i : Nat} (h : τ[i]? = some (some d)) (q : Φ d μ) : AE K (tVar i) τ μ Φ := fun σ H s c Q k => by
  obtain ⟨v, e, r⟩ := s.2 i d h
  exact ⟨v, e, k d μ v H Fr.refl c r q⟩
theorem a_int {n : Int} (q : Φ (.int n) μ) : AE K (tC (.int n)) τ μ Φ := fun σ H s c Q k => k _ μ _ H Fr.refl c (.int n) q
theorem a_bl {n : Bool} (q : Φ (.bl n) μ) : AE K (tC (.bl n)) τ μ Φ := fun σ H s c Q k => k _ μ _ H Fr.refl c (.bl n) q
theorem a_str {n : Str} (q : Φ (.str n) μ) : AE K (tC (.str n)) τ μ Φ := fun σ H s c Q k => k _ μ _ H Fr.refl c (.str n) q
theorem a_non (q : Φ .non μ) : AE K (tC .non) τ μ Φ := fun σ H s c Q k => k _ μ _ H Fr.refl c .non q
theorem a_ty {n : String} (q : Φ (.ty n) μ) : AE K (tC (.ty n)) τ μ Φ := fun σ H s c Q k => k _ μ _ H Fr.refl c (.ty n) q
theorem a_op (h : AE K ta τ μ fun d μ1 => AE K tb τ μ1 fun e μ2 => RO K r d e μ2 Φ) : AE K (tOp r ta tb) τ μ Φ := fun σ H s c Q k =>
  h σ H s c _ fun d μ1 v H1 f1 c1 r1 p1 => p1 σ H1 (s.mono (f1.tx c)) c1 _ fun e μ2 u H2 f2 c2 r2 p2 =>
    p2 H2 v u c2 (Rel.mono (f2.tx c1) _ _ r1) r2 Q fun z μ' w H' f c' rz pz => k z μ' w H' ((f1.trans f2).trans f) c' rz pz
theorem a_un {r : V → Hp → VK → Prop} (h : AE K ta τ μ fun d μ1 => RU K r d μ1 Φ) : AE K (tUn r ta) τ μ Φ := fun σ H s c Q k =>
  h σ H s c _ fun d μ1 v H1 f1 c1 r1 p1 => p1 H1 v c1 r1 Q fun z μ' w H' f c' rz pz => k z μ' w H' (f1.trans f) c' rz pz
theorem aa_nil {Φ : List D → M → Prop} (q : Φ [] μ) : AA K tNil τ μ Φ := fun σ H s c Q k => k _ μ _ H Fr.refl c .nil q
theorem aa_cons {Φ : List D → M → Prop} {tr : TA} (h : AE K ta τ μ fun d μ1 => AA K tr τ μ1 fun ds μ2 => Φ (d :: ds) μ2) : AA K (tCons ta tr) τ μ Φ := fun σ H s c Q k =>
  h σ H s c _ fun d μ1 v H1 f1 c1 r1 p1 => p1 σ H1 (s.mono (f1.tx c)) c1 _ fun ds μ2 us H2 f2 c2 r2 p2 => k _ μ2 _ H2 (f1.trans f2) c2 (.cons (Rel.mono (f2.tx c1) _ _ r1) r2) p2
theorem a_tup {ta : TA} (h : AA K ta τ μ fun ds μ1 => ds.length ≤ sizeLine ∧ Φ (.tup ds) μ1) : AE K (tTup ta) τ μ Φ := fun σ H s c Q k =>
  h σ H s c _ fun ds μ1 vs H1 f1 c1 r1 ⟨hz, p1⟩ => ⟨by rw [r1.length]; exact hz, fun p hp => k _ μ1 _ _ (f1.trans (fr_new hp)) (con_new hp c1) (.tup (.inl upd_same) (Rels.mono (tx_new hp) _ _ r1)) p1⟩
theorem a_lst {ta : TA} (h : AA K ta τ μ fun ds μ1 => ds.length ≤ sizeLine ∧ ∀ p, μ1 p = none → Φ (.ref p) (μ1.set p (.lst ds))) : AE K (tLst ta) τ μ Φ := fun σ H s c Q k =>
  h σ H s c _ fun ds μ1 vs H1 f1 c1 r1 ⟨hz, p1⟩ => ⟨by rw [r1.length]; exact hz, fun p hp => k _ _ _ _ (f1.trans (fr_put hp)) (con_put (m := .lst ds) hp c1 ⟨vs, upd_same, Rels.mono (tx_new hp) _ _ r1⟩) (.ref p) (p1 p (c1.free hp))⟩
theorem a_cb {r : List V → Hp → VK → Prop} {ta : TA} (h : AA K ta τ μ fun ds μ1 => RC K r ds μ1 Φ) : AE K (tCB r ta) τ μ Φ := fun σ H s c Q k =>
  h σ H s c _ fun ds μ1 vs H1 f1 c1 r1 p1 => p1 H1 vs c1 r1 Q fun z μ' w H' f c' rz pz => k z μ' w H' (f1.trans f) c' rz pz
theorem a_if (h : AT K t τ μ fun b μ1 => if b = true then AE K ta τ μ1 Φ else AE K tb τ μ1 Φ) : AE K (tIf t ta tb) τ μ Φ := fun σ H s c Q k =>
  h σ H s c _ fun b μ1 H1 f1 c1 p1 => by
    cases b with
    | true => exact (show AE K ta τ μ1 Φ from p1) σ H1 (s.mono (f1.tx c)) c1 Q fun z μ' w H' f c' rz pz => k z μ' w H' (f1.trans f) c' rz pz
    | false => exact (show AE K tb τ μ1 Φ from p1) σ H1 (s.mono (f1.tx c)) c1 Q fun z μ' w H' f c' rz pz => k z μ' w H' (f1.trans f) c' rz pz
theorem a_andV (h : AE K ta τ μ fun d μ1 => ∃ b, d = .bl b ∧ if b = true then AE K tb τ μ1 Φ else Φ (.bl false) μ1) : AE K (tAndV ta tb) τ μ Φ := fun σ H s c Q k =>
  h σ H s c _ fun d μ1 v H1 f1 c1 r1 ⟨b, e, p1⟩ => by
    subst e
    cases r1
    refine ⟨b, rfl, ?_⟩
    cases b with
    | true => exact (show AE K tb τ μ1 Φ from p1) σ H1 (s.mono (f1.tx c)) c1 Q fun z μ' w H' f c' rz pz => k z μ' w H' (f1.trans f) c' rz pz
    | false => exact k _ μ1 _ H1 f1 c1 (.bl false) (show Φ (.bl false) μ1 from p1)
theorem a_orV (h : AE K ta τ μ fun d μ1 => ∃ b, d = .bl b ∧ if b = true then Φ (.bl true) μ1 else AE K tb τ μ1 Φ) : AE K (tOrV ta tb) τ μ Φ := fun σ H s c Q k =>
  h σ H s c _ fun d μ1 v H1 f1 c1 r1 ⟨b, e, p1⟩ => by
    subst e
    cases r1
    refine ⟨b, rfl, ?_⟩
    cases b with
    | true => exact k _ μ1 _ H1 f1 c1 (.bl true) (show Φ (.bl true) μ1 from p1)
    | false => exact (show AE K tb τ μ1 Φ from p1) σ H1 (s.mono (f1.tx c)) c1 Q fun z μ' w H' f c' rz pz => k z μ' w H' (f1.trans f) c' rz pz
theorem a_notV (h : AE K ta τ μ fun d μ1 => ∃ b, d = .bl b ∧ Φ (.bl (!b)) μ1) : AE K (tNotV ta) τ μ Φ := fun σ H s c Q k =>
  h σ H s c _ fun d μ1 v H1 f1 c1 r1 ⟨b, e, p1⟩ => by
    subst e
    cases r1
    exact ⟨b, rfl, k _ μ1 _ H1 f1 c1 (.bl _) p1⟩
variable {Θ : Bool → M → Prop}
theorem at_test (h : AE K te τ μ fun d μ1 => ∃ b, d = .bl b ∧ Θ b μ1) : AT K (tTest te) τ μ Θ := fun σ H s c Q k =>
  h σ H s c _ fun d μ1 v H1 f1 c1 r1 ⟨b, e, p1⟩ => by
    subst e
    cases r1
    exact ⟨b, rfl, k b μ1 H1 f1 c1 p1⟩
theorem at_B (h : AE K te τ μ fun d μ1 => ∃ b, d = .bl b ∧ Θ b μ1) : AT K (tB te) τ μ Θ := fun σ H s c Q k =>
  h σ H s c _ fun d μ1 v H1 f1 c1 r1 ⟨b, e, p1⟩ => by
    subst e
    cases r1
    exact ⟨b, rfl, k b μ1 H1 f1 c1 p1⟩
theorem at_and (h : AT K t τ μ fun b μ1 => if b = true then AT K u τ μ1 Θ else Θ false μ1) : AT K (tAnd t u) τ μ Θ := fun σ H s c Q k =>
  h σ H s c _ fun b μ1 H1 f1 c1 p1 => by
    cases b with
    | true => exact (show AT K u τ μ1 Θ from p1) σ H1 (s.mono (f1.tx c)) c1 Q fun z μ' H' f c' pz => k z μ' H' (f1.trans f) c' pz
    | false => exact k false μ1 H1 f1 c1 (show Θ false μ1 from p1)
theorem at_or (h : AT K t τ μ fun b μ1 => if b = true then Θ true μ1 else AT K u τ μ1 Θ) : AT K (tOr t u) τ μ Θ := fun σ H s c Q k =>
  h σ H s c _ fun b μ1 H1 f1 c1 p1 => by
    cases b with
    | true => exact k true μ1 H1 f1 c1 (show Θ true μ1 from p1)
    | false => exact (show AT K u τ μ1 Θ from p1) σ H1 (s.mono (f1.tx c)) c1 Q fun z μ' H' f c' pz => k z μ' H' (f1.trans f) c' pz
theorem at_not (h : AT K t τ μ fun b μ1 => Θ (!b) μ1) : AT K (tNot t) τ μ Θ := fun σ H s c Q k => h σ H s c _ fun b μ1 H1 f1 c1 p1 => k (!b) μ1 H1 f1 c1 p1
end
end Z
namespace Z
open PySem L2
section
variable {K : PySem.W.Frag} {τ : T} {μ μ1 μ2 : M} {H H1 H2 : Hp} {σ : L2.St} {Φ Ψ : D → M → Prop} {ta tb tc te : TE} {r r' : R2} {t u : TT} {x y z d e : D} {N : AEnds} {ts us : TS} {g : TG} {D0 E : Ends}
theorem EndsOk.step {μ' : M} {H' : Hp} (k : EndsOk K N μ H E) (f : Fr μ μ' H H') : EndsOk K N μ' H' E :=
  ⟨fun a b c d' f' => k.nx a b c d' (f.trans f'), fun a b c d' f' => k.rt a b c d' (f.trans f'), fun a b c d' f' => k.bk a b c d' (f.trans f'), fun a b c d' f' => k.ct a b c d' (f.trans f'), fun x1 x2 x3 x4 x5 x6 x7 x8 f' => k.wx x1 x2 x3 x4 x5 x6 x7 x8 (f.trans f')⟩
theorem s_seq (h : AS K ts τ μ { N with nx := fun τ' μ' => AS K us τ' μ' N }) : AS K (tSeq ts us) τ μ N := fun σ H s c E k =>
  h σ H s c _ ⟨fun τ' μ' σ' H' f c' s' p => p σ' H' s' c' E (k.step f), k.rt, k.bk, k.ct, k.wx⟩
theorem s_next (h : N.nx τ μ) : AS K tNext τ μ N := fun σ H s c E k => k.nx τ μ σ H Fr.refl c s h
theorem s_drop (h : AE K te τ μ fun _ μ' => N.nx τ μ') : AS K (tDrop te) τ μ N := fun σ H s c E k =>
  h σ H s c _ fun d μ' v H' f c' r p => k.nx τ μ' σ H' f c' (s.mono (f.tx c)) p
theorem s_ret (h : AE K te τ μ N.rt) : AS K (tRet te) τ μ N := fun σ H s c E k => h σ H s c _ fun d μ' v H' f c' r p => k.rt d μ' v H' f c' r p
theorem s_retN (h : N.rt .non μ) : AS K tRetN τ μ N := fun σ H s c E k => k.rt .non μ .non H Fr.refl c .non h
theorem s_if (h : AT K t τ μ fun b μ' => if b = true then AS K ts τ μ' N else AS K us τ μ' N) : AS K (tIfS t ts us) τ μ N := fun σ H s c E k =>
  h σ H s c _ fun b μ' H' f c' p => by
    cases b with
    | true => exact (show AS K ts τ μ' N from p) σ H' (s.mono (f.tx c)) c' E (k.step f)
    | false => exact (show AS K us τ μ' N from p) σ H' (s.mono (f.tx c)) c' E (k.step f)
theorem s_asg (h : AE K te τ μ fun d μ' => AG K g d τ μ' N.nx) : AS K (tAsg te g) τ μ N := fun σ H s c E k =>
  h σ H s c _ fun d μ' v H' f c' r p => p σ H' v (s.mono (f.tx c)) c' r _ fun τ2 μ2 σ2 H2 f2 c2 s2 q => k.nx τ2 μ2 σ2 H2 (f.trans f2) c2 s2 q
theorem g_name {i : Nat} {Θ : T → M → Prop} (h : Θ (τ.set i (some d)) μ) : AG K (gName i) d τ μ Θ := fun σ H v s c r Q k => k _ μ _ H Fr.refl c (s.set r i) h
theorem gs_nil {Θ : T → M → Prop} (h : Θ τ μ) : AGs K gNil [] τ μ Θ := fun σ H vs s c r Q k => by
  cases r
  exact ⟨rfl, k τ μ σ H Fr.refl c s h⟩
theorem gs_cons {gs : TGs} {ds : List D} {Θ : T → M → Prop} (h : AG K g d τ μ fun τ' μ' => AGs K gs ds τ' μ' Θ) : AGs K (gCons g gs) (d :: ds) τ μ Θ := fun σ H vs s c r Q k => by
  cases r with
  | cons r1 r2 =>
    rename_i v vs'
    exact ⟨v, vs', rfl, h σ H v s c r1 _ fun τ' μ' σ' H' f c' s' p => p σ' H' vs' s' c' (Rels.mono (f.tx c) _ _ r2) Q fun τ2 μ2 σ2 H2 f2 c2 s2 q => k τ2 μ2 σ2 H2 (f.trans f2) c2 s2 q⟩
theorem g_tup {n : Nat} {gs : TGs} {ds : List D} {Θ : T → M → Prop} (hn : ds.length = n) (h : AGs K gs ds τ μ Θ) : AG K (gTup K n gs) (.tup ds) τ μ Θ := fun σ H v s c r Q k => by
  cases r with
  | tup ht hr => exact ⟨_, _, rfl, ht.sq, by rw [hr.length]; exact hn, h σ H _ s c hr Q k⟩
/-- o[i] = v -/
def ASet (K : PySem.W.Frag) (t : TSet) (o i d : D) (μ : M) (Θ : M → Prop) : Prop :=
  ∀ H a b v, Con K H μ → Rel K H a o → Rel K H b i → Rel K H v d → ∀ Q : Hp → Prop, (∀ μ' H', Fr μ μ' H H' → Con K H' μ' → Θ μ' → Q H') → t a b v H Q
theorem g_sub {to ti : TE} {tset : TSet} {Θ : T → M → Prop} (h : AE K to τ μ fun o μ1 => AE K ti τ μ1 fun i μ2 => ASet K tset o i d μ2 fun μ3 => Θ τ μ3) : AG K (gSub to ti tset) d τ μ Θ := fun σ H v s c r Q k =>
  h σ H s c _ fun o μ1 a H1 f1 c1 r1 p1 => p1 σ H1 (s.mono (f1.tx c)) c1 _ fun i μ2 b H2 f2 c2 r2 p2 =>
    p2 H2 a b v c2 (Rel.mono (f2.tx c1) _ _ r1) r2 (Rel.mono ((f1.trans f2).tx c) _ _ r) _ fun μ3 H3 f3 c3 p3 => k τ μ3 σ H3 ((f1.trans f2).trans f3) c3 (s.mono (((f1.trans f2).trans f3).tx c)) p3
theorem s_par {i j : Nat} {ta : TA} (h : AA K ta τ μ fun ds μ' => ∃ d e, ds = [d, e] ∧ N.nx ((τ.set i (some d)).set j (some e)) μ') : AS K (tPar i j ta) τ μ N := fun σ H s c E k =>
  h σ H s c _ fun ds μ' vs H' f c' r ⟨d, e, q, p⟩ => by
    subst q
    cases r with
    | cons r1 r2 =>
      cases r2 with
      | cons r2 r3 =>
        cases r3
        exact ⟨_, _, rfl, k.nx _ μ' _ H' f c' (((s.mono (f.tx c)).set r1 i).set r2 j) p⟩
/-- a op= b, by values -/
theorem s_aug {i : Nat} {ti : TIp} (hx : τ[i]? = some (some d)) (h : AE K te τ μ fun e μ1 => RO K ti d e μ1 fun z μ2 => N.nx (τ.set i (some z)) μ2) : AS K (tAug i te ti) τ μ N := fun σ H s c E k => by
  obtain ⟨v, e1, r1⟩ := s.2 i d hx
  exact ⟨v, e1, h σ H s c _ fun e μ1 u H1 f1 c1 r2 p1 => p1 H1 v u c1 (Rel.mono (f1.tx c) _ _ r1) r2 _ fun z μ2 w H2 f2 c2 rz p2 =>
    k.nx _ μ2 _ H2 (f1.trans f2) c2 ((s.mono ((f1.trans f2).tx c)).set rz i) p2⟩
theorem AS.imp {nx' bk' ct' : T → M → Prop} {rt' : D → M → Prop} (h : AS K ts τ μ N) (h1 : ∀ a b, N.nx a b → nx' a b) (h2 : ∀ a b, N.rt a b → rt' a b) (h3 : ∀ a b, N.bk a b → bk' a b) (h4 : ∀ a b, N.ct a b → ct' a b) : AS K ts τ μ { N with nx := nx', rt := rt', bk := bk', ct := ct' } := fun σ H s c E q =>
  h σ H s c E ⟨fun a b c' d' f x y p => q.nx a b c' d' f x y (h1 _ _ p), fun a b c' d' f x y p => q.rt a b c' d' f x y (h2 _ _ p), fun a b c' d' f x y p => q.bk a b c' d' f x y (h3 _ _ p), fun a b c' d' f x y p => q.ct a b c' d' f x y (h4 _ _ p), q.wx⟩
/-- the ends of a turn -/
def turnE (N : AEnds) (P : T → M → Prop) : AEnds := { N with nx := P, ct := P, bk := N.nx }
theorem turn_ok {μ0 : M} {H0 : Hp} {P : T → M → Prop} {Pc : L2.St → Hp → Prop} (k : EndsOk K N μ0 H0 E) (f : Fr μ0 μ H0 H) (hp : ∀ τ' μ' σ' H', Fr μ0 μ' H0 H' → Con K H' μ' → Slots K H' τ' σ' → P τ' μ' → Pc σ' H') :
    EndsOk K (turnE N P) μ H { E with nx := Pc, ct := Pc, bk := E.nx } :=
  ⟨fun τ' μ' σ' H' f' c s p => hp τ' μ' σ' H' (f.trans f') c s p, fun d' μ' v H' f' => k.rt d' μ' v H' (f.trans f'), fun τ' μ' σ' H' f' => k.nx τ' μ' σ' H' (f.trans f'), fun τ' μ' σ' H' f' c s p => hp τ' μ' σ' H' (f.trans f') c s p, fun x1 x2 x3 x4 x5 x6 x7 x8 f' => k.wx x1 x2 x3 x4 x5 x6 x7 x8 (f.trans f')⟩
/-- the list a is set aside while it is walked -/
def M.del (μ : M) (a : Addr) : M := fun b => if b = a then none else μ b
theorem del_same {a : Addr} : μ.del a a = none := by unfold M.del; rw [if_pos rfl]
theorem del_ne {a b : Addr} (h : b ≠ a) : μ.del a b = μ b := by unfold M.del; rw [if_neg h]
theorem del_sub {a : Addr} : Sub (μ.del a) μ := fun b m e => by
  by_cases h : b = a
  · subst h; rw [del_same] at e; cases e
  · rw [del_ne h] at e; exact e
theorem fr_back {μ0 μ' : M} {H0 H' : Hp} {a : Addr} {m m' : MO} (ha : μ1 a = some m) (f1 : Fr μ0 μ1 H0 H1) (f : Fr (μ1.del a) μ' H1 H') : Fr μ0 (μ'.set a m') H0 H' := fun x o n e => by
  obtain ⟨e1, n1⟩ := f1 x o n e
  have hx : x ≠ a := fun z => by subst z; rw [n1] at ha; cases ha
  obtain ⟨e2, n2⟩ := f x o (by rw [del_ne hx]; exact n1) e1
  exact ⟨e2, by rw [set_ne hx]; exact n2⟩
theorem con_back {μ' : M} {a : Addr} {m : MO} (c : Con K H μ') (r : MRel K H a m) : Con K H (μ'.set a m) := fun x u e => by
  by_cases hx : x = a
  · subst hx; rw [set_same] at e; cases e; exact r
  · rw [set_ne hx] at e; exact c x u e
/-- for over a range -/
theorem s_forN {wi : TI} {lo : Int} {n : Nat} {tb : TS} (P : Nat → T → M → Prop) (hw : ∀ σ H, Slots K H τ σ → Con K H μ → ∀ R : It → Hp → Prop, (∀ μ1 H1, Fr μ μ1 H H1 → Con K H1 μ1 → P 0 τ μ1 → R (Itr lo n) H1) → wi σ H R)
    (hs : ∀ (i : Nat) τ' μ', i < n → P i τ' μ' → AG K g (.int (lo + i)) τ' μ' fun τ2 μ2 => AS K tb τ2 μ2 (turnE N (P (i + 1)))) (hd : ∀ τ' μ', P n τ' μ' → N.nx τ' μ') : AS K (tFor wi g tb) τ μ N := fun σ H s c E k =>
  hw σ H s c _ fun μ1 H1 f1 c1 p0 => by
    refine for_range (lo := lo) (n := n) (fun i σ' H' => ∃ τ' μ', Fr μ μ' H H' ∧ Con K H' μ' ∧ Slots K H' τ' σ' ∧ P i τ' μ') ⟨τ, μ1, f1, c1, s.mono (f1.tx c), p0⟩ ?_ ?_
    · rintro i σ' H' hi ⟨τ', μ', f, c', s', p⟩
      refine hs i τ' μ' hi p σ' H' _ s' c' (.int _) _ fun τ2 μ2 σ2 H2 f2 c2 s2 q => ?_
      exact q σ2 H2 s2 c2 _ (turn_ok (k.step f) f2 fun τ3 μ3 σ3 H3 f3 c3 s3 p3 => ⟨τ3, μ3, f.trans f3, c3, s3, p3⟩)
    · rintro σ' H' ⟨τ', μ', f, c', s', p⟩
      exact k.nx τ' μ' σ' H' f c' s' (hd τ' μ' p)
theorem s_for1 {ta : TA} {tb : TS} (n : Int) (P : Nat → T → M → Prop) (h : AA K ta τ μ fun ds μ1 => ds = [.int n] ∧ -(2 ^ 62) ≤ n ∧ n < 2 ^ 62 ∧ P 0 τ μ1)
    (hs : ∀ (i : Nat) τ' μ', (i : Int) < n → P i τ' μ' → AG K g (.int i) τ' μ' fun τ2 μ2 => AS K tb τ2 μ2 (turnE N (P (i + 1)))) (hd : ∀ τ' μ', P n.toNat τ' μ' → N.nx τ' μ') : AS K (tFor (iRng1 ta) g tb) τ μ N := by
  refine s_forN (lo := 0) (n := n.toNat) P (fun σ H s c R k => h σ H s c _ fun ds μ1 vs H1 f1 c1 r1 ⟨e, h1, h2, p⟩ => ?_) (fun i τ' μ' hi p => ?_) hd
  · subst e
    cases r1 with
    | cons r rr =>
      cases r
      cases rr
      exact ⟨n, rfl, h1, h2, k μ1 H1 f1 c1 p⟩
  · rw [Int.zero_add]
    exact hs i τ' μ' (by omega) p
end
end Z
namespace Z
open PySem L2
def seqD (μ : M) : D → Option (List D)
  | .tup ds => some ds
  | .rol ds => some ds
  | .ref a => match μ a with
    | some (.lst ds) => some ds
    | _ => none
  | _ => none
section
variable {K : PySem.W.Frag} {τ : T} {μ μ1 μ2 : M} {H H1 H2 : Hp} {σ : L2.St} {Φ Ψ : D → M → Prop} {ta tb tc te : TE} {r r' : R2} {t u : TT} {x y z d e : D} {N : AEnds} {ts us : TS}
theorem seq_of {v : V} {ds : List D} (c : Con K H μ) (r : Rel K H v d) (h : seqD μ d = some ds) : ∃ a xs, v = .ref a ∧ (SqL K H a xs ∨ SqT K H a xs) ∧ Rels K H xs ds := by
  cases r with
  | tup ht hr => cases h; exact ⟨_, _, rfl, .inr ht.sq, hr⟩
  | rol ht hr => cases h; exact ⟨_, _, rfl, .inl ht.sq, hr⟩
  | ref a =>
    unfold seqD at h
    simp only at h
    split at h
    · rename_i ds' e
      cases h
      obtain ⟨xs, h1, h2⟩ := c _ _ e
      exact ⟨_, xs, rfl, .inl (SqL.of h1), h2⟩
    · cases h
  | non => cases h
  | bl => cases h
  | int => cases h
  | str => cases h
  | ty => cases h
theorem ro_i {f : Int → Int → Int} {i j : Int} (q : Φ (.int (f i j)) μ) : RO K (rI0 fun i j => V.int (f i j)) (.int i) (.int j) μ Φ := fun H x y c r1 r2 Q k => by
  cases r1; cases r2
  exact ⟨i, j, rfl, rfl, k _ μ _ H Fr.refl c (.int _) q⟩
theorem ro_b {f : Int → Int → Bool} {i j : Int} (q : Φ (.bl (f i j)) μ) : RO K (rI0 fun i j => V.bl (f i j)) (.int i) (.int j) μ Φ := fun H x y c r1 r2 Q k => by
  cases r1; cases r2
  exact ⟨i, j, rfl, rfl, k _ μ _ H Fr.refl c (.bl _) q⟩
theorem ro_c {C : Int → Int → Prop} {f : Int → Int → Int} {i j : Int} (hc : C i j) (q : Φ (.int (f i j)) μ) : RO K (rI C fun i j => V.int (f i j)) (.int i) (.int j) μ Φ := fun H x y c r1 r2 Q k => by
  cases r1; cases r2
  exact ⟨i, j, rfl, rfl, hc, k _ μ _ H Fr.refl c (.int _) q⟩
theorem ru_i {f : Int → Int} {i : Int} (q : Φ (.int (f i)) μ) : RU K (rU fun i => V.int (f i)) (.int i) μ Φ := fun H x c r1 Q k => by
  cases r1
  exact ⟨i, rfl, k _ μ _ H Fr.refl c (.int _) q⟩
theorem at_len {xs : List V} {ds : List D} {i : Int} {d : D} (r : Rels K H xs ds) (h : atI ds i = some d) : ∃ v, atI xs i = some v ∧ Rel K H v d := by
  unfold atI at h ⊢
  rw [r.length]
  cases e : ixN ds.length i with
  | none => rw [e] at h; cases h
  | some j =>
    rw [e] at h
    exact r.get h
theorem ro_ix {ds : List D} {i : Int} (hs : seqD μ d = some ds) (hi : atI ds i = some e) (q : Φ e μ) : RO K (rIx K) d (.int i) μ Φ := fun H x y c r1 r2 Q k => by
  cases r2
  obtain ⟨a, xs, rfl, hq, hr⟩ := seq_of c r1 hs
  obtain ⟨v, hv, rv⟩ := at_len hr hi
  rcases hq with hq | hq
  · exact .inl ⟨a, xs, i, v, rfl, rfl, hq, hv, k e μ v H Fr.refl c rv q⟩
  · exact .inr (.inl ⟨a, xs, i, v, rfl, rfl, hq, hv, k e μ v H Fr.refl c rv q⟩)
theorem ro_ixS {s : Str} {i : Int} {n : Nat} (hz : s.length ≤ sizeLine) (hi : atI s.cps.toList i = some n) (q : Φ (.str ⟨#[n]⟩) μ) : RO K (rIx K) (.str s) (.int i) μ Φ := fun H x y c r1 r2 Q k => by
  cases r1; cases r2
  exact .inr (.inr ⟨s, i, n, rfl, rfl, hz, hi, k _ μ _ H Fr.refl c (.str _) q⟩)
theorem set_lst {a : Addr} {ds : List D} {i : Int} {j : Nat} {Θ : M → Prop} (h : μ a = some (.lst ds)) (hi : ixN ds.length i = some j) (q : Θ (μ.set a (.lst (ds.set j d)))) : ASet K rSetL (.ref a) (.int i) d μ Θ := fun H x y v c r1 r2 r3 Q k => by
  cases r1; cases r2
  obtain ⟨xs, hx, hr⟩ := c a _ h
  exact ⟨a, xs, i, j, rfl, rfl, hx, by rw [hr.length]; exact hi, k _ _ (fr_mut h) (con_mut (m' := .lst (ds.set j d)) c h ⟨_, upd_same, Rels.mono (tx_mut c h) _ _ (Rels.set r3 j hr)⟩) q⟩
mutual
def D.py : D → PyData
  | .bl b => .bool b
  | .int i => .int i
  | .str s => .str s
  | .tup ds => .tuple (D.pys ds)
  | _ => .none
def D.pys : List D → List PyData
  | [] => []
  | d :: ds => D.py d :: D.pys ds
end
mutual
/-- None, truths, ints, texts and tuples of them -/
def D.plain : D → Bool
  | .non => true
  | .bl _ => true
  | .int _ => true
  | .str _ => true
  | .tup ds => D.plains ds
  | _ => false
def D.plains : List D → Bool
  | [] => true
  | d :: ds => D.plain d && D.plains ds
end
mutual
theorem Rel.dp : ∀ (d : D) (v : V), Rel K H v d → D.plain d = true → Dp K H v (D.py d)
  | .non, _, .non, _ => by simp only [D.py]; exact .non
  | .bl _, _, .bl b, _ => by simp only [D.py]; exact .bl b
  | .int _, _, .int b, _ => by simp only [D.py]; exact .int b
  | .str _, _, .str b, _ => by simp only [D.py]; exact .str b
  | .tup ds, _, .tup h r, p => by simp only [D.py]; exact .tup h.sq (Rels.dp ds _ r (by simpa only [D.plain] using p))
  | .ty _, _, _, p => by simp [D.plain] at p
  | .ref _, _, _, p => by simp [D.plain] at p
  | .rol _, _, _, p => by simp [D.plain] at p
theorem Rels.dp : ∀ (ds : List D) (vs : List V), Rels K H vs ds → D.plains ds = true → DpAll K H vs (D.pys ds)
  | [], _, .nil, _ => by simp only [D.pys]; exact .nil
  | d :: ds, _, .cons a b, p => by
    simp only [D.plains, Bool.and_eq_true] at p
    simp only [D.pys]
    exact .cons (Rel.dp d _ a p.1) (Rels.dp ds _ b p.2)
end
/-- plain and not too deep -/
def D.ok (d : D) : Bool := D.plain d && SeqAt.shaped (D.py d)
def D.eqv (d e : D) : Bool := PyData.eqv (D.py d) (D.py e)
theorem ro_eqD (h1 : D.ok d = true) (h2 : D.ok e = true) (q : Φ (.bl (D.eqv d e)) μ) : RO K (rEqD K) d e μ Φ := fun H x y c r1 r2 Q k => by
  unfold D.ok at h1 h2
  rw [Bool.and_eq_true] at h1 h2
  exact ⟨_, _, Rel.dp _ _ r1 h1.1, Rel.dp _ _ r2 h2.1, h1.2, h2.2, k _ μ _ H Fr.refl c (.bl _) q⟩
theorem ro_neD (h1 : D.ok d = true) (h2 : D.ok e = true) (q : Φ (.bl (!D.eqv d e)) μ) : RO K (rNeD K) d e μ Φ := fun H x y c r1 r2 Q k => by
  unfold D.ok at h1 h2
  rw [Bool.and_eq_true] at h1 h2
  exact ⟨_, _, Rel.dp _ _ r1 h1.1, Rel.dp _ _ r2 h2.1, h1.2, h2.2, k _ μ _ H Fr.refl c (.bl _) q⟩
theorem ro_eqI {i j : Int} (q : Φ (.bl (decide (i = j))) μ) : RO K rEq (.int i) (.int j) μ Φ := fun H x y c r1 r2 Q k => by
  cases r1; cases r2
  refine ⟨rfl, ?_⟩
  have e : decide (V.int i = V.int j) = decide (i = j) := by simp
  rw [e]
  exact k _ μ _ H Fr.refl c (.bl _) q
theorem ro_neI {i j : Int} (q : Φ (.bl (!decide (i = j))) μ) : RO K rNe (.int i) (.int j) μ Φ := fun H x y c r1 r2 Q k => by
  cases r1; cases r2
  refine ⟨rfl, ?_⟩
  have e : decide (V.int i = V.int j) = decide (i = j) := by simp
  rw [e]
  exact k _ μ _ H Fr.refl c (.bl _) q
theorem ro_eqB {i j : Bool} (q : Φ (.bl (decide (i = j))) μ) : RO K rEq (.bl i) (.bl j) μ Φ := fun H x y c r1 r2 Q k => by
  cases r1; cases r2
  refine ⟨rfl, ?_⟩
  have e : decide (V.bl i = V.bl j) = decide (i = j) := by simp
  rw [e]
  exact k _ μ _ H Fr.refl c (.bl _) q
theorem ro_neB {i j : Bool} (q : Φ (.bl (!decide (i = j))) μ) : RO K rNe (.bl i) (.bl j) μ Φ := fun H x y c r1 r2 Q k => by
  cases r1; cases r2
  refine ⟨rfl, ?_⟩
  have e : decide (V.bl i = V.bl j) = decide (i = j) := by simp
  rw [e]
  exact k _ μ _ H Fr.refl c (.bl _) q
theorem ro_eqS {i j : Str} (q : Φ (.bl (decide (i = j))) μ) : RO K rEq (.str i) (.str j) μ Φ := fun H x y c r1 r2 Q k => by
  cases r1; cases r2
  refine ⟨rfl, ?_⟩
  have e : decide (V.str i = V.str j) = decide (i = j) := by simp
  rw [e]
  exact k _ μ _ H Fr.refl c (.bl _) q
theorem rc_abs {i : Int} (q : Φ (.int (if i < 0 then -i else i)) μ) : RC K (fun xs H Q => ∃ i, xs = [V.int i] ∧ Q (.int (if i < 0 then -i else i)) H) [.int i] μ Φ := fun H xs c r1 Q k => by
  cases r1 with
  | cons a b => cases a; cases b; exact ⟨i, rfl, k _ μ _ H Fr.refl c (.int _) q⟩
theorem rc_max {i j : Int} (q : Φ (.int (if j > i then j else i)) μ) : RC K (fun xs H Q => ∃ i j, xs = [V.int i, V.int j] ∧ Q (.int (if j > i then j else i)) H) [.int i, .int j] μ Φ := fun H xs c r1 Q k => by
  cases r1 with
  | cons a b => cases a; cases b with
    | cons a b => cases a; cases b; exact ⟨i, j, rfl, k _ μ _ H Fr.refl c (.int _) q⟩
theorem rc_min {i j : Int} (q : Φ (.int (if j < i then j else i)) μ) : RC K (fun xs H Q => ∃ i j, xs = [V.int i, V.int j] ∧ Q (.int (if j < i then j else i)) H) [.int i, .int j] μ Φ := fun H xs c r1 Q k => by
  cases r1 with
  | cons a b => cases a; cases b with
    | cons a b => cases a; cases b; exact ⟨i, j, rfl, k _ μ _ H Fr.refl c (.int _) q⟩
theorem rc_intB {b : Bool} (q : Φ (.int (if b then 1 else 0)) μ) : RC K (fun xs H Q => (∃ i, xs = [V.int i] ∧ Q (.int i) H) ∨ ∃ k, xs = [V.bl k] ∧ Q (.int (if k then 1 else 0)) H) [.bl b] μ Φ := fun H xs c r1 Q k => by
  cases r1 with
  | cons a b => cases a; cases b; exact .inr ⟨_, rfl, k _ μ _ H Fr.refl c (.int _) q⟩
theorem rc_intI {b : Int} (q : Φ (.int b) μ) : RC K (fun xs H Q => (∃ i, xs = [V.int i] ∧ Q (.int i) H) ∨ ∃ k, xs = [V.bl k] ∧ Q (.int (if k then 1 else 0)) H) [.int b] μ Φ := fun H xs c r1 Q k => by
  cases r1 with
  | cons a b => cases a; cases b; exact .inl ⟨_, rfl, k _ μ _ H Fr.refl c (.int _) q⟩
theorem rc_len {ds : List D} (h : seqD μ d = some ds) (q : Φ (.int ds.length) μ) : RC K (fun xs H Q => ∃ x n, xs = [x] ∧ LenV K x H n ∧ Q (.int n) H) [d] μ Φ := fun H xs c r1 Q k => by
  cases r1 with
  | cons a b =>
    cases b
    obtain ⟨p, xs, rfl, hq, hr⟩ := seq_of c a h
    refine ⟨_, ds.length, rfl, ?_, k _ μ _ H Fr.refl c (.int _) q⟩
    rcases hq with hq | hq
    · exact .inl ⟨xs, hq, hr.length.symm⟩
    · exact .inr ⟨xs, hq, hr.length.symm⟩
theorem rc_lenS {s : Str} (h : s.length ≤ sizeLine) (q : Φ (.int s.length) μ) : RC K (fun xs H Q => ∃ x n, xs = [x] ∧ LenV K x H n ∧ Q (.int n) H) [.str s] μ Φ := fun H xs c r1 Q k => by
  cases r1 with
  | cons a b => cases a; cases b; exact ⟨_, _, rfl, ⟨h, rfl⟩, k _ μ _ H Fr.refl c (.int _) q⟩
theorem rc_tuple {ds : List D} (h : seqD μ d = some ds) (q : Φ (.tup ds) μ) : RC K (fun xs H Q => ∃ p ys, xs = [V.ref p] ∧ ((SqL K H p ys ∧ ∀ l, H l = none → Q (.ref l) (upd H l (.tup ys))) ∨ (SqT K H p ys ∧ Q (.ref p) H))) [d] μ Φ := fun H xs c r1 Q k => by
  cases r1 with
  | cons a b =>
    cases b
    cases a with
    | tup ht hr =>
      cases h
      exact ⟨_, _, rfl, .inr ⟨ht.sq, k _ μ _ H Fr.refl c (.tup ht hr) q⟩⟩
    | rol ht hr =>
      cases h
      exact ⟨_, _, rfl, .inl ⟨ht.sq, fun l hl => k _ μ _ _ (fr_new hl) (con_new hl c) (.tup (.inl upd_same) (Rels.mono (tx_new hl) _ _ hr)) q⟩⟩
    | ref p =>
      unfold seqD at h
      simp only at h
      split at h
      · rename_i ds' e
        cases h
        obtain ⟨xs, hx, hr⟩ := c _ _ e
        exact ⟨_, xs, rfl, .inl ⟨SqL.of hx, fun l hl => k _ μ _ _ (fr_new hl) (con_new hl c) (.tup (.inl upd_same) (Rels.mono (tx_new hl) _ _ hr)) q⟩⟩
      · cases h
    | non => cases h
    | bl => cases h
    | int => cases h
    | str => cases h
    | ty => cases h
theorem rc_list {ds : List D} (h : seqD μ d = some ds) (q : ∀ p, μ p = none → Φ (.ref p) (μ.set p (.lst ds))) : RC K (fun xs H Q => ∃ p ys, xs = [V.ref p] ∧ (SqL K H p ys ∨ SqT K H p ys) ∧ ∀ l, H l = none → Q (.ref l) (upd H l (.lst ys))) [d] μ Φ := fun H xs c r1 Q k => by
  cases r1 with
  | cons a b =>
    cases b
    obtain ⟨p, xs, rfl, hq, hr⟩ := seq_of c a h
    exact ⟨p, xs, rfl, hq, fun l hl => k _ _ _ _ (fr_put hl) (con_put (m := .lst ds) hl c ⟨xs, upd_same, Rels.mono (tx_new hl) _ _ hr⟩) (.ref l) (q l (c.free hl))⟩
theorem rels_bl : ∀ {xs : List V} {bs : List Bool}, Rels K H xs (bs.map D.bl) → xs = bs.map V.bl
  | [], [], .nil => rfl
  | _ :: _, _ :: _, .cons a b => by cases a; rw [rels_bl b]; rfl
theorem rc_all {a : Addr} {bs : List Bool} (h : μ a = some (.lst (bs.map D.bl))) (q : Φ (.bl (bs.all id)) μ) : RC K (rAll K) [.ref a] μ Φ := fun H xs c r1 Q k => by
  cases r1 with
  | cons r b =>
    cases r; cases b
    obtain ⟨xs, hx, hr⟩ := c _ _ h
    have e := rels_bl hr
    subst e
    exact ⟨a, bs, rfl, SqL.of hx, k _ μ _ H Fr.refl c (.bl _) q⟩
theorem m_append {to : TE} {a : Addr} {ds : List D} (h : AE K to τ μ fun o μ1 => o = .ref a ∧ (∃ es, μ1 a = some (.lst es)) ∧ AE K te τ μ1 fun d μ2 => μ2 a = some (.lst ds) ∧ ds.length < sizeLine ∧ Φ .non (μ2.set a (.lst (ds ++ [d])))) :
    AE K (tBM K "list" rAppend to (tCons te tNil)) τ μ Φ := fun σ H s c Q k =>
  h σ H s c _ fun o μ1 v H1 f1 c1 r1 ⟨e, ⟨es, he⟩, p1⟩ => by
    subst e
    cases r1
    obtain ⟨xs, hx, hr⟩ := c1 a _ he
    refine ⟨.inl ⟨rfl, xs, SqL.of hx⟩, p1 σ H1 (s.mono (f1.tx c)) c1 _ fun d μ2 u H2 f2 c2 r2 ⟨h2, hz, q⟩ => ?_⟩
    obtain ⟨ys, hy, hr2⟩ := c2 a _ h2
    exact ⟨a, ys, u, rfl, rfl, hy, by rw [hr2.length]; exact hz, k _ _ _ _ ((f1.trans f2).trans (fr_mut h2)) (con_mut (m' := .lst (ds ++ [d])) c2 h2 ⟨_, upd_same, Rels.mono (tx_mut c2 h2) _ _ (hr2.append (.cons r2 .nil))⟩) .non q⟩
end
end Z
namespace Z
open PySem L2
/-- a promise by what it asks and gives over the store: P args store wish -/
abbrev PT3 := List D → M → (D → M → Prop) → Prop
def spI (K : PySem.W.Frag) (P : PT3) : Sp := fun vs H Q _ => ∃ ds μ Φ, Rels K H vs ds ∧ Z.Con K H μ ∧ P ds μ Φ ∧ ∀ d μ' v H', Fr μ μ' H H' → Z.Con K H' μ' → Rel K H' v d → Φ d μ' → Q v H'
def startD (n : Nat) (ds : List D) : T := ds.map some ++ List.replicate (n - ds.length) none
section
variable {K : PySem.W.Frag} {τ : T} {μ μ1 μ2 : M} {H H1 H2 : Hp} {σ : L2.St} {Φ Ψ : D → M → Prop} {ta tb tc te : TE} {r r' : R2} {t u : TT} {x y z d e : D} {N : AEnds} {ts us : TS} {P : PT3} {E : XK}
theorem slots_start {Ns : List Str} : ∀ {vs : List V} {ds : List D}, Rels K H vs ds → Slots K H (startD Ns.length ds) (L2.start Ns vs) := by
  intro vs ds r
  have hl := r.length
  refine ⟨by unfold startD L2.start; simp only [List.length_append, List.length_map, List.length_replicate]; omega, fun i d e => ?_⟩
  unfold startD at e
  by_cases hi : i < ds.length
  · rw [List.getElem?_append_left (by rw [List.length_map]; exact hi), List.getElem?_map] at e
    cases q : ds[i]? with
    | none => rw [q] at e; cases e
    | some d' =>
      rw [q] at e
      have e2 : d' = d := Option.some.inj (Option.some.inj e)
      subst e2
      obtain ⟨v, h1, h2⟩ := r.get q
      refine ⟨v, ?_, h2⟩
      unfold L2.start
      rw [List.getElem?_append_left (by rw [List.length_map]; omega), List.getElem?_map, h1]
      rfl
  · rw [List.getElem?_append_right (by rw [List.length_map]; omega), List.getElem?_replicate] at e
    split at e <;> cases e
theorem spI_len {vs : List V} {Q : VK} {n : Nat} (h : spI K P vs H Q E) (hn : ∀ ds μ Φ, P ds μ Φ → ds.length = n) : vs.length = n := by
  obtain ⟨ds, μ, Φ, r, _, p, _⟩ := h
  rw [r.length]; exact hn _ _ _ p
/-- a body keeps its promise -/
theorem body_ok {Ns : List Str} {vs : List V} {Q : VK} (h : spI K P vs H Q E) (hb : ∀ ds μ Φ, P ds μ Φ → AS K ts (startD Ns.length ds) μ { nx := fun _ μ' => Φ .non μ', rt := Φ }) :
    ts { nx := fun _ H' => Q .non H', rt := Q } (L2.start Ns vs) H := by
  obtain ⟨ds, μ, Φ, r, c, p, k⟩ := h
  exact hb ds μ Φ p _ H (slots_start r) c _ ⟨fun _ μ' _ H' f c' _ q => k .non μ' .non H' f c' .non q, fun d μ' v H' f c' r' q => k d μ' v H' f c' r' q, fun _ _ _ _ _ _ _ q => q.elim, fun _ _ _ _ _ _ _ q => q.elim, fun _ _ _ _ _ _ _ _ _ _ _ q => q.elim⟩
/-- a call -/
theorem a_call {ta : TA} (h : AA K ta τ μ fun ds μ1 => P ds μ1 Φ) : AE K (tCall (spI K P) [] E ta) τ μ Φ := fun σ H s c Q k =>
  h σ H s c _ fun ds μ1 vs H1 f1 c1 r1 p => by
    show spI K P (vs ++ []) H1 Q E
    rw [List.append_nil]
    exact ⟨ds, μ1, Φ, r1, c1, p, fun d μ' v H' f c' r q => k d μ' v H' (f1.trans f) c' r q⟩
/-- a field -/
theorem look_rel {f : Str} : ∀ {vs : List (Str × V)} {fs : List (Str × D)}, RelKV K H vs fs → fs.lookup f = some d → ∃ v, vs.lookup f = some v ∧ Rel K H v d := by
  intro vs fs r
  induction r with
  | nil => intro h; cases h
  | cons a _ ih =>
    rename_i p q ps qs _
    obtain ⟨e1, e2⟩ := a
    intro h
    rw [List.lookup_cons] at h ⊢
    rw [e1]
    split at h
    · rename_i hb
      cases h
      exact ⟨_, by simp [hb], e2⟩
    · rename_i hb
      obtain ⟨v, h1, h2⟩ := ih h
      exact ⟨v, by simp [hb, h1], h2⟩
theorem a_fld {f : Str} (h : AE K te τ μ fun o μ1 => ∃ a C dx fs, o = .ref a ∧ μ1 a = some (.ins C dx fs) ∧ Cls K C ∧ NoAttr K C f ∧ ∃ d, fs.lookup f = some d ∧ Φ d μ1) : AE K (tFld K te f) τ μ Φ := fun σ H s c Q k =>
  h σ H s c _ fun o μ1 v H1 f1 c1 r1 ⟨a, C, dx, fs, e, ha, hc, hn, d, hl, q⟩ => by
    subst e
    cases r1
    obtain ⟨vs, hv, hr⟩ := c1 a _ ha
    obtain ⟨w, hw, rw'⟩ := look_rel hr hl
    exact ⟨a, C, dx, vs, w, rfl, hv, hc, hn, hw, k d μ1 w H1 f1 c1 rw' q⟩
/-- o.f = e -/
def putD (f : Str) (d : D) : List (Str × D) → List (Str × D)
  | [] => [(f, d)]
  | (g, x) :: r => if g = f then (g, d) :: r else (g, x) :: putD f d r
theorem put_rel {f : Str} {v : V} (r : Rel K H v d) : ∀ {vs : List (Str × V)} {fs : List (Str × D)}, RelKV K H vs fs → RelKV K H (putF f v vs) (putD f d fs)
  | _, _, .nil => .cons ⟨rfl, r⟩ .nil
  | (g, x) :: vs, (g', y) :: fs, .cons a b => by
    obtain ⟨e1, e2⟩ := a
    have e1 : g = g' := e1
    subst e1
    unfold putF putD
    by_cases hg : g = f
    · rw [if_pos hg, if_pos hg]; exact .cons ⟨rfl, r⟩ b
    · rw [if_neg hg, if_neg hg]; exact .cons ⟨rfl, e2⟩ (put_rel r b)
theorem s_fld {f : Str} (h : AE K tb τ μ fun d μ1 => AE K te τ μ1 fun o μ2 => ∃ a C dx fs, o = .ref a ∧ μ2 a = some (.ins C dx fs) ∧ Cls K C ∧ NoAttr K C f ∧ fs.length < 1000 ∧ N.nx τ (μ2.set a (.ins C dx (putD f d fs)))) :
    AS K (sFld K te tb f) τ μ N := fun σ H s c E k =>
  h σ H s c _ fun d μ1 v H1 f1 c1 r1 p1 => p1 σ H1 (s.mono (f1.tx c)) c1 _ fun o μ2 w H2 f2 c2 r2 ⟨a, C, dx, fs, e, ha, hc, hn, hz, q⟩ => by
    subst e
    cases r2
    obtain ⟨vs, hv, hr⟩ := c2 a _ ha
    refine ⟨a, C, dx, vs, rfl, hv, hc, hn, ?_, ?_⟩
    · have len : ∀ {vs : List (Str × V)} {fs : List (Str × D)}, RelKV K H2 vs fs → vs.length = fs.length := by
        intro vs fs r
        induction r with
        | nil => rfl
        | cons _ _ ih => rw [List.length_cons, List.length_cons, ih]
      rw [len hr]; exact hz
    · have fr := fr_mut (H := H2) (o := .ins C dx (putF f v vs)) (m' := .ins C dx (putD f d fs)) ha
      exact k.nx τ _ σ _ ((f1.trans f2).trans fr) (con_mut c2 ha ⟨_, upd_same, put_rel (Rel.mono ((f2.trans fr).tx c1) _ _ r1) (RelKV.mono (tx_mut c2 ha) hr)⟩) (s.mono (((f1.trans f2).trans fr).tx c)) q
end
end Z
namespace Z
open PySem L2
def sets {α : Type} : List (Option α) → List Nat → List α → List (Option α)
  | l, j :: js, d :: ds => sets (l.set j (some d)) js ds
  | l, _, _ => l
theorem wipe_at (σ : L2.St) (i : Nat) : ∀ vs : List Nat, (wipe σ vs)[i]? = if i ∈ vs then (σ[i]?).map fun _ => none else σ[i]?
  | [] => by simp [wipe]
  | v :: vs => by
    have ih := wipe_at σ i vs
    unfold wipe
    by_cases h : v = i
    · subst h
      rw [if_pos (List.mem_cons_self)]
      by_cases hl : v < (wipe σ vs).length
      · rw [List.getElem?_set_self hl]
        rw [wipe_length] at hl
        rw [List.getElem?_eq_getElem hl]
        rfl
      · rw [List.getElem?_eq_none (by rw [List.length_set]; omega)]
        rw [wipe_length] at hl
        rw [List.getElem?_eq_none (by omega)]
        rfl
    · rw [List.getElem?_set_ne h, ih]
      have e : (i ∈ v :: vs) = (i ∈ vs) := by
        rw [List.mem_cons]
        exact propext ⟨fun q => q.elim (fun z => absurd z.symm h) id, .inr⟩
      simp only [e]
theorem wipe_set {σ : L2.St} {j : Nat} {x : Option V} {vs : List Nat} (h : j ∈ vs) : wipe (σ.set j x) vs = wipe σ vs := by
  apply List.ext_getElem?
  intro i
  rw [wipe_at, wipe_at]
  by_cases hi : i ∈ vs
  · rw [if_pos hi, if_pos hi]
    by_cases e : j = i
    · subst e
      by_cases hl : j < σ.length
      · rw [List.getElem?_set_self hl, List.getElem?_eq_getElem hl]; rfl
      · rw [List.getElem?_eq_none (by rw [List.length_set]; omega), List.getElem?_eq_none (by omega)]
    · rw [List.getElem?_set_ne e]
  · rw [if_neg hi, if_neg hi, List.getElem?_set_ne (fun z => hi (by rw [← z]; exact h))]
theorem wipe_wipe {σ : L2.St} {vs : List Nat} : wipe (wipe σ vs) vs = wipe σ vs := by
  apply List.ext_getElem?
  intro i
  rw [wipe_at]
  by_cases hi : i ∈ vs
  · rw [if_pos hi, wipe_at, if_pos hi]
    cases σ[i]? <;> rfl
  · rw [if_neg hi]
theorem wipe_sets {vs : List Nat} : ∀ {σ : L2.St} {js : List Nat} {xs : List V}, (∀ j ∈ js, j ∈ vs) → wipe (sets σ js xs) vs = wipe σ vs
  | σ, [], xs, _ => by unfold sets; rfl
  | σ, j :: js, [], _ => by unfold sets; rfl
  | σ, j :: js, x :: xs, h => by
    unfold sets
    rw [wipe_sets (fun k hk => h k (List.mem_cons_of_mem _ hk)), wipe_set (h j List.mem_cons_self)]
section
variable {K : PySem.W.Frag} {τ : T} {μ μ1 μ2 : M} {H H1 H2 H' : Hp} {σ : L2.St} {Φ Ψ : D → M → Prop} {ta tb tc te : TE} {r r' : R2} {tt : TT} {x y z d e : D} {N : AEnds} {ts us : TS}
theorem slots_sets : ∀ {js : List Nat} {ds : List D} {vs : List V} {τ : T} {σ : L2.St}, Rels K H vs ds → Slots K H τ σ → Slots K H (sets τ js ds) (sets σ js vs)
  | [], _, _, _, _, _, s => by unfold sets; exact s
  | j :: js, _, _, _, _, .nil, s => by unfold sets; exact s
  | j :: js, _, _, _, _, .cons a b, s => by unfold sets; exact slots_sets b (s.set a j)
/-- the slots of a block: all of vs are stored by the target -/
theorem slots_block {js : List Nat} {ds : List D} {vs : List V} (s : Slots K H τ σ) (r : Rels K H vs ds) (hl : ds.length = js.length) : Slots K H (sets τ js ds) (sets (wipe σ js) js vs) := by
  refine Hold.out ?_
  simp (disch := (
  refine Hold.as ?_
  with_unfolding_all (
  -- a slot that js stores does not hang on what stood there
  have same : ∀ (js0 : List Nat) (js : List Nat) (vs : List V) (σ σ' : L2.St), σ.length = σ'.length → js.length = vs.length → (∀ i, i ∉ js → i ∉ js0 → σ[i]? = σ'[i]?) → (∀ i, i ∈ js0 → i ∉ js → σ[i]? = σ'[i]?) → sets σ js vs = sets σ' js vs := by
    intro js0 js
    induction js with
    | nil =>
      intro vs σ σ' hL _ h1 h2
      unfold sets
      apply List.ext_getElem?
      intro i
      by_cases hi : i ∈ js0
      · exact h2 i hi (by simp)
      · exact h1 i (by simp) hi
    | cons j js ih =>
      intro vs σ σ' hL hV h1 h2
      cases vs with
      | nil => simp at hV
      | cons v vs =>
        unfold sets
        refine ih vs _ _ (by simp [hL]) (by simpa using hV) (fun i hi hi0 => ?_) (fun i hi0 hi => ?_)
        · by_cases e : j = i
          · subst e
            by_cases hl : j < σ.length
            · rw [List.getElem?_set_self hl, List.getElem?_set_self (by omega)]
            · rw [List.getElem?_eq_none (by simp; omega), List.getElem?_eq_none (by simp; omega)]
          · rw [List.getElem?_set_ne e, List.getElem?_set_ne e]
            exact h1 i (by simp [hi]; exact fun z => e z.symm) hi0
        · by_cases e : j = i
          · subst e
            by_cases hl : j < σ.length
            · rw [List.getElem?_set_self hl, List.getElem?_set_self (by omega)]
            · rw [List.getElem?_eq_none (by simp; omega), List.getElem?_eq_none (by simp; omega)]
          · rw [List.getElem?_set_ne e, List.getElem?_set_ne e]
            exact h2 i hi0 (by simp [hi]; exact fun z => e z.symm)
  have e : sets (wipe σ js) js vs = sets σ js vs := by
    refine same [] js vs _ _ (by rw [wipe_length]) (by rw [r.length, hl]) (fun i hi _ => ?_) (fun i hi _ => by simp at hi)
    rw [wipe_at, if_neg hi]
  rw [e]
  exact slots_sets r s))) only [↓Hold.on]
/-- how a target takes an item apart -/
def TgOk (K : PySem.W.Frag) (g : TG) (js : List Nat) (dec : D → List D → Prop) : Prop :=
  ∀ d ds v σ H, dec d ds → Rel K H v d → ∀ Q : L2.St → Hp → Prop, (∀ vs, Rels K H vs ds → Q (sets σ js vs) H) → g v σ H Q
theorem tg_name {j : Nat} : TgOk K (gName j) [j] fun d ds => ds = [d] := fun d ds v σ H h r Q q => by
  subst h
  exact q [v] (.cons r .nil)
theorem tg_2 {i j : Nat} : TgOk K (gTup K 2 (gCons (gName i) (gCons (gName j) gNil))) [i, j] fun d ds => d = .tup ds ∧ ds.length = 2 := fun d ds v σ H h r Q q => by
  obtain ⟨e, hl⟩ := h
  subst e
  cases r with
  | @tup a xs _ ht hr =>
    have hx := hr.length
    match xs, hx.trans hl with
    | [x, y], _ => exact ⟨a, _, rfl, ht.sq, rfl, x, _, rfl, y, _, rfl, rfl, q _ hr⟩
theorem tg_3 {i j k : Nat} : TgOk K (gTup K 3 (gCons (gName i) (gCons (gName j) (gCons (gName k) gNil)))) [i, j, k] fun d ds => d = .tup ds ∧ ds.length = 3 := fun d ds v σ H h r Q q => by
  obtain ⟨e, hl⟩ := h
  subst e
  cases r with
  | @tup a xs _ ht hr =>
    have hx := hr.length
    match xs, hx.trans hl with
    | [x, y, z], _ => exact ⟨a, _, rfl, ht.sq, rfl, x, _, rfl, y, _, rfl, z, _, rfl, rfl, q _ hr⟩
theorem tg_4 {i j k l : Nat} : TgOk K (gTup K 4 (gCons (gName i) (gCons (gName j) (gCons (gName k) (gCons (gName l) gNil))))) [i, j, k, l] fun d ds => d = .tup ds ∧ ds.length = 4 := fun d ds v σ H h r Q q => by
  obtain ⟨e, hl⟩ := h
  subst e
  cases r with
  | @tup a xs _ ht hr =>
    have hx := hr.length
    match xs, hx.trans hl with
    | [x, y, z, w], _ => exact ⟨a, _, rfl, ht.sq, rfl, x, _, rfl, y, _, rfl, z, _, rfl, w, _, rfl, rfl, q _ hr⟩
/-- what a turn of a comprehension must show -/
def LcTurn (K : PySem.W.Frag) (τ : T) (tt : TT) (te : TE) (js : List Nat) (dec : D → List D → Prop) (x : D) (acc : List D) (μ : M) (P : List D → M → Prop) : Prop :=
  ∃ xs, dec x xs ∧ xs.length = js.length ∧ AT K tt (sets τ js xs) μ fun b μ1 => if b = true then AE K te (sets τ js xs) μ1 fun y μ2 => acc.length < sizeLine ∧ P (acc ++ [y]) μ2 else P acc μ1
/-- the list that is made is at Dl, outside of the store -/
structure LcAt (K : PySem.W.Frag) (Dl : Addr) (μ0 : M) (H0 : Hp) (acc : List D) (μ' : M) (H' : Hp) : Prop where
  fr : Fr μ0 μ' H0 H'
  con : Z.Con K H' μ'
  no : μ' Dl = none
  at_ : ∃ vs, H' Dl = some (.lst vs) ∧ Rels K H' vs acc
theorem upd_out {Dl : Addr} {vs : List V} {o : HO} (c : Z.Con K H μ) (no : μ Dl = none) (h : H Dl = some (.lst vs)) (ho : ∀ xs, o ≠ .tup xs) : Tx H (upd H Dl o) ∧ Z.Con K (upd H Dl o) μ := by
  have t : Tx H (upd H Dl o) := ⟨fun a xs e => by rw [upd_ne (fun z => by subst z; rw [h] at e; cases e)]; exact e, fun a ob xs e => by rw [upd_ne (fun z => by subst z; rw [h] at e; cases e)]; exact e,
    fun a q e => by rw [upd_ne (fun z => by subst z; rw [h] at e; unfold LamX.CodeO at e; cases e)]; exact e⟩
  exact ⟨t, fun a m e => (c a m e).mono t (upd_ne (fun z => by subst z; rw [no] at e; cases e))⟩
theorem lc_step {g : TG} {js : List Nat} {dec : D → List D → Prop} {Dl : Addr} {μ0 μ' : M} {H0 : Hp} {acc : List D} {P : List D → M → Prop} {Nx : Hp → Prop} {v : V} (hD : H0 Dl = none) (hg : TgOk K g js dec) (s : Slots K H0 τ σ) (c0 : Z.Con K H0 μ0) (L : LcAt K Dl μ0 H0 acc μ' H') (rx : Rel K H' v x) (ht : LcTurn K τ tt te js dec x acc μ' P)
    (hn : ∀ acc2 μ2 H2, LcAt K Dl μ0 H0 acc2 μ2 H2 → P acc2 μ2 → Nx H2) :
    g v (wipe σ js) H' fun σ2 H2 => wipe σ2 js = wipe σ js ∧ tt σ2 H2 fun b H3 => if b = true then te σ2 H3 fun y H4 => ∃ acc, H4 Dl = some (.lst acc) ∧ acc.length < sizeLine ∧ Nx (upd H4 Dl (.lst (acc ++ [y]))) else Nx H3 := by
  obtain ⟨xs, hd, hl, ht⟩ := ht
  obtain ⟨vs0, hv0, hr0⟩ := L.at_
  refine hg x xs v _ H' hd rx _ fun vs hvs => ⟨by rw [wipe_sets (fun _ h => h), wipe_wipe], ?_⟩
  have s' : Slots K H' (sets τ js xs) (sets (wipe σ js) js vs) := slots_block (s.mono (L.fr.tx c0)) hvs hl
  refine ht _ H' s' L.con _ fun b μ1 H1 f1 c1 p => ?_
  have n1 : μ1 Dl = none := (f1 Dl _ L.no hv0).2
  have h1 : H1 Dl = some (.lst vs0) := (f1 Dl _ L.no hv0).1
  cases b with
  | false => exact hn acc μ1 H1 ⟨L.fr.trans f1, c1, n1, vs0, h1, Rels.mono (f1.tx L.con) _ _ hr0⟩ p
  | true =>
    refine (show AE K te _ μ1 _ from p) _ H1 (s'.mono (f1.tx L.con)) c1 _ fun y μ2 w H2 f2 c2 r2 ⟨hz, p2⟩ => ?_
    have n2 : μ2 Dl = none := (f2 Dl _ n1 h1).2
    have h2 : H2 Dl = some (.lst vs0) := (f2 Dl _ n1 h1).1
    have hr2 : Rels K H2 vs0 acc := Rels.mono ((f1.trans f2).tx L.con) _ _ hr0
    obtain ⟨t3, c3⟩ := upd_out (o := .lst (vs0 ++ [w])) c2 n2 h2 (fun _ z => by cases z)
    refine ⟨vs0, h2, by rw [hr0.length]; exact hz, hn _ μ2 _ ⟨fun a o n e => ?_, c3, n2, _, upd_same, Rels.mono t3 _ _ (hr2.append (.cons r2 .nil))⟩ p2⟩
    have f := (L.fr.trans f1).trans f2
    obtain ⟨e2, m2⟩ := f a o n e
    exact ⟨by rw [upd_ne (ne_of_none e hD)]; exact e2, m2⟩
theorem lc_start {Dl : Addr} (c : Z.Con K H μ) (hD : H Dl = none) : LcAt K Dl μ H [] μ (upd H Dl (.lst [])) :=
  ⟨fr_new hD, con_new hD c, c.free hD, [], upd_same, .nil⟩
theorem lc_end {Dl : Addr} {μ0 μ' : M} {H0 : Hp} {acc : List D} (hD : H0 Dl = none) (L : LcAt K Dl μ0 H0 acc μ' H') : Fr μ0 (μ'.set Dl (.lst acc)) H0 H' ∧ Z.Con K H' (μ'.set Dl (.lst acc)) := by
  obtain ⟨vs, hv, hr⟩ := L.at_
  refine ⟨fun a o n e => ?_, con_back (m := .lst acc) L.con ⟨vs, hv, hr⟩⟩
  obtain ⟨e2, m2⟩ := L.fr a o n e
  exact ⟨e2, by rw [set_ne (ne_of_none e hD)]; exact m2⟩
/-- pure elements: a filter and a map -/
theorem at_yes {Θ : Bool → M → Prop} (h : Θ true μ) : AT K tYes τ μ Θ := fun σ H s c Q k => k true μ H Fr.refl c h
end
end Z
namespace Z
open PySem L2
section
variable {K : PySem.W.Frag} {τ : T} {μ μ1 μ2 : M} {H H1 H2 H' : Hp} {σ : L2.St} {Φ Ψ : D → M → Prop} {ta tb tc te : TE} {r r' : R2} {tt : TT} {x y z d e : D} {N : AEnds} {ts us : TS}
theorem s_par3 {i j l : Nat} {ta : TA} (h : AA K ta τ μ fun ds μ' => ∃ d e w, ds = [d, e, w] ∧ N.nx (((τ.set i (some d)).set j (some e)).set l (some w)) μ') : AS K (tPar3 i j l ta) τ μ N := fun σ H s c E k =>
  h σ H s c _ fun ds μ' vs H' f c' r ⟨d, e, w, q, p⟩ => by
    subst q
    cases r with
    | cons r1 r2 =>
      cases r2 with
      | cons r2 r3 =>
        cases r3 with
        | cons r3 r4 =>
          cases r4
          exact ⟨_, _, _, rfl, k.nx _ μ' _ H' f c' ((((s.mono (f.tx c)).set r1 i).set r2 j).set r3 l) p⟩
def tyn (μ : M) : D → Option String
  | .non => some "NoneType"
  | .bl _ => some "bool"
  | .int _ => some "int"
  | .str _ => some "str"
  | .tup _ => some "tuple"
  | .rol _ => some "list"
  | .ref a => match μ a with
    | some (.lst _) => some "list"
    | some (.dK _) => some "dict"
    | some (.dT _) => some "dict"
    | _ => none
  | .ty _ => none
theorem tyx_of {v : V} {n : String} (c : Z.Con K H μ) (r : Rel K H v d) (h : tyn μ d = some n) : TyX K H v (.type n) := by
  cases r with
  | non => cases h; exact .base .non
  | bl => cases h; exact .base (.bl _)
  | int => cases h; exact .base (.int _)
  | str => cases h; exact .base (.str _)
  | ty => cases h
  | tup ht hr =>
    cases h
    cases ht with
    | inl ht => exact .base (.tup ht)
  | rol ht hr =>
    cases h
    rcases ht with ⟨o, ht⟩ | ⟨o, its, m, h1, h2, _⟩
    · exact .base (.frz ht)
    · exact .kList h1 h2
  | ref a =>
    unfold tyn at h
    simp only at h
    split at h
    · rename_i e; cases h; obtain ⟨xs, hx, _⟩ := c _ _ e; exact .base (.lst hx)
    · rename_i e; cases h; obtain ⟨xs, hx, _⟩ := c _ _ e; exact .base (.dK hx)
    · rename_i e; cases h; obtain ⟨xs, hx, _⟩ := c _ _ e; exact .base (.dT hx)
    · cases h
theorem rc_isi {n m : String} {b : Bool} (h : tyn μ d = some n) (hk : kitB n m = some b) (q : Φ (.bl b) μ) : RC K (rIsi K) [d, .ty m] μ Φ := fun H xs c r1 Q k => by
  cases r1 with
  | cons a r2 =>
    cases r2 with
    | cons a2 r3 =>
      cases a2; cases r3
      exact ⟨_, _, .type n, .type m, b, rfl, .ty m, tyx_of c a h, kit_ty hk, k _ μ _ H Fr.refl c (.bl _) q⟩
theorem a_chain (h : AE K ta τ μ fun d μ1 => AE K tb τ μ1 fun e μ2 => RO K r d e μ2 fun z μ3 => ∃ b, z = .bl b ∧ if b = true then AE K tc τ μ3 fun w μ4 => RO K r' e w μ4 Φ else Φ (.bl false) μ3) : AE K (tChain r r' ta tb tc) τ μ Φ := fun σ H s c Q k =>
  h σ H s c _ fun d μ1 v H1 f1 c1 r1 p1 => p1 σ H1 (s.mono (f1.tx c)) c1 _ fun e μ2 u H2 f2 c2 r2 p2 =>
    p2 H2 v u c2 (Rel.mono (f2.tx c1) _ _ r1) r2 _ fun z μ3 w H3 f3 c3 rz ⟨b, ez, p3⟩ => by
      subst ez
      cases rz
      refine ⟨b, rfl, ?_⟩
      cases b with
      | false => exact k _ μ3 _ H3 ((f1.trans f2).trans f3) c3 (.bl false) (show Φ (.bl false) μ3 from p3)
      | true =>
        exact (show AE K tc τ μ3 _ from p3) σ H3 (s.mono (((f1.trans f2).trans f3).tx c)) c3 _ fun w μ4 w' H4 f4 c4 r4 p4 =>
          p4 H4 u w' c4 (Rel.mono ((f3.trans f4).tx c2) _ _ r2) r4 Q fun z μ5 o H5 f5 c5 rz pz => k z μ5 o H5 ((((f1.trans f2).trans f3).trans f4).trans f5) c5 rz pz
def rInS (K : PySem.W.Frag) (neg : Bool) : R2 := fun x y H Q => ∃ d ds, Dp K H x d ∧ (Dp K H y (.list ds) ∨ Dp K H y (.tuple ds)) ∧ SeqAt.shaped d = true ∧ SeqAt.shaped (.list ds) = true ∧ Q (.bl (if neg then !ds.any fun z => PyData.eqv z d else ds.any fun z => PyData.eqv z d)) H
theorem op_inS {X : Cx} (hu : X.A.units + 65 < cLine) : OpR X (compareOp .In) (rInS X.K false) := by
  intro pins s σ H x y v u Q I rx ry h
  obtain ⟨d, ds, hd, he, sd, se, q⟩ := h
  obtain ⟨as, r1⟩ := Dp.reads I d x v hd rx
  rcases he with he | he
  · obtain ⟨bs, r2⟩ := Dp.reads I (.list ds) y u he ry
    exact SeqAt.in_list_reads r2 r1 (SeqAt.canLay_of_shaped se) (SeqAt.canLay_of_shaped sd) (PyProof.Rows.room_in_shaped sd hu) ⟨.bl _, H, I, rfl, q⟩
  · obtain ⟨bs, r2⟩ := Dp.reads I (.tuple ds) y u he ry
    exact SeqAt.in_tuple_reads r2 r1 (SeqAt.canLay_of_shaped se) (SeqAt.canLay_of_shaped sd) (PyProof.Rows.room_in_shaped sd hu) ⟨.bl _, H, I, rfl, q⟩
theorem op_notInS {X : Cx} (hu : X.A.units + 65 < cLine) : OpR X (compareOp .NotIn) (rInS X.K true) := by
  intro pins s σ H x y v u Q I rx ry h
  obtain ⟨d, ds, hd, he, sd, se, q⟩ := h
  obtain ⟨as, r1⟩ := Dp.reads I d x v hd rx
  rcases he with he | he
  · obtain ⟨bs, r2⟩ := Dp.reads I (.list ds) y u he ry
    exact SeqAt.notIn_list_reads r2 r1 (SeqAt.canLay_of_shaped se) (SeqAt.canLay_of_shaped sd) (PyProof.Rows.room_in_shaped sd hu) ⟨.bl _, H, I, rfl, q⟩
  · obtain ⟨bs, r2⟩ := Dp.reads I (.tuple ds) y u he ry
    exact SeqAt.notIn_tuple_reads r2 r1 (SeqAt.canLay_of_shaped se) (SeqAt.canLay_of_shaped sd) (PyProof.Rows.room_in_shaped sd hu) ⟨.bl _, H, I, rfl, q⟩
theorem seq_dp {v : V} {ds : List D} (c : Z.Con K H μ) (r : Rel K H v d) (h : seqD μ d = some ds) (hp : D.plains ds = true) : Dp K H v (.list (D.pys ds)) ∨ Dp K H v (.tuple (D.pys ds)) := by
  cases r with
  | tup ht hr => cases h; exact .inr (.tup ht.sq (Rels.dp _ _ hr hp))
  | rol ht hr => cases h; exact .inl (.lst ht.sq (Rels.dp _ _ hr hp))
  | ref a =>
    unfold seqD at h
    simp only at h
    split at h
    · rename_i ds' e
      cases h
      obtain ⟨xs, h1, h2⟩ := c _ _ e
      exact .inl (.lst (SqL.of h1) (Rels.dp _ _ h2 hp))
    · cases h
  | non => cases h
  | bl => cases h
  | int => cases h
  | str => cases h
  | ty => cases h
def inD (d : D) (ds : List D) : Bool := ds.any fun z => D.eqv z d
theorem inD_pys (d : D) : ∀ ds : List D, (D.pys ds).any (fun z => PyData.eqv z (D.py d)) = inD d ds
  | [] => by simp [D.pys, inD]
  | x :: ds => by
    have ih := inD_pys d ds
    unfold inD at ih ⊢
    simp only [D.pys, List.any_cons, ih]
    rfl
theorem ro_inS {neg : Bool} {ds : List D} (hs : seqD μ e = some ds) (h1 : D.ok d = true) (h2 : D.ok (.tup ds) = true) (q : Φ (.bl (if neg then !inD d ds else inD d ds)) μ) : RO K (rInS K neg) d e μ Φ := fun H x y c r1 r2 Q k => by
  unfold D.ok at h1 h2
  rw [Bool.and_eq_true] at h1 h2
  have p2 : D.plains ds = true := by simpa only [D.plain] using h2.1
  refine ⟨_, D.pys ds, Rel.dp _ _ r1 h1.1, seq_dp c r2 hs p2, h1.2, ?_, ?_⟩
  · have h3 := h2.2
    simp only [D.py] at h3
    exact h3
  · rw [inD_pys]
    exact k _ μ _ H Fr.refl c (.bl _) q
end
/-- a def of the text with its promise -/
structure Def (P : Program) (w : World) (K : PySem.W.Frag) (mg : Str → Option Value) (base : Heap) (x : Str) (ps : List Str) (k : Nat) (sp : Sp) : Prop where
  ex : ∃ f fd, FnOk P w K mg base CX0 k f fd ps sp ∧ mg x = some (.ref f) ∧ PySem.W.keepIn K (.ref f) = true ∧ Binds K fd ps []
section
variable {X : Cx} {k : Nat} {ps : List Str} {sp : Sp} {x : Str} {p pos : Pos} {e : Expr} {es : List Expr} {t : TA}
theorem pe_def (G : Def X.prog X.w X.K X.mg X.base x ps k sp) (hr : Room k X.A) (hg : Gl X x)
    (ha : PA X (e :: es) t) (hdb : (x == ("__debug__" : Str)) = false := by decide) (he : starEach (e :: es) X.env = (false, eval e X.env) :: starEach es X.env := by rfl) (hpl : (backTo pos (starEach es X.env)).any (·.1) = false := by rfl) :
    PE X (.Call (.Name x p) (e :: es) [] pos) (tCall sp [] E0 t) := by
  obtain ⟨f, fd, F, hm, hk, hb⟩ := G.ex
  exact pe_call F hr hg hm hk hb .nil pass0 ha hdb he hpl
end
end Z
namespace Z
open PySem L2
theorem seq_ref {μ : M} {a : Addr} {ds : List D} (h : μ a = some (.lst ds)) : seqD μ (.ref a) = some ds := by
  show (match μ a with | some (.lst ds) => some ds | _ => none) = some ds
  rw [h]
def Sz (n : Nat) (x : Int) : Prop := x.natAbs < 2 ^ n
instance {n : Nat} {x : Int} : Decidable (Sz n x) := inferInstanceAs (Decidable (x.natAbs < 2 ^ n))
theorem sz_mono {a b : Nat} {x : Int} (h : Sz a x) (l : a ≤ b) : Sz b x := Nat.lt_of_lt_of_le h (Nat.pow_le_pow_right (by decide) l)
theorem sz_add {a b : Nat} {x y : Int} (h : Sz a x) (k : Sz b y) : Sz (max a b + 1) (x + y) := by
  have h1 : x.natAbs < 2 ^ (max a b) := Nat.lt_of_lt_of_le h (Nat.pow_le_pow_right (by decide) (Nat.le_max_left _ _))
  have h2 : y.natAbs < 2 ^ (max a b) := Nat.lt_of_lt_of_le k (Nat.pow_le_pow_right (by decide) (Nat.le_max_right _ _))
  have h3 := Int.natAbs_add_le x y
  unfold Sz
  rw [Nat.pow_succ]
  omega
theorem sz_neg {a : Nat} {x : Int} (h : Sz a x) : Sz a (-x) := by
  unfold Sz
  rw [Int.natAbs_neg]
  exact h
theorem sz_sub {a b : Nat} {x y : Int} (h : Sz a x) (k : Sz b y) : Sz (max a b + 1) (x - y) := by
  rw [Int.sub_eq_add_neg]
  exact sz_add h (sz_neg k)
theorem sz_mul {a b : Nat} {x y : Int} (h : Sz a x) (k : Sz b y) : Sz (a + b) (x * y) := wide_lt h k
theorem sz_mod {a : Nat} {x y : Int} (hy : 0 < y) (k : Sz a y) : Sz a (x % y) := by
  have h1 := Int.emod_nonneg x (by omega : y ≠ 0)
  have h2 := Int.emod_lt_of_pos x hy
  have k' : y.natAbs < 2 ^ a := k
  unfold Sz
  omega
theorem sz_lt {a : Nat} {x y : Int} (h0 : 0 ≤ x) (h1 : x < y) (k : Sz a y) : Sz a x := by
  have k' : y.natAbs < 2 ^ a := k
  unfold Sz
  omega
theorem sz_b {b : Bool} : Sz 1 (if b then 1 else 0) := by cases b <;> decide
theorem sz_128 {x : Int} (h : decide (x.natAbs < 2 ^ 128) = true) : Sz 128 x := of_decide_eq_true h
theorem sz_2 {x : Int} (h : decide (x.natAbs < 2 ^ 2) = true) : Sz 2 x := of_decide_eq_true h
theorem sz_8 {x : Int} (h : decide (x.natAbs < 2 ^ 8) = true) : Sz 8 x := of_decide_eq_true h
theorem sz_32 {x : Int} (h : decide (x.natAbs < 2 ^ 32) = true) : Sz 32 x := of_decide_eq_true h
theorem hu65_of {k : Nat} {A : Around} (hr : Room k A) : A.units + 65 < cLine := by have := hr.un; omega
theorem mulw_of {a b : Nat} {x y : Int} (h : Sz a x) (k : Sz b y) (l : (a + 1) + (b + 1) ≤ 1000000) : CMulW x y :=
  wide_mul (a := a + 1) (b := b + 1) (sz_mono h (Nat.le_succ a)) (sz_mono k (Nat.le_succ b)) (Nat.succ_pos _) (Nat.succ_pos _) l
theorem divw_of {b : Nat} {x y : Int} (h : 0 < y) (k : Sz b y) (l : b + 1 ≤ 9000) : CDivW x y := wide_div (b := b + 1) h (sz_mono k (Nat.le_succ b)) (Nat.succ_pos _) l
abbrev pt (x y : Int) : D := .tup [.int x, .int y]
def sgn (n : Int) : Int := if 0 < n then 1 else if n < 0 then -1 else 0
section
variable {X : Cx} {K : PySem.W.Frag}
theorem ix_seqK (h : X.K = K) : IxR X (rIx K) := by subst h; exact ix_seq
theorem op_eqDK (h : X.K = K) (hu : X.A.units + 64 < cLine) : OpR X (compareOp .Eq) (rEqD K) := by subst h; exact op_eqD hu
theorem op_inSK (h : X.K = K) (hu : X.A.units + 65 < cLine) : OpR X (compareOp .In) (rInS K false) := by subst h; exact op_inS hu
theorem op_notInSK (h : X.K = K) (hu : X.A.units + 65 < cLine) : OpR X (compareOp .NotIn) (rInS K true) := by subst h; exact op_notInS hu
theorem call_isiK1 (h : X.K = K) : CallR X (.builtin "isinstance") (rIsi K) := by subst h; exact call_isi
theorem call_lenK (h : X.K = K) : CallR X (.builtin "len") (fun xs H Q => ∃ x n, xs = [x] ∧ LenV K x H n ∧ Q (.int n) H) := by subst h; exact call_len
theorem cr_allK (h : X.K = K) (hc : X.calm = true) : CallR X (.builtin "all") (rAll K) := by subst h; exact cr_all hc
theorem call_tupleK (h : X.K = K) : CallR X (.type "tuple") (fun xs H Q => ∃ p ys, xs = [V.ref p] ∧ ((SqL K H p ys ∧ ∀ l, H l = none → Q (.ref l) (upd H l (.tup ys))) ∨ (SqT K H p ys ∧ Q (.ref p) H))) := by subst h; exact call_tuple_of
theorem call_listK (h : X.K = K) : CallR X (.type "list") (fun xs H Q => ∃ p ys, xs = [V.ref p] ∧ (SqL K H p ys ∨ SqT K H p ys) ∧ ∀ l, H l = none → Q (.ref l) (upd H l (.lst ys))) := by subst h; exact call_list_of
theorem pe_fldK {e : Expr} {ta : TE} {f : Str} {pos : Pos} (h : X.K = K) (he : PE X e ta) (hb : attributeBase e f X.env (eval e X.env) = eval e X.env) : PE X (.Attribute e f pos) (tFld K ta f) := by subst h; exact pe_fld he hb
theorem pi_listK {tg l : Expr} {tl : TE} (h : X.K = K) (hl : PE X l tl) : PI X tg l (iList K tl) := by subst h; exact pi_list hl
theorem pi_tupK {tg l : Expr} {tl : TE} (h : X.K = K) (hl : PE X l tl) : PI X tg l (iTup K tl) := by subst h; exact pi_tup hl
end
end Z
namespace Z
open PySem L2
def P_law : PT3 := fun ds μ Φ => ∃ ns : List Int, ds = [.rol (ns.map D.int)] ∧ ns.length ≤ 63 ∧ ∀ μ', Φ (.bl true) μ'
theorem rels_map {K : PySem.W.Frag} {H : Hp} : ∀ ns : List Int, Rels K H (ns.map V.int) (ns.map D.int)
  | [] => .nil
  | n :: ns => .cons (.int n) (rels_map ns)
theorem law_start {K : PySem.W.Frag} {H : Hp} {a : Addr} {ns : List Int} (hl : ns.length ≤ 63) (hO : Only H) (hS : SqL K H a (ns.map V.int)) : spI K P_law [.ref a] H (fun v _ => v = .bl true) fun _ _ _ => False := by
  have hr : RolAt K H a (ns.map V.int) := by
    rcases hS with (h | ⟨o, h⟩) | h
    · rcases hO a with e | ⟨o, xs, e⟩
      · rw [e] at h; cases h
      · rw [e] at h; cases h
    · exact .inl ⟨o, h⟩
    · exact .inr h
  refine ⟨[.rol (ns.map D.int)], fun _ => none, fun d _ => d = .bl true, .cons (.rol hr (rels_map ns)) .nil, fun a m e => (by cases e), ⟨ns, rfl, hl, fun _ => rfl⟩, fun d μ' v H' f c r e => ?_⟩
  subst e
  cases r
  rfl
theorem len_law (ds : List D) (μ : M) (Φ : D → M → Prop) (h : P_law ds μ Φ) : ds.length = 1 := by
  obtain ⟨ns, rfl, _⟩ := h
  rfl
/-- a bag: what its second number is -/
def BgOk (m : Int) : Prop := 0 ≤ m ∧ m < 2147483648
def P_l_bag : PT3 := fun ds μ Φ => ∃ (ns : List Int) (k : Int), ds = [.rol (ns.map D.int), .int k] ∧ 0 ≤ k ∧ k ≤ 1000 ∧ ∀ p c m, μ p = none → BgOk m → Φ (.ref p) (μ.set p (.lst [.int c, .int m]))
theorem len_l_bag (ds : List D) (μ : M) (Φ : D → M → Prop) (h : P_l_bag ds μ Φ) : ds.length = 2 := by
  obtain ⟨_, _, rfl, _⟩ := h
  rfl
def P_l_take : PT3 := fun ds μ Φ => ∃ (b : Addr) (n c m : Int), ds = [.ref b, .int n] ∧ μ b = some (.lst [.int c, .int m]) ∧ BgOk m ∧ 0 < n ∧ Sz 4000 n ∧ ∀ d c' m', 0 ≤ d → d < n → Sz 4000 d → BgOk m' → Φ (.int d) (μ.set b (.lst [.int c', .int m']))
theorem len_l_take (ds : List D) (μ : M) (Φ : D → M → Prop) (h : P_l_take ds μ Φ) : ds.length = 2 := by
  obtain ⟨_, _, _, _, rfl, _⟩ := h
  rfl
theorem iteNT {A B : Prop} (h : B) : if (!true) = true then A else B := h
theorem iteNF {A B : Prop} (h : A) : if (!false) = true then A else B := h
/-- an if whose test is a comparison -/
theorem ite_d {p : Prop} [Decidable p] {A B : Prop} (h1 : p → A) (h2 : ¬ p → B) : if decide p = true then A else B := by
  by_cases h : p
  · rw [if_pos (decide_eq_true h)]; exact h1 h
  · rw [if_neg (by simpa using h)]; exact h2 h
theorem ite_nd {p : Prop} [Decidable p] {A B : Prop} (h1 : ¬ p → A) (h2 : p → B) : if (!decide p) = true then A else B := by
  by_cases h : p
  · rw [if_neg (by simpa using h)]; exact h2 h
  · rw [if_pos (by simpa using h)]; exact h1 h
theorem map_get {ns : List Int} {k : Int} (h0 : 0 ≤ k) (h1 : k < ns.length) : ∃ z, atI (ns.map D.int) k = some (.int z) := by
  obtain ⟨j, rfl⟩ := Int.eq_ofNat_of_zero_le h0
  have hj : j < ns.length := by omega
  exact ⟨ns[j], atI_nat (by rw [List.getElem?_map, List.getElem?_eq_getElem hj]; rfl)⟩
/-- an if, then a word of what holds behind it -/
theorem if_cut {K : PySem.W.Frag} {τ : T} {μ : M} {N : AEnds} {t1 t2 : TS} {b : Bool} (M0 : T → M → Prop) (h1 : b = true → AS K t1 τ μ { N with nx := M0 }) (h2 : b = false → AS K t2 τ μ { N with nx := M0 }) (k : ∀ τ' μ', M0 τ' μ' → N.nx τ' μ') :
    if b = true then AS K t1 τ μ N else AS K t2 τ μ N := by
  cases b with
  | true => rw [if_pos rfl]; exact (h1 rfl).imp k (fun _ _ h => h) (fun _ _ h => h) fun _ _ h => h
  | false => rw [if_neg Bool.false_ne_true]; exact (h2 rfl).imp k (fun _ _ h => h) (fun _ _ h => h) fun _ _ h => h
section
variable {K : PySem.W.Frag} {τ : T} {μ μ1 μ2 : M} {Φ : D → M → Prop} {tl te : TE} {tt : TT}
theorem sets1 {j : Nat} {x : D} : sets τ [j] [x] = τ.set j (some x) := rfl
theorem filt_step {f : D → D} {p : D → Bool} {ds : List D} {i : Nat} {x : D} (h : ds[i]? = some x) : (ds.take (i + 1)).filter p = (ds.take i).filter p ++ (if p x = true then [x] else []) := by
  rw [List.take_add_one, h, List.filter_append]
  congr 1
  simp only [Option.toList_some, List.filter_cons, List.filter_nil]
theorem lc_pure_turn {j : Nat} (f : D → D) (p : D → Bool) {ds : List D} {i : Nat} {x : D} (hz : ds.length < sizeLine) (hx : ds[i]? = some x)
    (ht : AT K tt (τ.set j (some x)) μ1 fun b μ2 => b = p x ∧ μ2 = μ1) (he : p x = true → AE K te (τ.set j (some x)) μ1 fun y μ2 => y = f x ∧ μ2 = μ1) :
    LcTurn K τ tt te [j] (fun d ds => ds = [d]) x (((ds.take i).filter p).map f) μ1 fun acc μ' => μ' = μ1 ∧ acc = ((ds.take (i + 1)).filter p).map f := by
  refine ⟨[x], rfl, rfl, ?_⟩
  rw [sets1]
  refine ht.imp fun b μ' ⟨e1, e2⟩ => ?_
  subst e2
  rw [filt_step (f := f) hx]
  cases b with
  | true =>
    rw [if_pos rfl]
    refine (he e1.symm).imp fun y μ' ⟨e3, e4⟩ => ?_
    subst e4
    refine ⟨?_, rfl, ?_⟩
    · rw [List.length_map]
      have h1 := List.length_filter_le p (ds.take i)
      have h2 : (ds.take i).length ≤ ds.length := by rw [List.length_take]; omega
      omega
    · rw [if_pos e1.symm, List.map_append, e3]
      rfl
  | false =>
    rw [if_neg Bool.false_ne_true]
    refine ⟨rfl, ?_⟩
    rw [if_neg (by rw [← e1]; exact Bool.false_ne_true), List.append_nil]
end
end Z
namespace Z
open PySem L2
/-- J yields xs in turn while G stands; what is at out is not in the store meanwhile -/
structure WalkD (K : PySem.W.Frag) (J : It) (xs : List D) (out : Addr → Prop) (G : Hp → Prop) : Prop where
  keep : ∀ H H' μ μ', Z.Con K H μ → (∀ a, out a → μ a = none) → G H → Fr μ μ' H H' → G H'
  oo : ∀ H a, G H → out a → ∃ o, H a = some o
  go : ∀ i H, i < xs.length → G H → J.go i H
  stop : ∀ i H, xs.length ≤ i → G H → J.stop i H
  yld : ∀ i H v H', i < xs.length → G H → J.yld i H v H' → ∃ x, xs[i]? = some x ∧ Rel K H' v x ∧ (H' = H ∨ ∃ T vs, H T = none ∧ H' = upd H T (.tup vs))
/-- how the store is put together again -/
structure Back (K : PySem.W.Frag) (μ μw : M) (H H1 : Hp) (back : M → M) : Prop where
  fr : ∀ μ' H', Fr μw μ' H1 H' → Fr μ (back μ') H H'
  con : ∀ μ' H', Fr μw μ' H1 H' → Z.Con K H' μ' → Z.Con K H' (back μ')
  nw : ∀ μ' p, H1 p = none → μ' p = none → back μ' p = none
  old : ∀ b o, μ b = none → H b = some o → H1 b = some o
/-- a source: what follows is told of the items, the store while it is walked, the way back -/
def AI (K : PySem.W.Frag) (wi : TI) (τ : T) (μ : M) (Ψ : List D → M → (M → M) → Prop) : Prop :=
  ∀ σ H, Slots K H τ σ → Z.Con K H μ → ∀ R : It → Hp → Prop,
    (∀ J xs out G H1 μw back, Tx H H1 → Z.Con K H1 μw → WalkD K J xs out G → G H1 → (∀ a, out a → μw a = none) → Back K μ μw H H1 back → Ψ xs μw back → R J H1) → wi σ H R
section
variable {K : PySem.W.Frag} {τ : T} {μ μ1 μ2 : M} {H H1 H2 H' : Hp} {σ : L2.St} {Φ : D → M → Prop} {ta tl te : TE} {tt : TT} {N : AEnds} {ts tb : TS} {g : TG} {wi : TI}
def turnB (N : AEnds) (back : M → M) (P : T → M → Prop) : AEnds := { nx := P, ct := P, rt := fun d μ' => N.rt d (back μ'), bk := fun τ' μ' => N.nx τ' (back μ'), W := N.W, cn := N.cn, xs := fun x dx τ' μ' => N.xs x dx τ' (back μ') }
/-- behind one yield -/
theorem yld_ok {T0 : Addr} {vs : List V} (c : Z.Con K H μ) (h : H T0 = none) : Fr μ μ H (upd H T0 (.tup vs)) ∧ Z.Con K (upd H T0 (.tup vs)) μ := ⟨fr_new h, con_new h c⟩
theorem s_for (h : AI K wi τ μ fun xs μw back => ∃ P : Nat → T → M → Prop, P 0 τ μw ∧ (∀ (i : Nat) x τ' μ', xs[i]? = some x → P i τ' μ' → AG K g x τ' μ' fun τ2 μ2 => AS K tb τ2 μ2 (turnB N back (P (i + 1)))) ∧ ∀ τ' μ', P xs.length τ' μ' → N.nx τ' (back μ')) :
    AS K (tFor wi g tb) τ μ N := fun σ H s c E k => by
  refine h σ H s c _ fun J xs out G H1 μw back tx c1 W g1 o1 B ⟨P, p0, hs, hd⟩ => ?_
  refine ⟨fun i m σ' H' => m = xs.length - i ∧ i ≤ xs.length ∧ ∃ τ' μ', Fr μw μ' H1 H' ∧ Z.Con K H' μ' ∧ Slots K H' τ' σ' ∧ P i τ' μ', ⟨xs.length, by omega, Nat.zero_le _, τ, μw, Fr.refl, c1, s.mono tx, p0⟩, ?_⟩
  rintro i m σ' H' ⟨rfl, hi, τ', μ', f, c', s', p⟩
  have gH : G H' := W.keep _ _ _ _ c1 o1 g1 f
  by_cases hlt : i < xs.length
  · refine .inr ⟨W.go i H' hlt gH, fun σ2 H2 => ∃ τ2 μ2, Fr μw μ2 H1 H2 ∧ Z.Con K H2 μ2 ∧ Slots K H2 τ2 σ2 ∧ P (i + 1) τ2 μ2, fun σ2 H2 ⟨τ2, μ2, f2, c2, s2, p2⟩ => ⟨xs.length - (i + 1), by omega, rfl, hlt, τ2, μ2, f2, c2, s2, p2⟩, fun v H2 y => ?_⟩
    obtain ⟨x, hx, rx, hH⟩ := W.yld i H' v H2 hlt gH y
    have fy : Fr μ' μ' H' H2 ∧ Z.Con K H2 μ' := by
      rcases hH with e | ⟨T0, vs, hT, e⟩
      · rw [e]; exact ⟨Fr.refl, c'⟩
      · rw [e]; exact yld_ok c' hT
    refine hs i x τ' μ' hx p σ' H2 v (s'.mono (fy.1.tx c')) fy.2 rx _ fun τ3 μ3 σ3 H3 f3 c3 s3 q => ?_
    have fa := (f.trans fy.1).trans f3
    refine q σ3 H3 s3 c3 _ ⟨fun τ4 μ4 σ4 H4 f4 c4 s4 p4 => ⟨τ4, μ4, fa.trans f4, c4, s4, p4⟩, fun d4 μ4 v4 H4 f4 c4 r4 p4 => ?_, fun τ4 μ4 σ4 H4 f4 c4 s4 p4 => ?_, fun τ4 μ4 σ4 H4 f4 c4 s4 p4 => ⟨τ4, μ4, fa.trans f4, c4, s4, p4⟩, fun x1 x2 x3 x4 x5 x6 x7 x8 f' c' s' p' => k.wx x1 x2 x3 _ x5 x6 x7 x8 (B.fr _ _ (fa.trans f')) (B.con _ _ (fa.trans f') c') s' p'⟩
    · exact k.rt d4 (back μ4) v4 H4 (B.fr _ _ (fa.trans f4)) (B.con _ _ (fa.trans f4) c4) r4 p4
    · exact k.nx τ4 (back μ4) σ4 H4 (B.fr _ _ (fa.trans f4)) (B.con _ _ (fa.trans f4) c4) s4 p4
  · have e : i = xs.length := by omega
    subst e
    exact .inl ⟨W.stop _ H' (Nat.le_refl _) gH, k.nx τ' (back μ') σ' H' (B.fr _ _ f) (B.con _ _ f c') s' (hd τ' μ' p)⟩
theorem a_lc {js : List Nat} {dec : D → List D → Prop} (hg : TgOk K g js dec)
    (h : AI K wi τ μ fun xs μw back => ∃ P : Nat → List D → M → Prop, P 0 [] μw ∧ (∀ (i : Nat) x acc μ', xs[i]? = some x → P i acc μ' → LcTurn K τ tt te js dec x acc μ' (P (i + 1))) ∧ ∀ acc μ', P xs.length acc μ' → ∀ p, back μ' p = none → Φ (.ref p) ((back μ').set p (.lst acc))) :
    AE K (tLc wi g tt te js) τ μ Φ := fun σ H s c Q k => by
  refine h σ H s c _ fun J xs out G H1 μw back tx c1 W g1 o1 B ⟨P, p0, hs, hd⟩ Dl hD => ?_
  have s1 := s.mono tx
  refine ⟨fun i m H' => m = xs.length - i ∧ i ≤ xs.length ∧ ∃ acc μ', LcAt K Dl μw H1 acc μ' H' ∧ P i acc μ', ⟨xs.length, by omega, Nat.zero_le _, [], μw, lc_start c1 hD, p0⟩, ?_⟩
  rintro i m H' ⟨rfl, hi, acc, μ', L, p⟩
  have gH : G H' := W.keep _ _ _ _ c1 o1 g1 L.fr
  by_cases hlt : i < xs.length
  · refine .inr ⟨W.go i H' hlt gH, fun H2 => ∃ acc2 μ2, LcAt K Dl μw H1 acc2 μ2 H2 ∧ P (i + 1) acc2 μ2, fun H2 ⟨acc2, μ2, L2, p2⟩ => ⟨xs.length - (i + 1), by omega, rfl, hlt, acc2, μ2, L2, p2⟩, fun v H2 y => ?_⟩
    obtain ⟨x, hx, rx, hH⟩ := W.yld i H' v H2 hlt gH y
    have L2 : LcAt K Dl μw H1 acc μ' H2 := by
      rcases hH with e | ⟨T0, vs, hT, e⟩
      · rw [e]; exact L
      · obtain ⟨f2, c2⟩ := yld_ok (vs := vs) L.con hT
        obtain ⟨ws, hw, hr⟩ := L.at_
        rw [e]
        exact ⟨L.fr.trans f2, c2, L.no, ws, by rw [upd_ne (fun z => by rw [z, hT] at hw; cases hw)]; exact hw, Rels.mono (tx_new hT) _ _ hr⟩
    exact lc_step hD hg s1 c1 L2 rx (hs i x acc μ' hx p) fun acc2 μ2 H3 L3 p3 => ⟨acc2, μ2, L3, p3⟩
  · have e : i = xs.length := by omega
    subst e
    obtain ⟨vs, hv, hr⟩ := L.at_
    refine .inl ⟨W.stop _ H' (Nat.le_refl _) gH, ?_⟩
    have hbn : back μ' Dl = none := B.nw _ _ hD L.no
    have fb := B.fr _ _ L.fr
    have cb := B.con _ _ L.fr L.con
    refine k _ _ _ H' (fun b o n e => ?_) (con_back (m := .lst acc) cb ⟨vs, hv, hr⟩) (.ref Dl) (hd acc μ' p Dl hbn)
    obtain ⟨e2, n2⟩ := fb b o n e
    have hb : b ≠ Dl := fun z => by
      have e3 := B.old b o n e
      rw [z, hD] at e3; cases e3
    exact ⟨e2, by rw [set_ne hb]; exact n2⟩
theorem back_id (f : Fr μ μ1 H H1) : Back K μ μ1 H H1 id := ⟨fun _ _ g => f.trans g, fun _ _ _ c => c, fun _ _ _ h => h, fun b o n e => (f b o n e).1⟩
/-- a list set aside -/
theorem back_set {a : Addr} {vs : List V} {ds : List D} (c1 : Z.Con K H1 μ1) (hl : μ1 a = some (.lst ds)) (hx : H1 a = some (.lst vs)) (hr : Rels K H1 vs ds) (f : Fr μ μ1 H H1) : Back K μ (μ1.del a) H H1 (fun μ' => μ'.set a (.lst ds)) where
  fr := fun μ' H' g => fr_back hl f g
  con := fun μ' H' g c => con_back (m := .lst ds) c ⟨vs, (g a _ del_same hx).1, Rels.mono (g.tx (c1.sub del_sub)) _ _ hr⟩
  nw := fun μ' p hp n => by
    rw [set_ne (fun z => by rw [z, hx] at hp; cases hp)]
    exact n
  old := fun b o n e => (f b o n e).1
theorem walk_T {a : Addr} {vs : List V} {ds : List D} (hr : Rels K H1 vs ds) : WalkD K (Itt K a) ds (fun _ => False) (fun H' => TupAt K H' a vs ∧ Rels K H' vs ds) where
  keep := fun H H' μ μ' c _ g f => ⟨g.1.mono (f.tx c), Rels.mono (f.tx c) _ _ g.2⟩
  oo := fun _ _ _ h => h.elim
  go := fun i H' hi g => by
    have hv : i < vs.length := by rw [hr.length]; exact hi
    exact ⟨vs, vs[i], g.1.sq, List.getElem?_eq_getElem hv⟩
  stop := fun i H' hi g => ⟨vs, g.1.sq, by rw [hr.length]; exact hi⟩
  yld := fun i H' v H2 hi g y => by
    obtain ⟨e, q⟩ := y
    obtain ⟨x, h1, h2⟩ := g.2.getV (q vs g.1.sq)
    subst e
    exact ⟨x, h1, h2, .inl rfl⟩
theorem walk_L {a : Addr} {vs : List V} {ds : List D} (hr : Rels K H1 vs ds) : WalkD K (Itl K a) ds (fun b => b = a) (fun H' => H' a = some (.lst vs) ∧ Rels K H' vs ds) where
  keep := fun H H' μ μ' c o g f => ⟨(f a _ (o a rfl) g.1).1, Rels.mono (f.tx c) _ _ g.2⟩
  oo := fun _ b g h => by subst h; exact ⟨_, g.1⟩
  go := fun i H' hi g => by
    have hv : i < vs.length := by rw [hr.length]; exact hi
    exact ⟨vs, vs[i], SqL.of g.1, List.getElem?_eq_getElem hv⟩
  stop := fun i H' hi g => ⟨vs, SqL.of g.1, by rw [hr.length]; exact hi⟩
  yld := fun i H' v H2 hi g y => by
    obtain ⟨e, q⟩ := y
    obtain ⟨x, h1, h2⟩ := g.2.getV (q vs (SqL.of g.1))
    subst e
    exact ⟨x, h1, h2, .inl rfl⟩
theorem walk_N {lo : Int} {n : Nat} : WalkD K (Itr lo n) ((List.range n).map fun (i : Nat) => D.int (lo + i)) (fun _ => False) (fun _ => True) where
  keep := fun _ _ _ _ _ _ _ _ => trivial
  oo := fun _ _ _ h => h.elim
  go := fun i H' hi _ => by
    have h : i < n := by simpa using hi
    exact h
  stop := fun i H' hi _ => by
    have h : n ≤ i := by simpa using hi
    exact h
  yld := fun i H' v H2 hi _ y => by
    obtain ⟨e, e2⟩ := y
    have h : i < n := by simpa using hi
    subst e e2
    exact ⟨.int (lo + i), by simp [h], .int _, .inl rfl⟩
variable {Ψ : List D → M → (M → M) → Prop}
theorem ai_T (h : AE K tl τ μ fun d μ1 => ∃ ds, d = .tup ds ∧ Ψ ds μ1 id) : AI K (iTup K tl) τ μ Ψ := fun σ H s c R k => h σ H s c _ fun d μ1 v H1 f1 c1 r1 ⟨ds, e, q⟩ => by
  subst e
  cases r1 with
  | @tup a xs _ ha hr => exact ⟨a, rfl, ⟨xs, ha.sq⟩, k _ ds _ _ H1 μ1 id (f1.tx c) c1 (walk_T hr) ⟨ha, hr⟩ (fun _ z => z.elim) (back_id f1) q⟩
theorem ai_L (h : AE K tl τ μ fun d μ1 => ∃ a ds, d = .ref a ∧ μ1 a = some (.lst ds) ∧ Ψ ds (μ1.del a) (fun μ' => μ'.set a (.lst ds))) : AI K (iList K tl) τ μ Ψ := fun σ H s c R k => h σ H s c _ fun d μ1 v H1 f1 c1 r1 ⟨a, ds, e, hl, q⟩ => by
  subst e
  cases r1
  obtain ⟨xs, hx, hr⟩ := c1 a _ hl
  exact ⟨a, rfl, ⟨xs, SqL.of hx⟩, k _ ds _ _ H1 (μ1.del a) _ (f1.tx c) (c1.sub del_sub) (walk_L hr) ⟨hx, hr⟩ (fun b z => by rw [z]; exact del_same) (back_set c1 hl hx hr f1) q⟩
theorem ai_1 {ta : TA} (h : AA K ta τ μ fun ds μ1 => ∃ n : Int, ds = [.int n] ∧ -(2 ^ 62) ≤ n ∧ n < 2 ^ 62 ∧ Ψ ((List.range n.toNat).map fun (i : Nat) => D.int (0 + i)) μ1 id) : AI K (iRng1 ta) τ μ Ψ := fun σ H s c R k => h σ H s c _ fun ds μ1 vs H1 f1 c1 r1 ⟨n, e, h1, h2, q⟩ => by
  subst e
  cases r1 with
  | cons r rr =>
    cases r
    cases rr
    exact ⟨n, rfl, h1, h2, k _ _ _ _ H1 μ1 id (f1.tx c) c1 walk_N trivial (fun _ z => z.elim) (back_id f1) q⟩
/-- a, b, .. = a list of the store, or a read-only one -/
theorem g_lst {n : Nat} {gs : TGs} {ds : List D} {d : D} {Θ : T → M → Prop} (hs : seqD μ d = some ds) (hd : ∀ es, d ≠ .tup es) (hn : ds.length = n) (h : AGs K gs ds τ μ Θ) : AG K (gLst K n gs) d τ μ Θ := fun σ H v s c r Q k => by
  obtain ⟨a, xs, e, hq, hr⟩ := seq_of c r hs
  subst e
  rcases hq with hq | hq
  · exact ⟨a, xs, rfl, hq, by rw [hr.length]; exact hn, h σ H _ s c hr Q k⟩
  · cases r with
    | tup ht hr' => exact absurd rfl (hd _)
    | rol ht hr' => cases hs; exact ⟨_, _, rfl, ht.sq, by rw [hr'.length]; exact hn, h σ H _ s c hr' Q k⟩
    | ref a =>
      unfold seqD at hs
      simp only at hs
      split at hs
      · rename_i ds' e
        cases hs
        obtain ⟨ys, h1, h2⟩ := c _ _ e
        exact ⟨_, ys, rfl, SqL.of h1, by rw [h2.length]; exact hn, h σ H _ s c h2 Q k⟩
      · cases hs
/-- a comprehension whose turns leave nothing, one name as target -/
theorem a_lc1 {j : Nat} (f : D → D) (p : D → Bool) (h : AI K wi τ μ fun xs μw back => xs.length < sizeLine ∧ (∀ x ∈ xs, AT K tt (τ.set j (some x)) μw fun b μ2 => b = p x ∧ μ2 = μw) ∧ (∀ x ∈ xs, p x = true → AE K te (τ.set j (some x)) μw fun y μ2 => y = f x ∧ μ2 = μw) ∧ ∀ q, back μw q = none → Φ (.ref q) ((back μw).set q (.lst ((xs.filter p).map f)))) :
    AE K (tLc wi (gName j) tt te [j]) τ μ Φ := a_lc tg_name (fun σ H s c R k => h σ H s c R fun J xs out G H1 μw back tx c1 W g1 o1 B ⟨hz, ht, he, q⟩ => k J xs out G H1 μw back tx c1 W g1 o1 B (by
  refine ⟨fun i acc μ' => μ' = μw ∧ acc = ((xs.take i).filter p).map f, ⟨rfl, rfl⟩, ?_, ?_⟩
  · rintro i x acc μ' hx ⟨rfl, rfl⟩
    exact lc_pure_turn f p hz hx (ht x (List.mem_of_getElem? hx)) (he x (List.mem_of_getElem? hx))
  · rintro acc μ' ⟨rfl, rfl⟩ a ha
    rw [List.take_length]
    exact q a ha))
end
end Z
namespace Z
open PySem L2
def Up (Φ : D → M → Prop) : D → M → Prop := fun d μ' => ∃ μ2, Sub μ2 μ' ∧ Φ d μ2
theorem up_of {Φ : D → M → Prop} {d : D} {μ2 μ' : M} (s : Sub μ2 μ') (h : Φ d μ2) : Up Φ d μ' := ⟨μ2, s, h⟩
theorem up {Φ : D → M → Prop} {d : D} {μ' : M} (h : Φ d μ') : Up Φ d μ' := ⟨μ', Sub.refl, h⟩
theorem body_okU {K : PySem.W.Frag} {H : Hp} {ts : TS} {P : PT3} {E : XK} {Ns : List Str} {vs : List V} {Q : VK} (h : spI K P vs H Q E) (hb : ∀ ds μ Φ, P ds μ Φ → AS K ts (startD Ns.length ds) μ { nx := fun _ μ' => Up Φ .non μ', rt := Up Φ }) :
    ts { nx := fun _ H' => Q .non H', rt := Q } (L2.start Ns vs) H := by
  obtain ⟨ds, μ, Φ, r, c, p, k⟩ := h
  refine hb ds μ Φ p _ H (slots_start r) c _ ⟨fun _ μ' _ H' f c' _ q => ?_, fun d μ' v H' f c' r' q => ?_, fun _ _ _ _ _ _ _ q => q.elim, fun _ _ _ _ _ _ _ q => q.elim, fun _ _ _ _ _ _ _ _ _ _ _ q => q.elim⟩
  · obtain ⟨μ2, sb, q⟩ := q
    exact k .non μ2 .non H' (f.sub sb) (c'.sub sb) .non q
  · obtain ⟨μ2, sb, q⟩ := q
    exact k d μ2 v H' (f.sub sb) (c'.sub sb) r' q
def SubB (b : Addr) (μ μ' : M) : Prop := ∀ a m, a ≠ b → μ a = some m → μ' a = some m
section
variable {μ μ' : M} {b l : Addr} {X Y : MO}
theorem sb_refl : SubB b μ μ := fun _ _ _ h => h
theorem sb_self (h : SubB b μ μ') : SubB b μ (μ'.set b Y) := fun a m n e => by rw [set_ne n]; exact h a m n e
theorem sb_new (h : SubB b μ μ') (hn : μ' l = none) : SubB b μ (μ'.set l Y) := fun a m n e => by
  have h2 := h a m n e
  rw [set_ne (fun z => by rw [z, hn] at h2; cases h2)]
  exact h2
theorem sb_sub (h : SubB b μ μ') : Sub (μ.set b X) (μ'.set b X) := fun a m e => by
  by_cases ha : a = b
  · subst ha; rw [set_same] at e ⊢; exact e
  · rw [set_ne ha] at e ⊢; exact h a m ha e
theorem sub_new (h : Sub μ μ') (hn : μ' l = none) : Sub μ (μ'.set l Y) := fun a m e => by
  have h2 := h a m e
  rw [set_ne (fun z => by rw [z, hn] at h2; cases h2)]
  exact h2
theorem none_ne {m : MO} (h : (μ.set b m) l = none) : l ≠ b := fun z => by subst z; rw [set_same] at h; cases h
theorem none_back {m : MO} (h : (μ.set b m) l = none) : μ l = none := by
  have n := none_ne h
  rw [set_ne n] at h
  exact h
theorem ne_of_some {m : MO} (h : μ l = none) (k : μ b = some m) : l ≠ b := fun z => by subst z; rw [h] at k; cases k
end
abbrev Fq := Int × Int
abbrev Pl := Fq × Fq
end Z
namespace Z
open PySem L2
section
variable {K : PySem.W.Frag} {μ μ' : M} {Φ : D → M → Prop} {b l : Addr} {X : MO}
theorem ro_isB {a b : Bool} (q : Φ (.bl (decide (a = b))) μ) : RO K rIsB (.bl a) (.bl b) μ Φ := fun H x y c r1 r2 Q k => by
  cases r1; cases r2
  exact ⟨a, b, rfl, rfl, k _ μ _ H Fr.refl c (.bl _) q⟩
theorem ro_notB {a b : Bool} (q : Φ (.bl (!decide (a = b))) μ) : RO K rNotB (.bl a) (.bl b) μ Φ := fun H x y c r1 r2 Q k => by
  cases r1; cases r2
  exact ⟨a, b, rfl, rfl, k _ μ _ H Fr.refl c (.bl _) q⟩
theorem sb_end (h : SubB b μ μ') (e : μ' b = some X) : Sub (μ.set b X) μ' := fun a m q => by
  by_cases ha : a = b
  · subst ha; rw [set_same] at q; rw [e]; exact q
  · rw [set_ne ha] at q; exact h a m ha q
theorem sb_trans {μ2 : M} (h : SubB b μ μ') (k : SubB b μ' μ2) : SubB b μ μ2 := fun a m n e => k a m n (h a m n e)
end
structure Gd (n : Nat) (p : Fq) : Prop where
  pos : 0 < p.2
  s1 : Sz n p.1
  s2 : Sz n p.2
structure GdP (n : Nat) (p : Pl) : Prop where
  x : Gd n p.1
  y : Gd n p.2
theorem Gd.mono {n m : Nat} {p : Fq} (h : Gd n p) (l : n ≤ m) : Gd m p := ⟨h.pos, sz_mono h.s1 l, sz_mono h.s2 l⟩
theorem GdP.mono {n m : Nat} {p : Pl} (h : GdP n p) (l : n ≤ m) : GdP m p := ⟨h.x.mono l, h.y.mono l⟩
end Z
namespace Z
open PySem L2
def AO (K : PySem.W.Frag) (to : TO) (τ : T) (μ : M) (Θ : Option Int → M → Prop) : Prop :=
  ∀ σ H, Slots K H τ σ → Z.Con K H μ → ∀ R : Option Int → Hp → Prop, (∀ o μ' H', Fr μ μ' H H' → Z.Con K H' μ' → Θ o μ' → R o H') → to σ H R
/-- what a slice of d answers -/
def RS (K : PySem.W.Frag) (r : V → Option Int → Option Int → Hp → VK → Prop) (d : D) (lo hi : Option Int) (μ : M) (Φ : D → M → Prop) : Prop :=
  ∀ H x, Z.Con K H μ → Rel K H x d → ∀ Q : VK, (∀ z μ' v H', Fr μ μ' H H' → Z.Con K H' μ' → Rel K H' v z → Φ z μ' → Q v H') → r x lo hi H Q
def cutD (ds : List D) (lo hi : Option Int) : List D := (ds.drop (HT.sIx ds.length 0 lo)).take (HT.sIx ds.length ds.length hi - HT.sIx ds.length 0 lo)
section
variable {K : PySem.W.Frag} {τ : T} {μ μ1 μ2 : M} {H H1 H2 H' : Hp} {σ : L2.St} {Φ : D → M → Prop} {ta tl te : TE} {to tp : TO} {Θ : Option Int → M → Prop} {d e : D}
theorem ao_no (h : Θ none μ) : AO K tNoPart τ μ Θ := fun σ H s c R k => k none μ H Fr.refl c h
theorem ao_pt (h : AE K te τ μ fun d μ1 => ∃ i, d = .int i ∧ Θ (some i) μ1) : AO K (tPart te) τ μ Θ := fun σ H s c R k => h σ H s c _ fun d μ1 v H1 f1 c1 r1 ⟨i, e, q⟩ => by
  subst e
  cases r1
  exact ⟨i, rfl, k (some i) μ1 H1 f1 c1 q⟩
theorem a_sl {r : V → Option Int → Option Int → Hp → VK → Prop} (h : AE K te τ μ fun d μ1 => AO K to τ μ1 fun lo μ2 => AO K tp τ μ2 fun hi μ3 => RS K r d lo hi μ3 Φ) : AE K (L2.tSl r te to tp) τ μ Φ := fun σ H s c Q k =>
  h σ H s c _ fun d μ1 v H1 f1 c1 r1 p1 => p1 σ H1 (s.mono (f1.tx c)) c1 _ fun lo μ2 H2 f2 c2 p2 => p2 σ H2 (s.mono ((f1.trans f2).tx c)) c2 _ fun hi μ3 H3 f3 c3 p3 =>
    p3 H3 v c3 (Rel.mono ((f2.trans f3).tx c1) _ _ r1) Q fun z μ' w H' f c' rz pz => k z μ' w H' (((f1.trans f2).trans f3).trans f) c' rz pz
theorem Rels.cut {vs : List V} {ds : List D} (lo hi : Option Int) (r : Rels K H vs ds) : Rels K H (cutV vs lo hi) (cutD ds lo hi) := by
  unfold cutV cutD
  rw [r.length]
  exact (r.drop _).take _
theorem rs_ref {a : Addr} {ds : List D} {lo hi : Option Int} (h : μ a = some (.lst ds)) (q : ∀ p, μ p = none → Φ (.ref p) (μ.set p (.lst (cutD ds lo hi)))) : RS K (rSlL K) (.ref a) lo hi μ Φ := fun H x c r Q k => by
  cases r
  obtain ⟨xs, hx, hr⟩ := c a _ h
  exact ⟨a, xs, rfl, SqL.of hx, fun p hp => k _ _ _ _ (fr_put hp) (con_put (m := .lst (cutD ds lo hi)) hp c ⟨_, upd_same, Rels.mono (tx_new hp) _ _ (hr.cut lo hi)⟩) (.ref p) (q p (c.free hp))⟩
theorem rs_rol {ds : List D} {lo hi : Option Int} (q : ∀ p, μ p = none → Φ (.ref p) (μ.set p (.lst (cutD ds lo hi)))) : RS K (rSlL K) (.rol ds) lo hi μ Φ := fun H x c r Q k => by
  cases r with
  | @rol a xs _ ht hr => exact ⟨a, xs, rfl, ht.sq, fun p hp => k _ _ _ _ (fr_put hp) (con_put (m := .lst (cutD ds lo hi)) hp c ⟨_, upd_same, Rels.mono (tx_new hp) _ _ (hr.cut lo hi)⟩) (.ref p) (q p (c.free hp))⟩
/-- two lists of the store, put together -/
theorem ro_cat {a b : Addr} {ds es : List D} (h1 : μ a = some (.lst ds)) (h2 : μ b = some (.lst es)) (hz : ds.length + es.length ≤ sizeLine) (q : ∀ p, μ p = none → Φ (.ref p) (μ.set p (.lst (ds ++ es)))) : RO K rCat (.ref a) (.ref b) μ Φ := fun H x y c r1 r2 Q k => by
  cases r1
  cases r2
  obtain ⟨xs, hx, hr⟩ := c a _ h1
  obtain ⟨ys, hy, hr2⟩ := c b _ h2
  exact ⟨a, b, xs, ys, rfl, rfl, hx, hy, by rw [hr.length, hr2.length]; exact hz, fun p hp => k _ _ _ _ (fr_put hp) (con_put (m := .lst (ds ++ es)) hp c ⟨_, upd_same, Rels.mono (tx_new hp) _ _ (hr.append hr2)⟩) (.ref p) (q p (c.free hp))⟩
end
end Z
namespace ZL
open PySem PySem.Spec PyProof.Rows PySem.Calls PySem.W
section
variable {prog : Program} {w : World} {A : Around} {E : Value → Shared → Prop} {s : Shared} {z TI TO T S i1 i2 l1 l2 : Addr} {xs ys : Array Value}
/-- how the zip stands ahead of turn k, while a list S takes its pairs -/
def ZSt (h : Heap) (z TI TO i1 i2 l1 l2 S : Addr) (xs ys : Array Value) (k : Nat) : Prop :=
  (IsPair h TI (.ref i1) (.ref i2) ∧ h.IsTupleIter i1 l1 k ∧ h.IsTupleIter i2 l2 k ∧ h.IsTuple l1 xs ∧ h.IsTuple l2 ys) ∧
  ((IsZip h z TI TO .none ∧ ∃ u v, IsPair h TO u v) ∨ ∃ T f oT, IsZipHeld h z TI TO T f ∧ h.get? T = some oT ∧ T ≠ z ∧ T ≠ i1 ∧ T ≠ i2 ∧ T ≠ S)
structure Off (S z TI TO i1 i2 l1 l2 : Addr) : Prop where
  sz : S ≠ z
  sTI : S ≠ TI
  sTO : S ≠ TO
  s1 : S ≠ i1
  s2 : S ≠ i2
  sl1 : S ≠ l1
  sl2 : S ≠ l2
theorem ZSt.keep {h h' : Heap} {k : Nat} (O : Off S z TI TO i1 i2 l1 l2) (st : ZSt h z TI TO i1 i2 l1 l2 S xs ys k) (hk : ∀ b o, b ≠ S → h.get? b = some o → h'.get? b = some o) : ZSt h' z TI TO i1 i2 l1 l2 S xs ys k := by
  obtain ⟨⟨a1, a2, a3, ⟨o4, a4, b4⟩, ⟨o5, a5, b5⟩⟩, q⟩ := st
  refine ⟨⟨hk _ _ O.sTI.symm a1, a2.at fun o e => hk _ _ O.s1.symm e, a3.at fun o e => hk _ _ O.s2.symm e, ⟨o4, hk _ _ O.sl1.symm a4, b4⟩, ⟨o5, hk _ _ O.sl2.symm a5, b5⟩⟩, ?_⟩
  rcases q with ⟨q1, u, v, q2⟩ | ⟨T, f, oT, q1, q2, n1, n2, n3, n4⟩
  · exact .inl ⟨hk _ _ O.sz.symm q1, u, v, hk _ _ O.sTO.symm q2⟩
  · exact .inr ⟨T, f, oT, hk _ _ O.sz.symm q1, hk _ _ n4 q2, n1, n2, n3, n4⟩
end
/-- what was made: a row of new pairs, each at a greater place -/
structure Row (xs ys : Array Value) (lo : Addr) (h : Heap) (as : List Addr) : Prop where
  rise : as.Pairwise (· < ·)
  above : ∀ a ∈ as, lo < a
  at_ : ∀ (j : Nat) (a : Addr), as[j]? = some a → ∃ x y, xs[j]? = some x ∧ ys[j]? = some y ∧ IsPair h a x y
section
open L2
def look : List Addr → List (V × V) → Addr → Option (V × V)
  | a :: as, z :: zs, b => if b = a then some z else look as zs b
  | _, _, _ => none
theorem look_at : ∀ {as : List Addr} {zs : List (V × V)} {j : Nat} {a : Addr} {z : V × V}, as.Nodup → as[j]? = some a → zs[j]? = some z → look as zs a = some z
  | [], _, _, _, _, _, h, _ => by simp at h
  | _ :: _, [], _, _, _, _, _, h => by simp at h
  | b :: as, y :: zs, 0, a, z, _, h, k => by
    have e1 : b = a := by simpa using h
    have e2 : y = z := by simpa using k
    unfold look
    rw [if_pos e1.symm, e2]
  | b :: as, y :: zs, j + 1, a, z, hn, h, k => by
    have hn' := List.nodup_cons.mp hn
    have h' : as[j]? = some a := by simpa using h
    have ne : a ≠ b := fun e => hn'.1 (by rw [← e]; exact List.mem_of_getElem? h')
    unfold look
    rw [if_neg ne]
    exact look_at hn'.2 h' (by simpa using k)
theorem look_out : ∀ {as : List Addr} {zs : List (V × V)} {a : Addr}, a ∉ as → look as zs a = none
  | [], _, _, _ => by unfold look; rfl
  | _ :: _, [], _, _ => by unfold look; rfl
  | b :: as, y :: zs, a, h => by
    unfold look
    rw [if_neg (fun e => h (by rw [e]; exact List.mem_cons_self))]
    exact look_out fun e => h (List.mem_cons_of_mem _ e)
def lay (H : Hp) (S : Addr) (as : List Addr) (zs : List (V × V)) : Hp := fun b => if b = S then some (.lst (as.map V.ref)) else match look as zs b with
  | some (x, y) => some (.tup [x, y])
  | none => H b
variable {X : Cx} {e e2 : Expr} {ta : TA} {p p2 cpos pos : Pos}
theorem laid {pins : List (Addr × Obj)} {σ : L2.St} {H : Hp} {s : Shared} {h' : Heap} {S : Addr} {acc : Array Value} {c : Nat} {as : List Addr} {xs ys : List V} {us vs : List Value} (I : Inv X pins σ H s) (hS0 : s.heap.objs.size ≤ S) (hk : ∀ b o, s.heap.get? b = some o → h'.get? b = some o) (rx : Vals xs us) (ry : Vals ys vs)
    (hS : h'.get? S = some { cls := .type "list", dict := none, data := .seq acc c, slots := #[] }) (hz : min us.length vs.length ≤ sizeLine) (hl : as.length = min us.length vs.length) (G : Row us.toArray vs.toArray S h' as) (hacc : acc.toList = as.map Value.ref) :
    Inv X pins σ (lay H S as (xs.zip ys)) { s with heap := h' } ∧ (∀ b o, H b = some o → lay H S as (xs.zip ys) b = some o) ∧ H S = none ∧ (∀ (j : Nat) t, as[j]? = some t → H t = none ∧ t ≠ S ∧ ∃ x y, xs[j]? = some x ∧ ys[j]? = some y ∧ lay H S as (xs.zip ys) t = some (.tup [x, y])) := by
  refine Hold.out ?_
  simp (disch := (
  refine Hold.as ?_
  with_unfolding_all (
  have nd : as.Nodup := List.Pairwise.imp (fun {a b} (h : a < b) => Nat.ne_of_lt h) G.rise
  have newS : H S = none := I.hok.fresh hS0
  have new : ∀ t ∈ as, H t = none := fun t ht => I.hok.fresh (Nat.le_of_lt (Nat.lt_of_le_of_lt hS0 (G.above t ht)))
  have offS : ∀ t ∈ as, t ≠ S := fun t ht => Nat.ne_of_gt (G.above t ht)
  have low : ∀ b o, s.heap.get? b = some o → b ∉ as ∧ b ≠ S := fun b o e => ⟨fun z => absurd (Heap.lt_size e) (Nat.not_lt.mpr (Nat.le_of_lt (Nat.lt_of_le_of_lt hS0 (G.above b z)))), Nat.ne_of_lt (Nat.lt_of_lt_of_le (Heap.lt_size e) hS0)⟩
  have eS : lay H S as (xs.zip ys) S = some (.lst (as.map V.ref)) := by unfold lay; rw [if_pos rfl]
  have off : ∀ b, b ∉ as → b ≠ S → lay H S as (xs.zip ys) b = H b := fun b h1 h2 => by unfold lay; rw [if_neg h2, look_out h1]
  have kp : ∀ b u, H b = some u → lay H S as (xs.zip ys) b = some u := fun b u e => by
    rw [off b (fun z => by rw [new b z] at e; cases e) (fun z => by rw [z, newS] at e; cases e)]; exact e
  have at_ : ∀ (j : Nat) t, as[j]? = some t → ∃ x y u v, xs[j]? = some x ∧ ys[j]? = some y ∧ us[j]? = some u ∧ vs[j]? = some v ∧ RelV x u ∧ RelV y v ∧ lay H S as (xs.zip ys) t = some (.tup [x, y]) ∧ IsPair h' t u v := fun j t hj => by
    obtain ⟨u, v, e1, e2, e3⟩ := G.at_ j t hj
    have e1 : us[j]? = some u := by simpa using e1
    have e2 : vs[j]? = some v := by simpa using e2
    have hj1 : j < xs.length := by rw [rx.length]; exact (List.getElem?_eq_some_iff.mp e1).1
    have hj2 : j < ys.length := by rw [ry.length]; exact (List.getElem?_eq_some_iff.mp e2).1
    obtain ⟨u', f1, r1⟩ := rx.get (List.getElem?_eq_getElem hj1)
    obtain ⟨v', f2, r2⟩ := ry.get (List.getElem?_eq_getElem hj2)
    rw [e1] at f1; cases f1
    rw [e2] at f2; cases f2
    refine ⟨xs[j], ys[j], u, v, List.getElem?_eq_getElem hj1, List.getElem?_eq_getElem hj2, e1, e2, r1, r2, ?_, e3⟩
    unfold lay
    rw [if_neg (offS t (List.mem_of_getElem? hj)), look_at (z := (xs[j], ys[j])) nd hj (List.getElem?_zip_eq_some.mpr ⟨List.getElem?_eq_getElem hj1, List.getElem?_eq_getElem hj2⟩)]
  refine ⟨?_, kp, newS, fun j t hj => ?_⟩
  · refine I.call' (ch := []) rfl ⟨fun b o q _ _ _ => hk b o q, fun b o q _ _ _ => ⟨o.slots, hk b o q⟩, fun b o q n _ => ?_, fun b o q _ => ⟨o, hk b o q⟩, fun b xs q => kp b _ q, fun b o u q => kp b _ q, fun b ps q => ⟨#[], by rw [kp b _ q]; simp⟩⟩ (fun b u q => ?_) I.bare fun b z => by simp at z
    · obtain ⟨z1, z2⟩ := low b o q
      rw [off b z1 z2]; exact n
    · by_cases hb : b ∈ as
      · obtain ⟨j, hj⟩ := List.mem_iff_getElem?.mp hb
        obtain ⟨x, y, u', v', _, _, _, _, r1, r2, e3, e4⟩ := at_ j b hj
        rw [e3] at q; cases q
        exact ⟨by show 2 ≤ sizeLine; decide, [u', v'], .cons r1 (.cons r2 .nil), ⟨_, e4, rfl, _, rfl⟩⟩
      · by_cases hb2 : b = S
        · rw [hb2, eS] at q; cases q
          rw [hb2]
          refine ⟨by rw [List.length_map, hl]; exact hz, acc.toList, c, by rw [hacc]; exact LiI.vals_refs as, ?_⟩
          rw [Array.toArray_toList]; exact hS
        · rw [off b hb hb2] at q
          exact (I.hok b u q).stay (fun d v _ y => hk d v y) (fun d y => kp d _ y) fun d xs y => kp d _ y
  · obtain ⟨x, y, _, _, e1, e2, _, _, _, _, e3, _⟩ := at_ j t hj
    exact ⟨new t (List.mem_of_getElem? hj), offS t (List.mem_of_getElem? hj), x, y, e1, e2, e3⟩))) only [↓Hold.on]
end
end ZL
namespace Z
open PySem L2
end Z
namespace Z
open PySem L2
section
variable {K : PySem.W.Frag} {τ : T} {μ μ1 μ2 : M} {H H1 H2 H' : Hp} {σ : L2.St} {Φ : D → M → Prop} {ta tl te : TE} {tt tt1 : TT} {g g1 : TG} {wi wi1 : TI} {d e : D}
theorem cutD_all {ds : List D} {lo hi : Option Int} (h : HT.sIx ds.length 0 lo = 0 ∧ HT.sIx ds.length ds.length hi = ds.length) : cutD ds lo hi = ds := by
  unfold cutD
  rw [h.1, h.2]
  simp
theorem rs_tupA {ds : List D} {lo hi : Option Int} (q : Φ (.tup (cutD ds lo hi)) μ) : RS K (rSlA K) (.tup ds) lo hi μ Φ := fun H x c r Q k => by
  cases r with
  | @tup a xs _ ht hr =>
    refine ⟨a, xs, rfl, ht.sq, fun hw => ?_, fun hw p hp => k _ μ _ _ (fr_new hp) (con_new hp c) (.tup (.inl upd_same) (Rels.mono (tx_new hp) _ _ (hr.cut lo hi))) q⟩
    rw [hr.length] at hw
    rw [cutD_all hw] at q
    exact k _ μ _ _ Fr.refl c (.tup ht hr) q
theorem sl_tupAK {X : Cx} {K : PySem.W.Frag} (h : X.K = K) : SlR X (rSlA K) := by subst h; exact sl_tupA
theorem sl_listK {X : Cx} {K : PySem.W.Frag} (h : X.K = K) : SlR X (rSlL K) := by subst h; exact sl_list
theorem ro_catA {ds es : List D} (hz : ds.length + es.length ≤ sizeLine) (q : Φ (.tup (ds ++ es)) μ) : RO K (rCatA K) (.tup ds) (.tup es) μ Φ := fun H x y c r1 r2 Q k => by
  cases r1 with
  | @tup a xs _ ht hr =>
    cases r2 with
    | @tup b ys _ ht2 hr2 =>
      refine ⟨a, b, xs, ys, rfl, rfl, ht.sq, ht2.sq, by rw [hr.length, hr2.length]; exact hz, fun z => ?_, fun _ z => ?_, fun _ _ p hp => ?_⟩
      · subst z; cases hr; exact k _ μ _ _ Fr.refl c (.tup ht2 hr2) q
      · subst z; cases hr2; rw [List.append_nil] at q; exact k _ μ _ _ Fr.refl c (.tup ht hr) q
      · exact k _ μ _ _ (fr_new hp) (con_new hp c) (.tup (.inl upd_same) (Rels.mono (tx_new hp) _ _ (hr.append hr2))) q
variable {Ψ : List D → M → (M → M) → Prop}
end
end Z
namespace Z
open PySem L2
/-- plain, and n deep at most -/
structure OkN (n : Nat) (d : D) : Prop where
  p : D.plain d = true
  l : (D.py d).canLay0 = true
  d : (D.py d).depth ≤ n
theorem OkN.mono {n m : Nat} {d : D} (h : OkN n d) (l : n ≤ m) : OkN m d := ⟨h.p, h.l, Nat.le_trans h.d l⟩
theorem OkN.ok {n : Nat} {d : D} (h : OkN n d) (l : n ≤ 64) : D.ok d = true := by
  unfold D.ok SeqAt.shaped
  rw [h.p, h.l, decide_eq_true (Nat.le_trans h.d l)]
  rfl
theorem okn_int {i : Int} : OkN 0 (.int i) := ⟨by simp only [D.plain], by simp only [D.py, PyData.canLay0], by simp only [D.py, PyData.depth]; exact Nat.le_refl _⟩
theorem okn_all {n : Nat} : ∀ {ds : List D}, (∀ x ∈ ds, OkN n x) → D.plains ds = true ∧ PyData.canLayAll0 (D.pys ds) = true ∧ PyData.depthAll (D.pys ds) ≤ n
  | [], _ => ⟨by simp only [D.plains], by simp only [D.pys, PyData.canLayAll0], by simp only [D.pys, PyData.depthAll]; exact Nat.zero_le _⟩
  | x :: ds, h => by
    obtain ⟨h1, h2, h3⟩ := okn_all (ds := ds) fun y hy => h y (List.mem_cons_of_mem _ hy)
    have hx := h x List.mem_cons_self
    refine ⟨by simp only [D.plains, hx.p, h1, Bool.and_self], by simp only [D.pys, PyData.canLayAll0, hx.l, h2, Bool.and_self], ?_⟩
    simp only [D.pys, PyData.depthAll]
    exact Nat.max_le.mpr ⟨hx.d, h3⟩
theorem okn_tup {n : Nat} {ds : List D} (h : ∀ x ∈ ds, OkN n x) : OkN (n + 1) (.tup ds) := by
  obtain ⟨h1, h2, h3⟩ := okn_all h
  exact ⟨by simp only [D.plain]; exact h1, by simp only [D.py, PyData.canLay0]; exact h2, by simp only [D.py, PyData.depth]; omega⟩
theorem okn_pt {x y : Int} : OkN 1 (pt x y) := okn_tup fun z hz => by
  simp only [List.mem_cons, List.not_mem_nil, or_false] at hz
  rcases hz with rfl | rfl <;> exact okn_int
mutual
def D.it : D → Bool
  | .int _ => true
  | .tup ds => D.its ds
  | _ => false
def D.its : List D → Bool
  | [] => true
  | d :: ds => D.it d && D.its ds
end
mutual
theorem eqv_it : ∀ (d e : D), D.it d = true → D.it e = true → (PyData.eqv (D.py d) (D.py e) = true ↔ d = e)
  | .int i, .int j, _, _ => by simp [D.py, PyData.eqv]
  | .int i, .tup es, _, _ => by simp [D.py, PyData.eqv]
  | .tup ds, .int j, _, _ => by simp [D.py, PyData.eqv]
  | .tup ds, .tup es, h, k => by
    simp only [D.it] at h k
    simp only [D.py, PyData.eqv, D.tup.injEq]
    exact eqv_its ds es h k
  | .non, _, h, _ => by simp [D.it] at h
  | .bl _, _, h, _ => by simp [D.it] at h
  | .str _, _, h, _ => by simp [D.it] at h
  | .ty _, _, h, _ => by simp [D.it] at h
  | .rol _, _, h, _ => by simp [D.it] at h
  | .ref _, _, h, _ => by simp [D.it] at h
  | .int _, .non, _, h => by simp [D.it] at h
  | .int _, .bl _, _, h => by simp [D.it] at h
  | .int _, .str _, _, h => by simp [D.it] at h
  | .int _, .ty _, _, h => by simp [D.it] at h
  | .int _, .rol _, _, h => by simp [D.it] at h
  | .int _, .ref _, _, h => by simp [D.it] at h
  | .tup _, .non, _, h => by simp [D.it] at h
  | .tup _, .bl _, _, h => by simp [D.it] at h
  | .tup _, .str _, _, h => by simp [D.it] at h
  | .tup _, .ty _, _, h => by simp [D.it] at h
  | .tup _, .rol _, _, h => by simp [D.it] at h
  | .tup _, .ref _, _, h => by simp [D.it] at h
theorem eqv_its : ∀ (ds es : List D), D.its ds = true → D.its es = true → (PyData.eqvAll (D.pys ds) (D.pys es) = true ↔ ds = es)
  | [], [], _, _ => by simp [D.pys, PyData.eqvAll]
  | [], e :: es, _, _ => by simp [D.pys, PyData.eqvAll]
  | d :: ds, [], _, _ => by simp [D.pys, PyData.eqvAll]
  | d :: ds, e :: es, h, k => by
    simp only [D.its, Bool.and_eq_true] at h k
    have h1 := eqv_it d e h.1 k.1
    have h2 := eqv_its ds es h.2 k.2
    simp only [D.pys, PyData.eqvAll, Bool.and_eq_true, List.cons.injEq]
    rw [h1, h2]
end
end Z
namespace Z
open PySem L2
section
variable {K : PySem.W.Frag} {μ μ' : M} {Φ : D → M → Prop} {a b l : Addr} {X Y : MO}
theorem sb_own (h : SubB b μ μ') (hn : μ l = none) : SubB b μ (μ'.set l Y) := fun a m n e => by
  rw [set_ne (fun z => by subst z; rw [hn] at e; cases e)]
  exact h a m n e
end
end Z
namespace PySem.HandSPX
open PySem PySem.Spec PySem.Calls
structure NewIn (B : String) (tl : List Value) : Prop where
  b : tl.contains (.type B) = true
  a : tl.contains (.type "AttributeError") = false
  n : tl.contains (.type "NameError") = false
section
variable {prog : Program} {w : World} {A : Around} {E : Value → Shared → Prop} {h : Heap} {g : Array GenState} {d : Drawn} {t : Nat} {os : OsState} {C : Addr} {B newId initId : String} {bmB rest : List Value}
/-- the class of the text at C: its objects are made by newId, B is of its chain, the two classes with fields of their own are not -/
structure OwnAt (h : Heap) (C : Addr) (B newId : String) : Prop where
  obj : ∃ (nm q : Str) (N : Addr) (bs bm : List Value) (hdct : Bool) (sn : List Str) (sub : List Value) (ab : Bool) (col : Option Bool) (dd : Option Addr) (k0 k1 k2 k3 k5 : Option Value), h.get? C = some (excClassObj nm q C N bs bm hdct sn sub ab col dd k0 k1 k2 k3 k5 newId) ∧
    (Value.ref C :: bm).contains (.type B) = true ∧ (Value.ref C :: bm).contains (.type "AttributeError") = false ∧ (Value.ref C :: bm).contains (.type "NameError") = false
/-- newId may be asked for such an object -/
theorem OwnAt.asked (c : OwnAt h C B newId) (F : ExcBaseFacts B newId initId bmB) {M : Model} {Q : Unit → Shared → Prop} (q : Q () ⟨h, g, d, t, os⟩) : wpAny M A (checkBuiltinCall newId ⟨.ref C :: rest, []⟩) Q E ⟨h, g, d, t, os⟩ := by
  obtain ⟨_, _, _, _, _, _, _, _, _, _, _, _, _, _, _, _, at_, isB, _⟩ := c.obj
  have plain := F.noStar
  simp only [checkBuiltinCall, F.newKind, F.newSplit, F.newRow]
  repeat' first
    | refine wpAny_loadPart_at at_ ?_
    | (refine wpAny_isSubtype_exc at_ ?_; rw [isB])
    | refine wpAny_staticBase_exc at_ ?_
    | refine wpAny_madeBy_exc at_ ?_
    | simp only [bne_self_eq_false, Bool.false_eq_true, if_false]
    | wp_step
  exact q
/-- what newId lays: the tuple of the arguments, then the object -/
theorem OwnAt.laid (c : OwnAt h C B newId) (F : ExcBaseFacts B newId initId bmB) (few : rest.length ≤ sizeLine) {R : Result → Shared → Prop}
    (q : R (.ok (.ret (.ref (h.objs.size + 1)))) ⟨(h.push (W.kdv_tup rest)).push (excO C h.objs.size), g, d, t, os⟩) : codeAny (model prog w) A (.builtin newId ⟨.ref C :: rest, []⟩) R ⟨h, g, d, t, os⟩ := by
  obtain ⟨_, _, _, _, _, _, _, _, _, _, _, _, _, _, _, _, at_, isB, notA, notN⟩ := c.obj
  have ends := F.ends
  apply codeAny_builtinAt F.entry
  unfold Builtin.«BaseException.__new__»
  apply wpAt_bind
  show wpAt _ _ _ (stack >>= _) _ _ _
  apply wpAt_bind
  apply wpAt_stack
  intro top below
  apply wpAt_of_wpAny
  wp_walk
  apply wpAt_of_wpAny
  rw [F.owner]
  repeat' first
    | with_reducible refine wpAny_madeHere_exc F.canon at_ ?_
    | with_reducible refine wpAny_loadPart_at at_ ?_
    | (with_reducible refine wpAny_isSubtype_exc at_ ?_; simp only [isB, notA, notN])
    | wp_step
  rw [show h.objs.size + 1 = (h.push (W.kdv_tup rest)).objs.size from (Heap.size_push ..).symm] at q
  exact q
/-- type.__call__ at C: laid, then given to its own __init__, which gives None -/
theorem OwnAt.text (c : OwnAt h C B newId) (F : ExcBaseFacts B newId initId bmB) (few : rest.length ≤ sizeLine) {fI : Addr} {Q : Fin → Shared → Prop} (init : W.Looks (model prog w) h (typeLookup (.ref C) "__init__") (some (.ref fI)))
    (bind : ∀ self, W.Looks (model prog w) h (bindSpecial (.ref fI) self) (.ref fI, [self]))
    (q : codeAny (model prog w) A (.call (.ref fI) ⟨.ref (h.objs.size + 1) :: rest, []⟩) (fun r z => match r with | .ok (.ret v) => v = .none ∧ Q (.done (.ret (.ref (h.objs.size + 1)))) z | .ok _ => False | .error e => E e z)
      ⟨(h.push (W.kdv_tup rest)).push (excO C h.objs.size), g, d, t, os⟩) : wpAny (model prog w) A (Builtin.«type.__call__» ⟨.ref C :: rest, []⟩) Q E ⟨h, g, d, t, os⟩ := by
  refine Hold.out ?_
  simp (disch := (
  refine Hold.as ?_
  with_unfolding_all (
  have c' := c
  obtain ⟨_, _, _, _, bm, _, _, _, _, _, _, _, _, _, _, _, at_, _⟩ := c'.obj
  have more : ∀ b o, h.get? b = some o → ((h.push (W.kdv_tup rest)).push (excO C h.objs.size)).get? b = some o := fun b o e => Heap.get?_push_of_some _ (Heap.get?_push_of_some _ e)
  have new : ((h.push (W.kdv_tup rest)).push (excO C h.objs.size)).get? (h.objs.size + 1) = some (excO C h.objs.size) := by heap_get
  have itself : (Value.ref C :: bm).contains (.ref C) = true := by rw [List.contains_cons, beq_self_eq_true, Bool.true_or]
  repeat' first
    | with_reducible refine wpAny_loadPart_at at_ ?_
    | with_reducible refine wpAny_madeBy_exc at_ ?_
    | wp_step
  apply codeAny_call_builtin_code (Code.quiet_builtin _ F.quiet) (c.asked F _)
  apply c.laid F few
  show wpAny _ _ _ _ _ _
  unfold isInstance
  have at2 := more _ _ at_
  repeat' first
    | with_reducible refine wpAny_loadPart_at new ?_
    | (with_reducible refine wpAny_isSubtype_exc at2 ?_; rw [itself])
    | wp_step
  show wpAny _ _ (typeLookup (.ref C) _) _ _ _
  apply (init.keeps more).at
  apply wpAny_holding
  apply wpAny_bind
  apply ((bind (.ref (h.objs.size + 1))).keeps more).at
  apply wpAny_bind
  apply wpAny_call
  apply codeAny_mono q
  intro r z out
  match r, out with
  | .error _, out => exact out
  | .ok (.ret _), ⟨rfl, out⟩ => first | exact wpAny_pure (wpAny_pure out) | (wp_walk; exact out)))) only [↓Hold.on]
/-- C(..) -/
theorem OwnAt.called (c : OwnAt h C B newId) (F : ExcBaseFacts B newId initId bmB) (few : rest.length ≤ sizeLine) {fI : Addr} {R : Result → Shared → Prop} (init : W.Looks (model prog w) h (typeLookup (.ref C) "__init__") (some (.ref fI)))
    (bind : ∀ self, W.Looks (model prog w) h (bindSpecial (.ref fI) self) (.ref fI, [self]))
    (q : codeAny (model prog w) (A.under (.builtin "type.__call__" ⟨.ref C :: rest, []⟩)) (.call (.ref fI) ⟨.ref (h.objs.size + 1) :: rest, []⟩) (W.InitBack (h.objs.size + 1) R) ⟨(h.push (W.kdv_tup rest)).push (excO C h.objs.size), g, d, t, os⟩) :
    codeAny (model prog w) A (.call (.ref C) ⟨rest, []⟩) R ⟨h, g, d, t, os⟩ := by
  obtain ⟨_, _, _, _, _, _, _, _, _, _, _, _, _, _, _, _, at_, _⟩ := id c.obj
  have looked := tc_lookup
  have bound := tc_bind (.ref C)
  have isType : (⟨h, g, d, t, os⟩ : Shared).TypeIs (.ref C) "type" := ⟨_, at_, rfl⟩
  apply codeAny_of_tree
  show wpAny _ _ (callAny (.ref C) _) _ _ _
  repeat any_goals first
    | assumption
    | with_reducible refine wpAny_loadPart_at at_ ?_
    | wp_step
  refine ⟨rfl, ?_⟩
  apply codeAny_call_builtin_at (Code.quiet_builtin _ (by decide +kernel)) entry_typeCall
  apply wpAny_check_type_call_sub at_
  apply c.text F few init bind
  apply codeAny_mono q
  intro r z out
  match r, out with
  | .error _, out => exact out
  | .ok (.ret _), out => exact out
end
end PySem.HandSPX
namespace XO
open PySem PySem.Spec PyProof.Rows L2
open Builtin Builtin.ObjectAttr
def isR : Value → Bool
  | .ref _ => true
  | _ => false
/-- own classes, then the base's chain -/
def rT (tl l : List Value) : Bool := l.dropWhile isR == tl
theorem isR_ex : ∀ {a : Value}, isR a = true → ∃ c, a = .ref c
  | .ref c, _ => ⟨c, rfl⟩
theorem rT_eq {tl : List Value} {a : Value} {r : List Value} (h : rT tl (a :: r) = true) : (∃ c, a = .ref c ∧ rT tl r = true) ∨ a :: r = tl := by
  unfold rT at h
  rw [List.dropWhile_cons] at h
  by_cases q : isR a = true
  · rw [if_pos q] at h
    obtain ⟨c, e⟩ := isR_ex q
    exact .inl ⟨c, e, h⟩
  · rw [if_neg q] at h
    exact .inr (beq_iff_eq.mp h)
theorem rT_nil {tl : List Value} (h : rT tl [] = true) : [] = tl := beq_iff_eq.mp h
theorem rT_pass {tl : List Value} (hp : ∀ self, refuseLoop self "__setattr__" tl = pure ()) (self : Value) : ∀ l : List Value, rT tl l = true → refuseLoop self "__setattr__" l = pure ()
  | [], h => by rw [rT_nil h]; exact hp self
  | a :: r, h => by
    rcases rT_eq h with ⟨c, e, q⟩ | e
    · rw [e, refuseLoop_ref]; exact rT_pass hp self r q
    · rw [e]; exact hp self
theorem rT_has {tl : List Value} (X : String) : ∀ l : List Value, rT tl l = true → l.contains (.type X) = tl.contains (.type X)
  | [], h => by rw [rT_nil h]
  | a :: r, h => by
    rcases rT_eq h with ⟨c, e, q⟩ | e
    · rw [e, List.contains_cons, rT_has X r q]; rfl
    · rw [e]
/-- such a class as it stands in the heap -/
theorem ownAt {h : Heap} {C N : Addr} {B newId : String} {tl bm bs : List Value} {nm q : Str} {hdct : Bool} {sn : List Str} {sub : List Value} {ab : Bool} {col : Option Bool} {dd : Option Addr} {k0 k1 k2 k3 k5 : Option Value} (NI : PySem.HandSPX.NewIn B tl)
    (at_ : h.get? C = some (excClassObj nm q C N bs bm hdct sn sub ab col dd k0 k1 k2 k3 k5 newId)) (chain : rT tl bm = true) : PySem.HandSPX.OwnAt h C B newId := by
  have other : ∀ (Y : String), (Value.ref C :: bm).contains (.type Y) = tl.contains (.type Y) := fun Y => by
    rw [List.contains_cons, rT_has Y bm chain]
    rfl
  exact ⟨_, _, _, _, bm, _, _, _, _, _, _, _, _, _, _, _, at_, (other _).trans NI.b, (other _).trans NI.a, (other _).trans NI.n⟩
/-- what is asked of a base: its chain is tl -/
structure Bt (tl : List Value) : Prop where
  pass : ∀ self, refuseLoop self "__setattr__" tl = pure ()
  obj : tl.contains (.type "object") = true
theorem rT_some {tl l : List Value} (b : Bt tl) (h : rT tl l = true) : l.isEmpty = false := by
  cases l with
  | nil =>
    have q := b.obj
    rw [← rT_nil h] at q
    cases q
  | cons _ _ => rfl
abbrev tlIE : List Value := [.type "IndexError", .type "LookupError", .type "Exception", .type "BaseException", .type "object"]
abbrev tlVE : List Value := [.type "ValueError", .type "Exception", .type "BaseException", .type "object"]
theorem bt_IE : Bt tlIE := ⟨fun self => by kernel_rfl, by decide +kernel⟩
section
variable {prog : Program} {w : World} {A : Around} {E : Value → Shared → Prop} {R : Result → Shared → Prop} {hp : Heap} {g : Array GenState} {dr : Drawn} {t : Nat} {os : OsState}
/-- the first field of an exception of such a class -/
theorem osa_first {K : W.Frag} {nm : Str} {tk : Tok} {u : Value} {e C : Addr} {fv : Array Value} {cd : ClassData} {tl : List Value} (bt : Bt tl)
    (kin : K.In hp) (at_e : hp.get? e = some { cls := .ref C, data := .fields fv }) (cl : W.clsIn K C = some cd) (ch : rT tl cd.mro = true) (own : cd.hasDict = true) (none_ : W.findIn K (.ref C) nm = some none)
    (fin : ∀ h2 tk2 dx, (∀ b o, b ≠ e → hp.get? b = some o → h2.get? b = some o) → hp.objs.size ≤ dx → dx ≠ e → h2.get? e = some { cls := .ref C, dict := some dx, data := .fields fv } →
      h2.Ns1 dx (fun y => if y = nm then some u else none) → R (.ok (.ret .none)) ⟨h2, g, dr, tk2, os⟩) :
    codeAny (model prog w) A (.call (.builtin "object.__setattr__") ⟨[.ref e, .str nm tk, u], []⟩) R ⟨hp, g, dr, t, os⟩ := by
  refine Hold.out ?_
  simp (disch := (
  refine Hold.as ?_
  with_unfolding_all (
  have inst : W.InstAt hp e { cls := .ref C, data := .fields fv } C none := ⟨at_e, rfl, rfl, trivial⟩
  have sto := F.store_object
  have isO : cd.mro.contains (.type "object") = true := (rT_has "object" _ ch).trans bt.obj
  have ene : e ≠ hp.objs.size := Nat.ne_of_lt (Heap.lt_size at_e)
  have isI : W.Looks (model prog w) hp (isInstance (.ref e) (.type "object")) true :=
    inst.type.andThen (W.looks_mroIn kin (by unfold W.mroIn; rw [cl, Option.bind_some, if_neg (by rw [rT_some bt ch]; decide), isO]))
  refine codeAny_call_builtin sto.slot.plain sto.entry
    (@W.check_slot (model prog w) _ _ ⟨hp, g, dr, t, os⟩ "object.__setattr__" "object" "__setattr__" (.ref e) [.str nm tk, u] [] _ sto.kind sto.split isI (sto.args (.ref e) (.str nm tk) u) ?_)
  have chain : W.Looks (model prog w) hp (mroOf (.ref C)) cd.mro := (W.looks_clsIn kin cl).andThen .now
  have noTaker : W.Looks (model prog w) hp (storeTaker? none) none := .now
  have theCls : W.Looks (model prog w) hp (classData C) cd := W.looks_clsIn kin cl
  rw [W.osa_eq, refuse_eq]
  refine wpAny_bind (wpAny_bind (inst.type.at (wpAny_bind (chain.at ?_))))
  rw [rT_pass bt.pass _ _ ch]
  refine wpAny_pure (wpAny_bind (inst.type.at (wpAny_bind ((W.looks_findIn kin none_).at (wpAny_bind (noTaker.at ?_))))))
  show wpAny _ _ (storeInOwnDict (.ref e) (.ref C) (.str nm tk) nm u false) _ _ _
  obtain ⟨n0, b0, m0, s0, q0, hd0, sn0, sb0, a0, c0, d0⟩ := cd
  dsimp only at own
  subst own
  unfold storeInOwnDict ownDictForStores
  repeat (first | with_reducible refine HandSPX.store_in_new ?_ ?_ | with_reducible refine wpAny_loadPart_at at_e ?_ | with_reducible refine theCls.at ?_ | wp_step)
  · exact ⟨_, #[], _, (Heap.get?_update_ne _ _ _ _ ene.symm).trans (Heap.get?_push_at rfl rfl), rfl, fun e he => absurd he (by simp), fun _ => rfl⟩
  · intro h2 tk2 ns2 same
    have e_old : (hp.push { cls := .type "dict", data := .dict #[] }).get? e = some { cls := .ref C, data := .fields fv } := Heap.get?_push_of_some _ at_e
    refine fin h2 tk2 hp.objs.size (fun b o nb at_b => ?_) (Nat.le_refl _) ene.symm ?_ ns2
    · exact (same.2 b (Nat.ne_of_lt (Heap.lt_size at_b))).trans ((Heap.get?_update_ne _ _ _ _ nb).trans (Heap.get?_push_of_some _ at_b))
    · exact (same.2 e ene).trans (Heap.get?_update_self _ e_old rfl)))) only [↓Hold.on]
end
/-- what the written part says of such a class -/
structure OexB (K : PySem.W.Frag) (C : Addr) (newId : String) (tl : List Value) : Prop where
  cls : ∃ nm q N bs bm sn sub ab col dd k0 k1 k2 k3 k5, K.lookup C = some (excClassObj nm q C N bs bm true sn sub ab col dd k0 k1 k2 k3 k5 newId) ∧ rT tl bm = true
  bt : Bt tl
  sa : PySem.W.findIn K (.ref C) "__setattr__" = some (some (.builtin "object.__setattr__"))
  exC : PySem.W.subIn K (.ref C) (.type "BaseException") = some true
  tyC : PySem.W.typeIn K (.ref C) = some (.type "type")
  kC : PySem.W.keepIn K (.ref C) = true
section
variable {X : Cx} {pins : List (Addr × Obj)} {σ : L2.St} {H : Hp} {s : Shared} {a C dx : Addr} {f : Str} {y : V} {u : Value} {Q : Unit → Shared → Prop} {E : Value → Shared → Prop} {A : Around} {newId : String} {tl : List Value}
theorem put_first (T : OexB X.K C newId tl) (I : Inv X pins σ H s) (e : H a = some (exo a C none)) (none_ : PySem.W.findIn X.K (.ref C) f = some none) (ry : RelV y u)
    (k : ∀ dx s2, H dx = none → dx ≠ a → Inv X pins σ (upd (upd H dx (exd dx [(f, y)])) a (exo a C (some dx))) s2 → Q () s2) : wpAny (model X.prog X.w) A (setAttr (.ref a) f u) Q E s := by
  refine Hold.out ?_
  simp (disch := (
  refine Hold.as ?_
  with_unfolding_all (
  obtain ⟨nm, q, N, bs, bm, sn, sub, ab, col, dd, k0, k1, k2, k3, k5, atC, chain⟩ := T.cls
  have cl : PySem.W.clsIn X.K C = some { name := nm, bases := bs, mro := .ref C :: bm, ns := N, qualname := q, hasDict := true, slotNames := sn, subclasses := sub, abstract := ab, collection := col, hasDel := false } := by
    unfold PySem.W.clsIn; rw [atC] <;> rfl
  have chain2 : rT tl (.ref C :: bm) = true := by unfold rT at chain ⊢; rw [List.dropWhile_cons, if_pos (by rfl)]; exact chain
  obtain ⟨t1, at_a⟩ := exo_at I.hok e
  obtain ⟨hp, g, dr, t, os⟩ := s
  refine PySem.W.set_plain I.kIn (ox := { cls := .ref C, dict := none, data := .fields #[.ref t1, .none, .none, .none, .bool false, .none] }) (od := none) ⟨at_a, rfl, rfl, trivial⟩ T.sa ?_
  refine osa_first T.bt I.kIn at_a cl chain2 rfl none_ (fun h2 tk2 dx keep big dne hx hn => ?_)
  have free : H dx = none := I.hok.fresh big
  have nd : ∀ {b : Addr} {o : Obj}, hp.get? b = some o → b ≠ dx := fun {b o} z => Nat.ne_of_lt (Nat.lt_of_lt_of_le (Heap.lt_size z) big)
  have na : ∀ {b : Addr}, H b = none → b ≠ a := fun {b} n z => by rw [z, e] at n; cases n
  have un : Un X.fs [] H (upd (upd H dx (exd dx [(f, y)])) a (exo a C (some dx))) hp h2 :=
    ⟨fun b o z n _ _ => keep b o (na n) z, fun b o z n _ _ => ⟨o.slots, keep b o (na n) z⟩, fun b o z n _ => by rw [upd_ne (na n), upd_ne (nd z)]; exact n,
      fun b o z _ => by
        by_cases hb : b = a
        · exact ⟨_, by rw [hb]; exact hx⟩
        · exact ⟨o, keep b o hb z⟩,
      fun b xs z => by rw [upd_ne (at_ne e z exo_tup), upd_ne (ne_of_none z free)]; exact z,
      fun b o v z => by rw [upd_ne (at_ne e z exo_frz), upd_ne (ne_of_none z free)]; exact z,
      fun b ps z => ⟨#[], by rw [upd_ne (at_ne e z exo_tbl), upd_ne (ne_of_none z free), z]; simp⟩⟩
  refine k dx _ free dne (I.un (t' := tk2) un fun b o z => ?_)
  by_cases hb : b = a
  · subst hb
    rw [upd_same] at z
    cases z
    exact exo_ok hx
  by_cases hd : b = dx
  · subst hd
    rw [upd_ne hb, upd_same] at z
    cases z
    exact exd_ok hn (relO_put (fs := []) ry fun g => True.intro)
  rw [upd_ne hb, upd_ne hd] at z
  refine (I.hok b o z).stay (fun c v hc r => keep c v ?_ r) (fun c hc => ?_) (fun c xs hc => ?_)
  · rcases hc with hc | hc
    · rw [hc]; exact hb
    · exact at_ne e hc exo_own
  · rw [upd_ne (at_ne e hc exo_own), upd_ne (ne_of_none hc free)]; exact hc
  · rw [upd_ne (at_ne e hc exo_tup), upd_ne (ne_of_none hc free)]; exact hc))) only [↓Hold.on]
end
/-- self.f = e, in the making -/
def tOs1 (K : PySem.W.Frag) (newId : String) (tl : List Value) (f : Str) (to te : TE) : TS := fun D σ H => te σ H fun y H1 => to σ H1 fun x H2 => ∃ a C : Addr, x = .ref a ∧ OexB K C newId tl ∧ PySem.W.findIn K (.ref C) f = some none ∧
  H2 a = some (exo a C none) ∧ ∀ dx, H2 dx = none → dx ≠ a → D.nx σ (upd (upd H2 dx (exd dx [(f, y)])) a (exo a C (some dx)))
theorem ps_os1 {X : Cx} {o e : Expr} {to te : TE} {f : Str} {p pos : Pos} {newId : String} {tl : List Value} (ho : PE X o to) (he : PE X e te) (hs : swapsWith e (some (.Attribute o f p)) pos.line X.env = pure false := by rfl) :
    PS X (.Assign [.Attribute o f p] e pos) (tOs1 X.K newId tl f to te) := by
  refine ⟨fun pins s σ H D I h => ?_⟩
  refine plainObj_wpAny_Assign_Attribute (thn (he.run pins s σ H _ I h) fun v s1 ⟨y, H1, I1, r1, q1⟩ => thn (ho.run pins s1 σ H1 _ I1 q1) fun u s2 ⟨x, H2, I2, r2, a, C, ex, T, none_, ea, q⟩ => ?_) hs
  subst ex
  obtain rfl : u = Value.ref a := r2
  exact put_first T I2 ea none_ r1 fun dx s3 n ne J => ⟨σ, _, J, q dx n ne⟩
/-- __init__(self, v) of such a class -/
def spI1 (K : PySem.W.Frag) (newId : String) (tl : List Value) (f : Str) : Sp := fun vs H Q _ => ∃ (a C : Addr) (y : V), vs = [.ref a, y] ∧ OexB K C newId tl ∧ PySem.W.findIn K (.ref C) f = some none ∧ H a = some (exo a C none) ∧
  ∀ dx, H dx = none → dx ≠ a → Q .non (upd (upd H dx (exd dx [(f, y)])) a (exo a C (some dx)))
/-- C(e) -/
def tMk1 (C : Addr) (f : Str) (ta : TA) : L2.St → Hp → XK → Prop := fun σ H Q => ta σ H fun vs H1 => ∃ y, vs = [y] ∧ ∀ dx, H1 dx = none → Q (.ref C) (some dx) (upd H1 dx (.xd [(f, y)]))
section
variable {X : Cx} {C fI : Addr} {k : Nat} {fd : FuncData} {B newId initId : String} {tl : List Value} {x f p1 p2 : Str} {e : Expr} {es : List Expr} {ta : TA} {p pos : Pos}
theorem pmk_1 {tl0 : List Value} (F : ExcBaseFacts B newId initId tl0) (NI : PySem.HandSPX.NewIn B tl) (T : OexB X.K C newId tl) (none_ : PySem.W.findIn X.K (.ref C) f = some none) (iC : PySem.W.findIn X.K (.ref C) "__init__" = some (some (.ref fI))) (tI : PySem.W.typeIn X.K (.ref fI) = some (.type "function"))
    (G : FnOk X.prog X.w X.K X.mg X.base CX0 k fI fd [p1, p2] (spI1 X.K newId tl f)) (hr : Room (k + 1) X.A) (hb : Binds X.K fd [p1, p2] []) (hg : Gl X x) (hm : X.mg x = some (.ref C)) (ha : PA X (e :: es) ta)
    (hdb : (x == ("__debug__" : Str)) = false := by decide) (he : starEach (e :: es) X.env = (false, eval e X.env) :: starEach es X.env := by rfl) (hpl : (backTo pos (starEach es X.env)).any (·.1) = false := by rfl) :
    PMk X (.Call (.Name x p) (e :: es) [] pos) (tMk1 C f ta) := by
  intro pins s σ H Q I h
  obtain ⟨nm, q, N, bs, bm, sn, sub, ab, col, dd, k0, k1, k2, k3, k5, atC, chain⟩ := T.cls
  refine wpAny_Call_Name_kw (ld_glob I hg hm ?_ hdb)
  refine PySem.W.callWith_K (h₀ := X.base) I.ok.mod.kin T.kC (thn (ha.run pos pins s σ H _ I h) fun us s1 ⟨vs, H1, I1, r1, y, ev, q1⟩ => ⟨I1.kIn, ?_⟩) he hpl
  subst ev
  show wpAny _ _ (call (.ref C) us) _ _ _
  cases r1 with
  | @cons _ u0 _ ur ry rn =>
  cases rn
  obtain ⟨hp, g, dr, tk, os⟩ := s1
  have le1 : hp.objs.size ≤ hp.objs.size + 1 := Nat.le_succ _
  have free : H1 (hp.objs.size + 1) = none := I1.hok.fresh le1
  have old : ∀ b o, hp.get? b = some o → ((hp.push (PySem.W.kdv_tup [u0])).push (PySem.HandSPX.excO C hp.objs.size)).get? b = some o := fun b o z => Heap.get?_push_of_some _ (Heap.get?_push_of_some _ z)
  have hget : ((hp.push (PySem.W.kdv_tup [u0])).push (PySem.HandSPX.excO C hp.objs.size)).get? (hp.objs.size + 1) = some (PySem.HandSPX.excO C hp.objs.size) := by heap_get
  have J : Inv X pins σ (upd H1 (hp.objs.size + 1) (exo (hp.objs.size + 1) C none)) ⟨(hp.push (PySem.W.kdv_tup [u0])).push (PySem.HandSPX.excO C hp.objs.size), g, dr, tk, os⟩ :=
    I1.laid (t' := tk) (a := hp.objs.size + 1) (o := exo (hp.objs.size + 1) C none) old le1 (exo_ok hget)
  have rr : Vals [V.ref (hp.objs.size + 1), y] [Value.ref (hp.objs.size + 1), u0] := .cons rfl (.cons ry .nil)
  have small : [u0].length ≤ sizeLine := by rw [sizeLine_eq]; exact (by decide : 1 ≤ 16777216)
  have bd := hb _ [Value.ref (hp.objs.size + 1), u0] J.kIn rfl
  rw [List.append_nil] at bd
  have ask : spI1 X.K newId tl f [V.ref (hp.objs.size + 1), y] (upd H1 (hp.objs.size + 1) (exo (hp.objs.size + 1) C none))
      (fun v H2 => v = .non ∧ ∃ d, H2 (hp.objs.size + 1) = some (exo (hp.objs.size + 1) C (some d)) ∧ H2 d = some (exd d [(f, y)]) ∧ H1 d = none ∧ Q (.ref C) (some d) (upd (L2.del H2 (hp.objs.size + 1)) d (.xd [(f, y)]))) (fun _ _ _ => False) := by
    refine ⟨_, C, y, rfl, T, none_, upd_same, fun d fr ne => ⟨rfl, d, upd_same, by rw [upd_ne ne, upd_same], by rw [upd_ne ne] at fr; exact fr, ?_⟩⟩
    have e2 : upd (L2.del (upd (upd (upd H1 (hp.objs.size + 1) (exo (hp.objs.size + 1) C none)) d (exd d [(f, y)])) (hp.objs.size + 1) (exo (hp.objs.size + 1) C (some d))) (hp.objs.size + 1)) d (.xd [(f, y)]) = upd H1 d (.xd [(f, y)]) := by
      funext b
      by_cases b1 : b = d
      · rw [b1, upd_same, upd_same]
      · rw [upd_ne b1, upd_ne b1]
        by_cases b2 : b = hp.objs.size + 1
        · rw [b2, del_same, free]
        · rw [L2.del_ne b2, upd_ne b2, upd_ne b1, upd_ne b2]
    rw [e2]
    exact q1 d (by rw [upd_ne ne] at fr; exact fr)
  refine wpAny_call ((ownAt NI (I1.kIn _ _ atC) chain).called F small (PySem.W.looks_findIn I1.kIn iC) (fun self => PySem.W.bind_fn I1.kIn self tI)
    (codeAny_mono (G.run _ X.stack _ _ ⟨[Value.ref (hp.objs.size + 1), u0], []⟩ [Value.ref (hp.objs.size + 1), u0] _ _ (fun _ _ _ => False) (hr.make C [u0] []) (J.env0.make C [u0] []) bd rr ask) fun r s2 res => ?_))
  cases r with
  | error er => exact res.elim
  | ok fl =>
    cases fl with
    | ret u =>
      obtain ⟨v, H2, os2, bare2, un2, hok2, rv, ev, d, ea, ed, hd1, q2⟩ := res
      subst ev
      obtain ⟨h2, g2, d2, t2, o2⟩ := s2
      exact ⟨rv, mk_end (raises_own T.exC T.tyC) I1 le1 old un2 hok2 os2 bare2 ea ed hd1 q2⟩
    | next => exact res.elim
    | brk => exact res.elim
    | cont => exact res.elim
end
/-- the text of such an __init__ keeps spI1 -/
theorem init_ok {P : Program} {w : World} {K : PySem.W.Frag} {newId : String} {tl : List Value} {f p1 p2 : Str} {D : Ends} {vs : List V} {H : Hp} {Q : VK} {E : XK} (h : spI1 K newId tl f vs H Q E) :
    tOs1 K newId tl f (tVar 0) (tVar 1) { nx := fun _ H' => Q .non H', rt := Q } (L2.start [p1, p2] vs) H := by
  obtain ⟨a, C, y, ev, T, none_, ea, q⟩ := h
  subst ev
  exact ⟨y, rfl, _, rfl, a, C, rfl, T, none_, ea, fun dx n ne => q dx n ne⟩
end XO
namespace Z
open PySem L2
/-- o.m(..) where it may let an exception out -/
def tMethX (C : Addr) (m : Str) (sp : Sp) (E : L2.St → XK) (ta : TE) (t : TA) : TE := fun σ H Q => ta σ H fun x H1 => ∃ a dx fs, x = .ref a ∧ H1 a = some (.ins C dx fs) ∧ fs.lookup m = none ∧ t σ H1 fun vs H2 => sp (x :: vs) H2 Q (E σ)
abbrev XW := Str → Option Addr → M → Prop
/-- P args store wish out -/
abbrev PT4 := List D → M → (D → M → Prop) → XW → Prop
def spX (K : PySem.W.Frag) (cn : Str → Option Value) (P : PT4) : Sp := fun vs H Q E => ∃ ds μ Φ Ξ, Rels K H vs ds ∧ Z.Con K H μ ∧ P ds μ Φ Ξ ∧ (∀ d μ' v H', Fr μ μ' H H' → Z.Con K H' μ' → Rel K H' v d → Φ d μ' → Q v H') ∧
  ∀ x dx μ' cls H', cn x = some cls → Fr μ μ' H H' → Z.Con K H' μ' → Ξ x dx μ' → E cls dx H'
section
variable {K : PySem.W.Frag} {τ : T} {μ μ1 μ2 : M} {H H1 H2 : Hp} {σ : L2.St} {Φ Ψ : D → M → Prop} {ta tb tc te : TE} {t u : TT} {x y z d e : D} {N : AEnds} {ts us : TS} {P : PT4} {P3 : PT3} {E : XK} {g : TG} {cn : Str → Option Value}
theorem spX_len {vs : List V} {Q : VK} {n : Nat} (h : spX K cn P vs H Q E) (hn : ∀ ds μ Φ Ξ, P ds μ Φ Ξ → ds.length = n) : vs.length = n := by
  obtain ⟨ds, μ, Φ, Ξ, r, _, p, _⟩ := h
  rw [r.length]; exact hn _ _ _ _ p
abbrev endX (cn : Str → Option Value) (E : XK) (Φ : D → M → Prop) (Ξ : XW) : AEnds := { nx := fun _ μ' => Φ .non μ', rt := Φ, W := fun cls d _ H => E cls d H, cn := cn, xs := fun x dx _ μ' => Ξ x dx μ' }
theorem body_okX {Ns : List Str} {vs : List V} {Q : VK} (h : spX K cn P vs H Q E) (hb : ∀ ds μ Φ Ξ, P ds μ Φ Ξ → AS K ts (startD Ns.length ds) μ (endX cn E Φ Ξ)) :
    ts { nx := fun _ H' => Q .non H', rt := Q } (L2.start Ns vs) H := by
  obtain ⟨ds, μ, Φ, Ξ, r, c, p, k, kx⟩ := h
  exact hb ds μ Φ Ξ p _ H (slots_start r) c _ ⟨fun _ μ' _ H' f c' _ q => k .non μ' .non H' f c' .non q, fun d μ' v H' f c' r' q => k d μ' v H' f c' r' q, fun _ _ _ _ _ _ _ q => q.elim, fun _ _ _ _ _ _ _ q => q.elim,
    fun x dx _ μ' cls _ H' e f c' _ q => kx x dx μ' cls H' e f c' q⟩
/-- what a def has made for itself is forgotten at its end -/
abbrev UpX (Ξ : XW) : XW := fun x dx μ' => ∃ μ2, Sub μ2 μ' ∧ Ξ x dx μ2
/-- a call that lets nothing out here -/
theorem a_callX {ta : TA} (h : AA K ta τ μ fun ds μ1 => P ds μ1 Φ fun _ _ _ => False) : AE K (tCall (spX K cn P) [] E ta) τ μ Φ := fun σ H s c Q k =>
  h σ H s c _ fun ds μ1 vs H1 f1 c1 r1 p => by
    show spX K cn P (vs ++ []) H1 Q E
    rw [List.append_nil]
    exact ⟨ds, μ1, Φ, _, r1, c1, p, fun d μ' v H' f c' r q => k d μ' v H' (f1.trans f) c' r q, fun _ _ _ _ _ _ _ _ q => q.elim⟩
def AEX (K : PySem.W.Frag) (t : TE) (τ : T) (μ : M) (N : AEnds) (Φ : D → M → Prop) : Prop :=
  ∀ σ H, Slots K H τ σ → Con K H μ → ∀ Q : VK, (∀ d μ' v H', Fr μ μ' H H' → Con K H' μ' → Rel K H' v d → Φ d μ' → Q v H') →
    (∀ x dx μ' cls H', N.cn x = some cls → Fr μ μ' H H' → Con K H' μ' → N.xs x dx τ μ' → N.W cls dx σ H') → t σ H Q
theorem x_of {E' : Ends} (k : EndsOk K N μ H E') (s : Slots K H τ σ) (c : Con K H μ) : ∀ x dx μ' cls H', N.cn x = some cls → Fr μ μ' H H' → Con K H' μ' → N.xs x dx τ μ' → N.W cls dx σ H' :=
  fun x dx μ' cls H' e f c' q => k.wx x dx τ μ' cls σ H' e f c' (s.mono (f.tx c)) q
theorem s_dropX (h : AEX K te τ μ N fun _ μ' => N.nx τ μ') : AS K (tDrop te) τ μ N := fun σ H s c E k =>
  h σ H s c _ (fun d μ' v H' f c' r p => k.nx τ μ' σ H' f c' (s.mono (f.tx c)) p) (x_of k s c)
theorem s_retX (h : AEX K te τ μ N N.rt) : AS K (tRet te) τ μ N := fun σ H s c E k => h σ H s c _ (fun d μ' v H' f c' r p => k.rt d μ' v H' f c' r p) (x_of k s c)
theorem s_asgX (h : AEX K te τ μ N fun d μ' => AG K g d τ μ' N.nx) : AS K (tAsg te g) τ μ N := fun σ H s c E k =>
  h σ H s c _ (fun d μ' v H' f c' r p => p σ H' v (s.mono (f.tx c)) c' r _ fun τ2 μ2 σ2 H2 f2 c2 s2 q => k.nx τ2 μ2 σ2 H2 (f.trans f2) c2 s2 q) (x_of k s c)
theorem x_call {ta : TA} (h : AA K ta τ μ fun ds μ1 => P ds μ1 Φ fun x dx μ' => N.xs x dx τ μ') : AEX K (tCallS (spX K N.cn P) (WE N.W) ta) τ μ N Φ := fun σ H s c Q k kx =>
  h σ H s c _ fun ds μ1 vs H1 f1 c1 r1 p => ⟨ds, μ1, Φ, _, r1, c1, p, fun d μ' v H' f c' r q => k d μ' v H' (f1.trans f) c' r q, fun x dx μ' cls H' e f c' q => kx x dx μ' cls H' e (f1.trans f) c' q⟩
theorem look_none {H1 : Hp} {m : Str} : ∀ {vs : List (Str × V)} {fs : List (Str × D)}, RelKV K H1 vs fs → fs.lookup m = none → vs.lookup m = none := by
  intro vs fs r
  induction r with
  | nil => intro _; rfl
  | cons a _ ih =>
    rename_i p q ps qs _
    obtain ⟨e1, _⟩ := a
    intro h
    rw [List.lookup_cons] at h ⊢
    rw [e1]
    split at h
    · cases h
    · exact ih h
/-- o.m(..), what the instance is made of kept -/
theorem a_methX {C : Addr} {m : Str} {ta : TA} (h : AE K te τ μ fun o μ1 => ∃ a dx fs, o = .ref a ∧ μ1 a = some (.ins C dx fs) ∧ fs.lookup m = none ∧ AA K ta τ μ1 fun ds μ2 => P (o :: ds) μ2 Φ fun _ _ _ => False) :
    AE K (tMeth C m (spX K cn P) [] E te ta) τ μ Φ := fun σ H s c Q k =>
  h σ H s c _ fun o μ1 v H1 f1 c1 r1 ⟨a, dx, fs, e, ha, hm, p1⟩ => by
    subst e
    cases r1
    obtain ⟨vs, hv, hr⟩ := c1 a _ ha
    refine ⟨a, dx, vs, rfl, hv, look_none hr hm, p1 σ H1 (s.mono (f1.tx c)) c1 _ fun ds μ2 us H2 f2 c2 r2 p => ?_⟩
    rw [List.append_nil]
    exact ⟨.ref a :: ds, μ2, Φ, _, .cons (.ref a) r2, c2, p, fun d μ' v H' f c' r q => k d μ' v H' ((f1.trans f2).trans f) c' r q, fun _ _ _ _ _ _ _ _ q => q.elim⟩
theorem x_meth {C : Addr} {m : Str} {ta : TA} (h : AE K te τ μ fun o μ1 => ∃ a dx fs, o = .ref a ∧ μ1 a = some (.ins C dx fs) ∧ fs.lookup m = none ∧ AA K ta τ μ1 fun ds μ2 => P (o :: ds) μ2 Φ fun x dx μ' => N.xs x dx τ μ') :
    AEX K (tMethX C m (spX K N.cn P) (WE N.W) te ta) τ μ N Φ := fun σ H s c Q k kx =>
  h σ H s c _ fun o μ1 v H1 f1 c1 r1 ⟨a, dx, fs, e, ha, hm, p1⟩ => by
    subst e
    cases r1
    obtain ⟨vs, hv, hr⟩ := c1 a _ ha
    exact ⟨a, dx, vs, rfl, hv, look_none hr hm, p1 σ H1 (s.mono (f1.tx c)) c1 _ fun ds μ2 us H2 f2 c2 r2 p =>
      ⟨.ref a :: ds, μ2, Φ, _, .cons (.ref a) r2, c2, p, fun d μ' v H' f c' r q => k d μ' v H' ((f1.trans f2).trans f) c' r q, fun x dx μ' cls H' e f c' q => kx x dx μ' cls H' e ((f1.trans f2).trans f) c' q⟩⟩
/-- C(..) with no __init__ of its own -/
theorem s_raise0 {C : Addr} {x : Str} (hc : N.cn x = some (.ref C)) (h : N.xs x none τ μ) : AS K (fun _ σ H => (fun (_ : L2.St) (H : Hp) (Q : XK) => Q (.ref C) none H) σ H fun cls d H' => N.W cls d σ H') τ μ N := fun σ H s c E k =>
  k.wx x none τ μ (.ref C) σ H hc Fr.refl c s h
theorem s_raise1 {C : Addr} {x f : Str} {ta : TA} (hc : N.cn x = some (.ref C)) (h : AA K ta τ μ fun ds μ' => ∃ d, ds = [d] ∧ ∀ dx, μ' dx = none → N.xs x (some dx) τ (μ'.set dx (.xd [(f, d)]))) :
    AS K (fun _ σ H => XO.tMk1 C f ta σ H fun cls d H' => N.W cls d σ H') τ μ N := fun σ H s c E k =>
  h σ H s c _ fun ds μ1 vs H1 f1 c1 r1 ⟨d, e, q⟩ => by
    subst e
    cases r1 with
    | cons r rn =>
      rename_i v0 _
      cases rn
      refine ⟨_, rfl, fun dx hn => ?_⟩
      have n := c1.free hn
      have cc : Con K (upd H1 dx (.xd [(f, v0)])) (μ1.set dx (.xd [(f, d)])) := con_put hn c1 ⟨_, upd_same, .cons ⟨rfl, Rel.mono (tx_new hn) _ _ r⟩ .nil⟩
      have ff : Fr μ (μ1.set dx (.xd [(f, d)])) H (upd H1 dx (.xd [(f, v0)])) := f1.trans (fr_put hn)
      exact k.wx x (some dx) τ _ (.ref C) σ _ hc ff cc (s.mono (ff.tx c)) (q dx n)
/-- what the clause makes of an exception: caught, b, by this clause's suite, or let through -/
theorem s_tryAs (cn : Str → Option Value) {tb : WX → TS} {tu : Addr → Value → Option Addr → TS} {c : Value} {i : Nat} (hit : Str → Bool) (hm : ∀ x cls, cn x = some cls → PySem.W.exmOne K cls c = some (hit x))
    (hb : ∀ W, AS K (tb W) τ μ { N with W := W, cn := cn, xs := fun x dx τ' μ' => (hit x = true ∧ ∀ a cls, cn x = some cls → AS K (tu a cls dx) (τ'.set i (some (.ref a))) μ'
      { nx := fun τ2 μ2 => N.nx (τ2.set i none) μ2, rt := N.rt, bk := fun τ2 μ2 => N.bk (τ2.set i none) μ2, ct := fun τ2 μ2 => N.ct (τ2.set i none) μ2 }) ∨ (hit x = false ∧ N.cn x = cn x ∧ N.xs x dx τ' μ') }) :
    AS K (fun D σ H => tb (wAs K c i tu N.W D) D σ H) τ μ N := fun σ H s cc E k => by
  refine hb (wAs K c i tu N.W E) σ H s cc E ⟨k.nx, k.rt, k.bk, k.ct, fun x dx τ' μ' cls σ' H' ec f c' s' q => ?_⟩
  refine ⟨hit x, hm x cls ec, fun hx a na => ?_, fun hx => ?_⟩
  · rcases q with ⟨_, q⟩ | ⟨z, _⟩
    · have unset : ∀ {τ2 : T} {σ2 : L2.St} {H2 : Hp}, Slots K H2 τ2 σ2 → Slots K H2 (τ2.set i none) (σ2.set i none) := fun {τ2 σ2 H2} s2 => by
        refine ⟨by rw [List.length_set, List.length_set]; exact s2.1, fun j d e => ?_⟩
        by_cases hj : i = j
        · subst hj
          by_cases hi : i < τ2.length
          · rw [List.getElem?_set_self hi] at e; cases e
          · rw [List.getElem?_eq_none (by rw [List.length_set]; omega)] at e; cases e
        · rw [List.getElem?_set_ne hj] at e ⊢
          exact s2.2 j d e
      exact q a cls ec (σ'.set i (some (.ref a))) H' (s'.set (.ref a) i) c' _ ⟨fun τ2 μ2 σ2 H2 f2 c2 s2 p => k.nx _ μ2 _ H2 (f.trans f2) c2 (unset s2) p, fun d μ2 v H2 f2 c2 r p => k.rt d μ2 v H2 (f.trans f2) c2 r p,
        fun τ2 μ2 σ2 H2 f2 c2 s2 p => k.bk _ μ2 _ H2 (f.trans f2) c2 (unset s2) p, fun τ2 μ2 σ2 H2 f2 c2 s2 p => k.ct _ μ2 _ H2 (f.trans f2) c2 (unset s2) p, fun _ _ _ _ _ _ _ z => by cases z⟩
    · rw [hx] at z; cases z
  · rcases q with ⟨z, _⟩ | ⟨_, q⟩
    · rw [hx] at z; cases z
    · exact k.wx x dx τ' μ' cls σ' H' (q.1.trans ec) f c' s' q.2
end
/-- a def that may let an exception out -/
structure DefX (P : Program) (w : World) (K : PySem.W.Frag) (mg : Str → Option Value) (base : Heap) (x : Str) (ps : List Str) (k : Nat) (sp : Sp) : Prop where
  ex : ∃ f fd, FnOk P w K mg base (L2.CX P w) k f fd ps sp ∧ mg x = some (.ref f) ∧ PySem.W.keepIn K (.ref f) = true ∧ Binds K fd ps []
/-- a method of the class at C -/
structure Mth (P : Program) (w : World) (K : PySem.W.Frag) (mg : Str → Option Value) (base : Heap) (C : Addr) (m : Str) (ps : List Str) (k : Nat) (sp : Sp) : Prop where
  ex : ∃ f fd, FnOk P w K mg base (L2.CX P w) k f fd ps sp ∧ Cls K C ∧ Meth K C m f ∧ Binds K fd ps []
theorem fn_lift {P : Program} {w : World} {K : PySem.W.Frag} {mg : Str → Option Value} {base : Heap} {k : Nat} {f : Addr} {fd : FuncData} {ps : List Str} {sp : Sp} (F : FnOk P w K mg base CX0 k f fd ps sp) : FnOk P w K mg base (L2.CX P w) k f fd ps sp :=
  ⟨F.len, fun A outer s H args us vs Q E hr e b r h => codeAny_mono (F.run A outer s H args us vs Q E hr e b r h) fun r s' q => by
    cases r with
    | error e => exact q.elim
    | ok fl =>
      cases fl with
      | ret u => exact q
      | next => exact q.elim
      | brk => exact q.elim
      | cont => exact q.elim⟩
section
variable {X : Cx} {k : Nat} {ps : List Str} {sp : Sp} {x m : Str} {C : Addr} {p pos apos : Pos} {o e : Expr} {es : List Expr} {to : TE} {t : TA} {W : WX}
/-- how a method's call is read -/
abbrev MCall (X : Cx) (o : Expr) (m : Str) (es : List Expr) (kws : List Keyword) (pos apos : Pos) (pl : Sem Bool) : Prop :=
  eval (.Call (.Attribute o m apos) es kws pos) X.env = (do let ov ← eval o X.env; standAt apos.atName; let (g, own) ← holding [ov] (getMethod ov m pl); callWith pos g own (backTo pos (starEach es X.env)) (backToKw pos (keywordEach kws X.env)))
theorem pe_mthN0 {pl : Sem Bool} (G : Mth X.prog X.w X.K X.mg X.base C m ps k sp) (hr : Room k X.A) (ho : PE X o to)
    (ht : MCall X o m [] [] pos apos pl := by rfl) :
    PE X (.Call (.Attribute o m apos) [] [] pos) (tMeth C m sp [] E0 to tNil) := by
  obtain ⟨f, fd, F, c, hm, hb⟩ := G.ex
  exact pe_meth0 ho c hm F hr hb .nil passL ht
end
end Z
namespace Z
open PySem L2
section
variable {K : PySem.W.Frag} {τ : T} {μ μ1 μ2 : M} {H H1 H2 : Hp} {σ : L2.St} {Φ Ψ : D → M → Prop} {ta tb td te tv ty : TE} {tt : TT} {x y z d e : D} {N : AEnds} {ts us : TS}
theorem a_dnewK (h : ∀ p, μ p = none → Φ (.ref p) (μ.set p (.dK []))) : AE K tDNewK τ μ Φ := fun σ H s c Q k p hp =>
  k _ _ _ _ (fr_put hp) (con_put (m := .dK []) hp c ⟨[], upd_same, .nil⟩) (.ref p) (h p (c.free hp))
end
end Z
namespace ST
open PySem PySem.Spec PyProof.Rows L2 PpSet
section
variable {X : Cx} {pins : List (Addr × Obj)} {σ : L2.St} {H : Hp} {s : Shared} {E : Value → Shared → Prop}
/-- set.add of a tuple of ints -/
theorem add_tup {Dl b : Addr} {L : List (Addr × List Int)} {k : List Int} {Q : Value → Shared → Prop} (hu : X.A.units + 1 < cLine) (I : Inv X pins σ H s) (hD : H Dl = some (SetTO X.prog X.w Dl L)) (hb : H b = some (.tup (k.map V.int)))
    (hL : ∀ p ∈ L, H p.1 = some (.tup (p.2.map V.int))) (few : L.length + 1 < 64)
    (fin : ∀ L2 s2, (k ∈ L.map (·.2) → L2 = L) → (k ∉ L.map (·.2) → L2.Perm ((b, k) :: L)) → Inv X pins σ (upd H Dl (SetTO X.prog X.w Dl L2)) s2 → Q .none s2) :
    wpAny (model X.prog X.w) X.A (call (.builtin "set.add") [.ref Dl, .ref b]) Q E s := by
  have tup : ∀ {c : Addr} {l : List Int}, H c = some (.tup (l.map V.int)) → IsT X.prog X.w s.heap l c := fun h => I.isT (.inl (.inl h))
  have sT : SetT0 X.prog X.w s.heap Dl L := (I.hok Dl _ hD).1
  obtain ⟨es, ep, t, R⟩ := sT.full fun p hp => tup (hL p hp)
  obtain ⟨o, ho, hex, hd⟩ := R.ob
  have isSet : s.TypeIs (.ref Dl) "set" := ⟨o, ho, hex.1⟩
  refine wpAny_call_entry F.slot_set_add isSet F.entry_set_add ?_ (F.args_set_add_2 _ _)
  have hash := fun Q => wpAny_pyHash_tuple (prog := X.prog) (w := X.w) (A := X.A.in1) (E := E) (Q := Q) (show X.A.units + 1 < cLine from hu) (tup hb)
  simp only [Builtin.«set.add», Builtin.Frozenset.oneOther, Builtin.Frozenset.addrOf, setAdd, List.isEmpty_nil, bind_assoc]
  refine wpAny_bind (wpAny_pure (wpAny_bind (wpAny_pure (wpAny_bind (wpAny_holding (wpAny_bind (hash _ ?_)))))))
  refine add_at (s := { s with toks := s.toks + (k.length + 1) }) R (tup hb) (by show X.A.units + 1 < cLine; exact hu) few fun _ h2 L2 es2 ep2 t2 sb R2 c1 c2 => ?_
  obtain ⟨o2, ho2, _⟩ := R2.ob
  show wpAny _ _ (ret Value.none) _ _ _
  exact wpAny_pure ⟨_, rfl, fin L2 _ c1 c2 (I.write (e := Dl) (t' := s.toks + (k.length + 1)) (by rw [hD]; trivial) (.inl rfl) (fun c u hc hu => (sb.2 c hc).trans hu) ⟨o2, ho2⟩ (setTO_new R2.t0))⟩
/-- {elt for target in iter if ..}, elt a tuple of ints: Dl the new set -/
def tScT (P : Program) (w : World) (wi : TI) (g : TG) (tt : TT) (te : TE) (vs : List Nat) : TE := fun σ H Q => wi σ H fun J H1 => ∀ Dl, H1 Dl = none → ∃ W : Nat → Nat → Hp → Prop, (∃ m, W 0 m (upd H1 Dl (SetTO P w Dl []))) ∧ ∀ i m H, W i m H →
  (J.stop i H ∧ Q (.ref Dl) H) ∨ (J.go i H ∧ ∃ Nx : Hp → Prop, (∀ H', Nx H' → ∃ m', m' < m ∧ W (i + 1) m' H') ∧ ∀ x H', J.yld i H x H' → g x (wipe σ vs) H' fun σ2 H2 => wipe σ2 vs = wipe σ vs ∧ tt σ2 H2 fun b H3 =>
    if b = true then te σ2 H3 fun y H4 => ∃ (c : Addr) (k : List Int) (L : List (Addr × List Int)), y = .ref c ∧ H4 c = some (.tup (k.map V.int)) ∧ H4 Dl = some (SetTO P w Dl L) ∧ (∀ p ∈ L, H4 p.1 = some (.tup (p.2.map V.int))) ∧ L.length + 1 < 64 ∧
      ∀ L2, (k ∈ L.map (·.2) → L2 = L) → (k ∉ L.map (·.2) → L2.Perm ((c, k) :: L)) → Nx (upd H4 Dl (SetTO P w Dl L2)) else Nx H3)
theorem fresh_set {P : Program} {w : World} {H : Hp} {h : Heap} : ObjOk P w H (h.push { cls := .type "set", dict := none, data := .set #[] 0 (.fresh 0 0 (!w.params.followText "set-order")) }) h.objs.size (SetTO P w h.objs.size []) :=
  setTO_new (SetTR.t0 (setTR_fresh (P := P) (w := w) (Heap.get?_push_size _ rfl)))
theorem pe_scT {elt tg iter : Expr} {ifs : List Expr} {scope : Scope} {own : List (PySem.Str × Nat)} {pos : Pos} {wi : TI} {g : TG} {tt : TT} {te : TE} (hu : X.A.units + 1 < cLine) (hc : X.calm = true) (hN : X.N.Nodup) (hi : PI X tg iter wi) (ok : BlkOk X.N X.env.scope scope own)
    (hg : ∀ (s : Shared) (H : Hp) (C : Addr) (cl : List (PySem.Str × Addr)) (fp : List Addr), PG (X.blk s H scope (compEnvC scope cl C X.env) fp) tg g)
    (ht : ∀ (s : Shared) (H : Hp) (C : Addr) (cl : List (PySem.Str × Addr)) (fp : List Addr), PTs (X.blk s H scope (compEnvC scope cl C X.env) fp) ifs tt)
    (he : ∀ (s : Shared) (H : Hp) (C : Addr) (cl : List (PySem.Str × Addr)) (fp : List Addr), PE (X.blk s H scope (compEnvC scope cl C X.env) fp) elt te)
    (hs : ∀ x, foldedSetIterable iter X.env x = pure x := by intro _; rfl) :
    PE X (.SetComp elt [⟨tg, iter, ifs, 0⟩] scope pos) (tScT X.prog X.w wi g tt te (own.map (·.2))) := by
  refine ⟨fun pins s0 σ H0 Q I0 ask => ?_⟩
  rw [eval_SetComp]
  have cells : ∀ y ∈ scope.names, y.2 = .free → ∃ c, X.env.cells.lookup y.1 = some c := fun y hy e => I0.ok.has _ (ok.free y hy e)
  refine wpAny_comprehension_free (use := none) rfl hs (closure_ok cells) ok.kind (fun y hy e => by rw [ok.uniq y hy, e]) (thn (hi.run pins s0 σ H0 _ I0 ask) fun xv s1 hx => thn hx fun itv s2 got => ?_)
  obtain ⟨it, fp, tn, J, HI, eit, I2, T, st2, f2, q⟩ := got
  subst eit
  refine newSet_ok (newEnv_comp ?_)
  -- the new set
  obtain ⟨Dl, eD⟩ : ∃ d, d = s2.heap.objs.size := ⟨_, rfl⟩
  rw [← eD]
  obtain ⟨s3, e3⟩ : ∃ z : Shared, z = { s2 with heap := s2.heap.push { cls := .type "set", dict := none, data := .set #[] 0 (.fresh 0 0 (!X.w.params.followText "set-order")) } } := ⟨_, rfl⟩
  rw [← e3]
  have no : HI Dl = none := I2.hok.fresh (Nat.le_of_eq eD.symm)
  obtain ⟨H3, eH⟩ : ∃ z, z = upd HI Dl (SetTO X.prog X.w Dl []) := ⟨_, rfl⟩
  obtain ⟨W, ⟨m0, w0⟩, turn⟩ := q Dl no
  rw [← eH] at w0
  have I3 : Inv X pins σ H3 s3 := by
    subst e3 eH eD
    exact I2.laid (t' := s2.toks) (fun b o e => Heap.get?_push_of_some _ e) (Nat.le_refl _) fresh_set
  have old3 : ∀ b o, s2.heap.get? b = some o → s3.heap.get? b = some o := fun b o e => by subst e3; exact Heap.get?_push_of_some _ e
  have f3 : ∀ b ∈ fp, FpOk X pins H3 b ∧ b < s3.heap.objs.size := fun b hb => by
    obtain ⟨o, ob, _⟩ := T.obj _ _ st2 b hb
    refine ⟨⟨?_, (f2 b hb).2⟩, Heap.lt_size (old3 b o ob)⟩
    rw [eH, upd_ne (by rw [eD]; exact Nat.ne_of_lt (Heap.lt_size ob))]
    exact (f2 b hb).1
  have st3 := T.keep _ _ s3.heap st2 fun b _ o e => old3 b o e
  have I4 := block_start I3 ok hN f3
  have pg := hg s3 H3 s3.heap.objs.size (cellsFrom (s3.heap.objs.size + 1) scope.names (cloFrom X.env.cells scope.names [])) fp
  have pt := ht s3 H3 s3.heap.objs.size (cellsFrom (s3.heap.objs.size + 1) scope.names (cloFrom X.env.cells scope.names [])) fp
  have pe := he s3 H3 s3.heap.objs.size (cellsFrom (s3.heap.objs.size + 1) scope.names (cloFrom X.env.cells scope.names [])) fp
  have Cl : (compEnvC scope (cellsFrom (s3.heap.objs.size + 1) scope.names (cloFrom X.env.cells scope.names [])) s3.heap.objs.size X.env).locals = s3.heap.objs.size := rfl
  show codeAny _ _ (.compStart _ 0 (.ref it) (.ref Dl) (compEnvC scope (cellsFrom (s3.heap.objs.size + 1) scope.names (cloFrom X.env.cells scope.names [])) s3.heap.objs.size X.env)) _ { s3 with heap := pushCells (s3.heap.push { cls := .type "dict", data := .dict #[] }) scope.names }
  generalize compEnvC scope (cellsFrom (s3.heap.objs.size + 1) scope.names (cloFrom X.env.cells scope.names [])) s3.heap.objs.size X.env = ce at I4 pg pt pe Cl ⊢
  obtain ⟨s4, e4⟩ : ∃ z : Shared, z = { s3 with heap := pushCells (s3.heap.push { cls := .type "dict", data := .dict #[] }) scope.names } := ⟨_, rfl⟩
  rw [← e4] at I4 ⊢
  have st4 := T.keep _ _ s4.heap st3 fun b _ o e => by rw [e4]; exact pushCells_keeps _ _ _ _ (Heap.get?_push_of_some _ e)
  have stay : ∀ {σ' : L2.St} {H' : Hp} {s' : Shared}, Inv (X.blk s3 H3 scope ce fp) [] σ' H' s' → (∀ b ∈ fp, H' b = none) → ∀ b ∈ fp, FpOk (X.blk s3 H3 scope ce fp) [] H' b := fun {σ' H' s'} I' hn b hb =>
    ⟨hn b hb, (I'.ok.exf b hb).1, I'.ok.exfs b hb, .inl hb, fun x c e => (I'.ok.exf b hb).2 x c e, fun p hp => nomatch (show p ∈ ([] : List (Addr × Obj)) from hp)⟩
  let Lp : Nat → Shared → Prop := fun n s' => ∃ i H', Inv (X.blk s3 H3 scope ce fp) [] (wipe σ (own.map (·.2))) H' s' ∧ tn i s'.heap ∧ (∀ b ∈ fp, H' b = none) ∧ W i n H'
  refine (fun loop => codeAny_compStart_set loop (T.self X.A 0 s4 _ _ st4 loop)) (compLoopS_any Lp (fun n s5 lp => ?_) m0 ⟨0, H3, I4, st4, fun b hb => (f3 b hb).1.1, w0⟩)
  obtain ⟨i, H5, I5, st5, n5, w5⟩ := lp
  rcases turn i n H5 w5 with ⟨stop, qq⟩ | ⟨go, Nx, hNx, step⟩
  · -- the end: back in the def
    refine thnF (T.done (X.blk s3 H3 scope ce fp) rfl rfl rfl hc i [] s5 _ H5 (fun _ _ => False) I5 (stay I5 n5) st5 stop) fun r s6 ⟨er, I6⟩ => ?_
    subst er
    have I7 : Inv X pins σ H5 s6 := I3.call' (ch := fp) I6.os I6.base I6.hok I6.bare fun b hb => ⟨(f3 b hb).1.2.2.2.1, (f3 b hb).1.2.1, (f3 b hb).1.2.2.2.2.1, (f3 b hb).1.2.2.2.2.2⟩
    have freeC : H5 s3.heap.objs.size = none := by rw [← Cl]; exact I6.free
    obtain ⟨m, hn, _⟩ := I6.loc
    have hn : s6.heap.Ns s3.heap.objs.size m := by rw [← Cl]; exact hn
    obtain ⟨g0, g1, g2, g3, g4, g5⟩ := I3.fpOk (Nat.le_refl _) freeC
    exact ⟨m, hn, fun h2 sb => ⟨.ref Dl, H5, I7.turned (t' := s6.toks) (fun b o hb e => (sb.2 b hb).trans e) g0 g1 g3 g4 g5, rfl, qq⟩⟩
  · refine thnF (T.item (X.blk s3 H3 scope ce fp) rfl rfl rfl hc i [] s5 _ H5 (fun _ _ => False) I5 (stay I5 n5) st5 go) fun r s6 ⟨u, er, h6⟩ => ?_
    subst er
    refine thnF h6 fun _ s7 ⟨x, H7, I7, r7, y7, st7, n7⟩ => ?_
    refine thnF (pg.run _ s7 _ H7 x u _ (I7.pinned (stay I7 n7) (T.obj _ _ st7)) r7 (step x H7 y7)) fun _ s8 ⟨σ8, H8, I8, w8, q8⟩ => ?_
    refine thnF (pt.run _ s8 σ8 H8 _ I8 q8) fun b s9 ⟨H9, I9, q9⟩ => ?_
    have next : ∀ {s' : Shared} {H' : Hp}, Inv (X.blk s3 H3 scope ce fp) ([] ++ pinsAt fp s7.heap) σ8 H' s' → Nx H' → ∃ m, m < n ∧ Lp m s' := fun {s' H'} I' nx => by
      obtain ⟨m2, lt, w2⟩ := hNx H' nx
      have there : ∀ b ∈ fp, ∃ o, s7.heap.get? b = some o ∧ s'.heap.get? b = some o ∧ H' b = none := fun b hb => by
        obtain ⟨o, e, _⟩ := T.obj _ _ st7 b hb
        have z := I'.pin (b, o) (List.mem_append_right _ (List.mem_append_right _ (mem_pinsAt hb e)))
        exact ⟨o, e, z.1, z.2.1⟩
      refine ⟨m2, lt, i + 1, H', (I'.unpinned (pins := [])).weak (by rw [← w8, wipe_length]) (fun j v e => (wipe_some (by rw [← w8] at e; exact e)).1), T.keep _ _ _ st7 fun b hb o e => ?_, fun b hb => ?_, w2⟩
      · obtain ⟨o2, e2, e3', _⟩ := there b hb
        rw [e] at e2; cases e2; exact e3'
      · obtain ⟨_, _, _, z⟩ := there b hb
        exact z
    cases b with
    | false =>
      simp only [Bool.false_eq_true, if_false] at q9 ⊢
      exact next I9 q9
    | true =>
      simp only [if_true] at q9 ⊢
      refine thnF (pe.run _ s9 σ8 H9 _ I9 q9) fun z s10 ⟨yv, H10, I10, r10, c, k, L, ey, hcT, hDl, hL, few, nx⟩ => ?_
      subst ey
      cases (show z = Value.ref c from r10)
      exact add_tup (X := X.blk s3 H3 scope ce fp) hu I10 hDl hcT hL few fun L2 s11 c1 c2 I11 => next I11 (nx L2 c1 c2)
/-- len of it -/
def rLenST (P : Program) (w : World) : List V → Hp → VK → Prop := fun xs H Q => ∃ (a : Addr) (L : List (Addr × List Int)), xs = [.ref a] ∧ H a = some (SetTO P w a L) ∧ Q (.int L.length) H
theorem cr_lenST : CallR X (.builtin "len") (rLenST X.prog X.w) := by
  intro pins s σ H xs us Q I r h
  obtain ⟨a, L, e, ha, q⟩ := h
  subst e
  cases r with
  | @cons _ u _ ur r rn =>
    cases rn
    cases (show u = Value.ref a from r)
    have sT : SetT0 X.prog X.w s.heap a L := (I.hok a _ ha).1
    obtain ⟨es, ep, t, ⟨o, ho, hex, hd⟩, rows, tab, _, _, _, room, few⟩ := sT.ex
    have sz : es.size = L.length := by rw [← Array.length_toList, rows]; exact List.length_map ..
    have fit : t.fits es.size = true := by
      have a1 : t.place.size = L.length := by rw [tab.sz, List.length_map]
      have a2 : t.dummies.size = 0 := by rw [tab.dm]; rfl
      unfold SetTable.fits SetTable.fill
      rw [Bool.and_eq_true, beq_iff_eq, decide_eq_true_eq, a2, sz]
      omega
    refine call_len_set ho hex hd fit (by rw [sz]; have := sizeLine_eq; omega) ⟨.int L.length, H, I.tok _, ⟨_, by rw [sz]⟩, q⟩
end
end ST
namespace Z
open PySem L2 ST
structure StAt (P : Program) (w : World) (K : PySem.W.Frag) (Dl : Addr) (μ : M) (H0 : Hp) (acc : List (List Int)) (H' : Hp) : Prop where
  fr : Fr μ μ H0 H'
  con : Z.Con K H' μ
  no : μ Dl = none
  at_ : ∃ L : List (Addr × List Int), H' Dl = some (SetTO P w Dl L) ∧ (∀ p ∈ L, H' p.1 = some (.tup (p.2.map V.int))) ∧ (L.map (·.2)).Nodup ∧ L.length ≤ acc.length ∧ ∀ k, k ∈ L.map (·.2) ↔ k ∈ acc
theorem seto_ne {P : Program} {w : World} {a : Addr} {L : List (Addr × List Int)} {o : HO} (h : SetTO P w a L = o) (n : ∀ φ, o ≠ .ext φ) : False := n _ h.symm
theorem seto_nc {P : Program} {w : World} {a : Addr} {L : List (Addr × List Int)} {q : Str} (h : SetTO P w a L = LamX.CodeO a q) : False := by
  unfold SetTO LamX.CodeO at h
  injection h with h
  obtain ⟨o, ho⟩ : ∃ o : Obj, o = { cls := .none, data := .fields #[.none, .str q 0] } := ⟨_, rfl⟩
  have e : (Heap.mk (Array.replicate (a + 1) o) {}).get? a = some o := by
    subst ho
    unfold Heap.get?
    simp
  have z := congrFun h (Heap.mk (Array.replicate (a + 1) o) {})
  have k : SetT0 P w (Heap.mk (Array.replicate (a + 1) o) {}) a L := by
    rw [z]
    subst ho
    exact ⟨_, _, 0, e, rfl, rfl⟩
  obtain ⟨es, ep, t, ⟨o2, h2, _, h3⟩, _⟩ := k.ex
  rw [e] at h2
  cases h2
  rw [ho] at h3
  cases h3
theorem rels_ints {K : PySem.W.Frag} {H : Hp} : ∀ {k : List Int} {vs : List V}, Rels K H vs (k.map D.int) → vs = k.map V.int
  | [], _, .nil => rfl
  | _ :: _, _, .cons (.int _) b => by rw [List.map_cons, rels_ints b]
theorem rel_tupI {K : PySem.W.Frag} {H : Hp} {v : V} {k : List Int} (r : Rel K H v (.tup (k.map D.int))) : ∃ c, v = .ref c ∧ H c = some (.tup (k.map V.int)) := by
  cases r with
  | tup h hr =>
    cases h with
    | inl h => exact ⟨_, rfl, by rw [h, rels_ints hr]⟩
section
variable {P : Program} {w : World} {K : PySem.W.Frag} {τ : T} {μ : M} {H H0 H' : Hp} {σ : L2.St} {Φ : D → M → Prop} {te : TE} {wi : TI} {g : TG} {Dl : Addr} {acc : List (List Int)}
theorem st_upd {L L2 : List (Addr × List Int)} (c : Z.Con K H μ) (no : μ Dl = none) (h : H Dl = some (SetTO P w Dl L)) : Tx H (upd H Dl (SetTO P w Dl L2)) ∧ Z.Con K (upd H Dl (SetTO P w Dl L2)) μ := by
  have t : Tx H (upd H Dl (SetTO P w Dl L2)) := ⟨fun a xs e => by rw [upd_ne (fun z => by subst z; rw [h] at e; exact seto_ne (Option.some.inj e) (fun _ z => nomatch z))]; exact e,
    fun a ob xs e => by rw [upd_ne (fun z => by subst z; rw [h] at e; exact seto_ne (Option.some.inj e) (fun _ z => nomatch z))]; exact e,
    fun a q e => by rw [upd_ne (fun z => by subst z; rw [h] at e; exact seto_nc (Option.some.inj e))]; exact e⟩
  exact ⟨t, fun a m e => (c a m e).mono t (upd_ne (fun z => by subst z; rw [no] at e; cases e))⟩
theorem st_start (c : Z.Con K H μ) (hD : H Dl = none) : StAt P w K Dl μ H [] (upd H Dl (SetTO P w Dl [])) :=
  ⟨fr_new hD, con_new hD c, c.free hD, [], upd_same, (fun _ h => absurd h List.not_mem_nil), List.nodup_nil, Nat.le_refl _, fun _ => Iff.rfl⟩
/-- how many different ones there are -/
def NumOf (l : List (List Int)) (n : Nat) : Prop := ∃ d : List (List Int), d.Nodup ∧ (∀ k, k ∈ d ↔ k ∈ l) ∧ n = d.length
theorem a_lenSc {js : List Nat} {dec : D → List D → Prop} (hg : TgOk K g js dec)
    (h : AI K wi τ μ fun xs μw back => ∃ f : D → List Int, xs.length < 63 ∧ (∀ x ∈ xs, ∃ ds, dec x ds ∧ ds.length = js.length ∧ AE K te (sets τ js ds) μw fun y μ2 => y = .tup ((f x).map D.int) ∧ μ2 = μw) ∧ ∀ n, NumOf (xs.map f) n → Φ (.int (n : Int)) (back μw)) :
    AE K (tCB (rLenST P w) (tCons (tScT P w wi g tYes te js) tNil)) τ μ Φ := fun σ H s c Q k => by
  refine h σ H s c _ fun J xs out G H1 μw back tx c1 W g1 o1 B ⟨f, hz, hs, hd⟩ Dl hD => ?_
  have s1 := s.mono tx
  refine ⟨fun i m H' => m = xs.length - i ∧ i ≤ xs.length ∧ StAt P w K Dl μw H1 ((xs.take i).map f) H', ⟨xs.length, by omega, Nat.zero_le _, st_start c1 hD⟩, ?_⟩
  rintro i m H' ⟨rfl, hi, S⟩
  have gH : G H' := W.keep _ _ _ _ c1 o1 g1 S.fr
  by_cases hlt : i < xs.length
  · refine .inr ⟨W.go i H' hlt gH, fun H2 => StAt P w K Dl μw H1 ((xs.take (i + 1)).map f) H2, fun H2 S2 => ⟨xs.length - (i + 1), by omega, rfl, hlt, S2⟩, fun v H2 y => ?_⟩
    obtain ⟨x, hx, rx, hH⟩ := W.yld i H' v H2 hlt gH y
    have S2 : StAt P w K Dl μw H1 ((xs.take i).map f) H2 := by
      rcases hH with e | ⟨T0, vs, hT, e⟩
      · rw [e]; exact S
      · obtain ⟨f2, c2⟩ := yld_ok (vs := vs) S.con hT
        obtain ⟨L, a1, a2, a3, a4, a5⟩ := S.at_
        rw [e]
        exact ⟨S.fr.trans f2, c2, S.no, L, (f2 Dl _ S.no a1).1, fun p hp => (f2.tx S.con).t _ _ (a2 p hp), a3, a4, a5⟩
    obtain ⟨ds, hdec, hl, he⟩ := hs x (List.mem_of_getElem? hx)
    refine hg x ds v _ H2 hdec rx _ fun vs hvs => ⟨by rw [wipe_sets (fun _ h => h), wipe_wipe], ?_⟩
    have s' : Slots K H2 (sets τ js ds) (sets (wipe σ js) js vs) := slots_block (s1.mono (S2.fr.tx c1)) hvs hl
    refine he _ H2 s' S2.con _ fun y μ2 u H4 f4 c4 r4 ⟨ey, em⟩ => ?_
    subst ey em
    obtain ⟨ca, eu, hc⟩ := rel_tupI r4
    subst eu
    obtain ⟨L, a1, a2, a3, a4, a5⟩ := S2.at_
    have b1 : H4 Dl = some (SetTO P w Dl L) := (f4 Dl _ S2.no a1).1
    have b2 : ∀ p ∈ L, H4 p.1 = some (.tup (p.2.map V.int)) := fun p hp => (f4.tx S2.con).t _ _ (a2 p hp)
    have tl : ((xs.take i).map f).length ≤ i := by rw [List.length_map, List.length_take]; omega
    refine ⟨ca, f x, L, rfl, hc, b1, b2, by omega, fun L2 k1 k2 => ?_⟩
    obtain ⟨t5, c5⟩ := st_upd (L2 := L2) c4 S2.no b1
    have more : (xs.take (i + 1)).map f = (xs.take i).map f ++ [f x] := by
      rw [List.take_add_one, hx, List.map_append]; rfl
    have ff : Fr μ2 μ2 H1 (upd H4 Dl (SetTO P w Dl L2)) := fun a o n e => by
      obtain ⟨e2, m2⟩ := (S2.fr.trans f4) a o n e
      exact ⟨by rw [upd_ne (ne_of_none e hD)]; exact e2, m2⟩
    refine ⟨ff, c5, S2.no, L2, upd_same, ?_⟩
    rw [more]
    by_cases hm : f x ∈ L.map (·.2)
    · have e := k1 hm
      subst e
      refine ⟨fun p hp => t5.1 _ _ (b2 p hp), a3, by rw [List.length_append]; omega, fun k => ?_⟩
      rw [List.mem_append, a5 k]
      exact ⟨.inl, fun z => z.elim id fun z => by rw [List.mem_singleton.mp z]; exact (a5 _).mp hm⟩
    · have pm := k2 hm
      refine ⟨fun p hp => t5.1 _ _ ?_, ?_, ?_, fun k => ?_⟩
      · rcases List.mem_cons.mp (pm.mem_iff.mp hp) with e | z
        · rw [e]; exact hc
        · exact b2 p z
      · exact (pm.map (·.2)).nodup_iff.mpr (List.nodup_cons.mpr ⟨hm, a3⟩)
      · rw [pm.length_eq, List.length_cons, List.length_append]
        simp only [List.length_cons, List.length_nil]
        omega
      · rw [(pm.map (·.2)).mem_iff, List.map_cons, List.mem_cons, List.mem_append, List.mem_singleton, a5 k]
        exact ⟨fun z => z.symm, fun z => z.symm⟩
  · have e : i = xs.length := by omega
    subst e
    obtain ⟨L, a1, a2, a3, a4, a5⟩ := S.at_
    rw [List.take_length] at a5
    refine .inl ⟨W.stop _ H' (Nat.le_refl _) gH, ?_⟩
    refine ⟨Dl, L, rfl, a1, k _ (back μw) _ H' (B.fr _ _ S.fr) (B.con _ _ S.fr S.con) (.int _) (hd L.length ⟨L.map (·.2), a3, a5, by rw [List.length_map]⟩)⟩
end
theorem num_all {l : List (List Int)} {n : Nat} (h : l.Nodup) (m : NumOf l n) : n = l.length := by
  obtain ⟨d, h1, h2, e⟩ := m
  rw [e]
  exact Nat.le_antisymm (List.Nodup.length_le_of_subset h1 fun k hk => (h2 k).mp hk) (List.Nodup.length_le_of_subset h fun k hk => (h2 k).mpr hk)
theorem few_of_dup : ∀ (l d : List (List Int)), d.Nodup → (∀ k, k ∈ d → k ∈ l) → ¬ l.Nodup → d.length < l.length
  | [], _, _, _, h => absurd List.nodup_nil h
  | x :: r, d, hd, hs, h => by
    rw [List.length_cons]
    by_cases hx : x ∈ r
    · have := List.Nodup.length_le_of_subset hd fun k hk => by
        rcases List.mem_cons.mp (hs k hk) with e | z
        · rw [e]; exact hx
        · exact z
      omega
    · have hr : ¬ r.Nodup := fun z => h (List.nodup_cons.mpr ⟨hx, z⟩)
      have := few_of_dup r (d.erase x) (hd.erase x) (fun k hk => by
        have hk2 := (List.Nodup.mem_erase_iff hd).mp hk
        rcases List.mem_cons.mp (hs k hk2.2) with e | z
        · exact absurd e hk2.1
        · exact z) hr
      have h2 : d.length ≤ (d.erase x).length + 1 := by rw [List.length_erase]; split <;> omega
      omega
theorem num_some {l : List (List Int)} {n : Nat} (h : ¬ l.Nodup) (m : NumOf l n) : n < l.length := by
  obtain ⟨d, h1, h2, e⟩ := m
  rw [e]
  exact few_of_dup l d h1 (fun k hk => (h2 k).mp hk) h
end Z
namespace Z
open PySem L2 PyProof.Rows
section
variable {X : Cx} {a b c e : Expr} {ta tb tc te : TE} {pos : Pos}
def tChain3 (r1 r2 r3 : R2) (ta tb tc te : TE) : TE := fun σ H Q => ta σ H fun x H1 => tb σ H1 fun y H2 => r1 x y H2 fun z H3 => ∃ k, z = .bl k ∧
  (if k = true then tc σ H3 fun w H4 => r2 y w H4 fun z' H5 => ∃ k', z' = .bl k' ∧ (if k' = true then te σ H5 fun u H6 => r3 w u H6 Q else Q (.bl false) H5) else Q (.bl false) H3)
theorem pe_chain3 {o1 o2 o3 : CmpOp} {r1 r2 r3 : R2} (h1 : OpR X (compareOp o1) r1) (h2 : OpR X (compareOp o2) r2) (h3 : OpR X (compareOp o3) r3) (ha : PE X a ta) (hb : PE X b tb) (hc : PE X c tc) (he : PE X e te)
    (hm : lastMarks [o1, o2, o3] [b, c, e] = false := by with_unfolding_all rfl) : PE X (.Compare a [o1, o2, o3] [b, c, e] pos) (tChain3 r1 r2 r3 ta tb tc te) := by
  refine ⟨fun pins s σ H Q I h => ?_⟩
  refine Compare_chain (thn (ha.run pins s σ H _ I h) fun v s1 ⟨x, H1, I1, k1, q1⟩ => chain_link (thn (hb.run pins s1 σ H1 _ I1 q1) fun u s2 ⟨y, H2, I2, k2, q2⟩ =>
    thn (h1 pins s2 σ H2 x y v u _ I2 k1 k2 q2) fun d s3 ⟨z, H3, I3, k3, b1, eb, q3⟩ => ?_)) hm
  subst eb
  cases k3
  refine wpAny_truthy_bool ?_
  cases b1 with
  | false => exact ite_ff ⟨.bl false, H3, I3, rfl, q3⟩
  | true =>
    refine ite_tt (chain_link (thn (hc.run pins s3 σ H3 _ I3 q3) fun w s4 ⟨z', H4, I4, k4, q4⟩ => thn (h2 pins s4 σ H4 y z' u w _ I4 k2 k4 q4) fun d2 s5 ⟨z2, H5, I5, k5, b2, eb2, q5⟩ => ?_))
    subst eb2
    cases k5
    refine wpAny_truthy_bool ?_
    cases b2 with
    | false => exact ite_ff ⟨.bl false, H5, I5, rfl, q5⟩
    | true => exact ite_tt (chain_last (thn (he.run pins s5 σ H5 _ I5 q5) fun w' s6 ⟨z6, H6, I6, k6, q6⟩ => h3 pins s6 σ H6 z' z6 w w' Q I6 k4 k6 q6))
end
section
variable {K : PySem.W.Frag} {τ : T} {μ μ1 μ2 : M} {H H1 H2 : Hp} {σ : L2.St} {Φ Ψ : D → M → Prop} {ta tb tc td te : TE} {r1 r2 r3 : R2} {d e : D} {N : AEnds}
theorem a_chain3 (h : AE K ta τ μ fun d μ1 => AE K tb τ μ1 fun e μ2 => RO K r1 d e μ2 fun z μ3 => ∃ b, z = .bl b ∧
      if b = true then AE K tc τ μ3 fun w μ4 => RO K r2 e w μ4 fun z' μ5 => ∃ b', z' = .bl b' ∧ if b' = true then AE K te τ μ5 fun u μ6 => RO K r3 w u μ6 Φ else Φ (.bl false) μ5 else Φ (.bl false) μ3) :
    AE K (tChain3 r1 r2 r3 ta tb tc te) τ μ Φ := by
  refine Hold.out ?_
  simp (disch := (
  refine Hold.as ?_
  with_unfolding_all (
  intro σ H s c Q k
  refine h σ H s c _ fun d μ1 v H1 f1 c1 k1 p1 => ?_
  refine p1 σ H1 (s.mono (f1.tx c)) c1 _ fun e μ2 u H2 f2 c2 k2 p2 => ?_
  refine p2 H2 v u c2 (Rel.mono (f2.tx c1) _ _ k1) k2 _ fun z μ3 w H3 f3 c3 kz ⟨b, ez, p3⟩ => ?_
  subst ez
  cases kz
  refine ⟨b, rfl, ?_⟩
  have f13 := (f1.trans f2).trans f3
  cases b with
  | false => exact k _ μ3 _ H3 f13 c3 (.bl false) (show Φ (.bl false) μ3 from p3)
  | true =>
    have p3' : AE K tc τ μ3 fun w μ4 => RO K r2 e w μ4 fun z' μ5 => ∃ b', z' = .bl b' ∧ if b' = true then AE K te τ μ5 fun u μ6 => RO K r3 w u μ6 Φ else Φ (.bl false) μ5 := p3
    rw [if_pos rfl]
    refine p3' σ H3 (s.mono (f13.tx c)) c3 _ fun x4 μ4 w' H4 f4 c4 k4 p4 => ?_
    refine p4 H4 u w' c4 (Rel.mono ((f3.trans f4).tx c2) _ _ k2) k4 _ fun z' μ5 o H5 f5 c5 kz' ⟨b', ez', p5⟩ => ?_
    subst ez'
    cases kz'
    refine ⟨b', rfl, ?_⟩
    have f15 := (f13.trans f4).trans f5
    cases b' with
    | false => exact k _ μ5 _ H5 f15 c5 (.bl false) (show Φ (.bl false) μ5 from p5)
    | true =>
      have p5' : AE K te τ μ5 fun u μ6 => RO K r3 x4 u μ6 Φ := p5
      rw [if_pos rfl]
      refine p5' σ H5 (s.mono (f15.tx c)) c5 _ fun u2 μ6 v6 H6 f6 c6 k6 p6 => ?_
      exact p6 H6 w' v6 c6 (Rel.mono ((f5.trans f6).tx c4) _ _ k4) k6 Q fun z μ7 o7 H7 f7 c7 k7 p7 => k z μ7 o7 H7 ((f15.trans f6).trans f7) c7 k7 p7))) only [↓Hold.on]
end
theorem rc_max3 {K : PySem.W.Frag} {i j l : Int} {μ : M} {Φ : D → M → Prop} (q : Φ (.int (max (max i j) l)) μ) : RC K (rNuC3 nuMax3) [.int i, .int j, .int l] μ Φ := fun H xs c r Q k => by
  cases r with
  | cons a r =>
    cases r with
    | cons b r =>
      cases r with
      | cons d r =>
        cases a; cases b; cases d; cases r
        refine ⟨_, _, _, .int (max (max i j) l), rfl, ?_, k _ μ _ H Fr.refl c (.int _) q⟩
        have m2 : ∀ x y : Int, nuMax2 (.int x) (.int y) = some (.int (max x y)) := fun x y => by
          unfold nuMax2 nuLt nuCB
          simp only [Option.map_some]
          by_cases h : x < y
          · rw [if_pos (decide_eq_true h)]; congr 2; omega
          · rw [if_neg (by simpa using h)]; congr 2; omega
        unfold nuMax3
        rw [m2, Option.bind_some, m2]
def gFld (K : PySem.W.Frag) (to : TE) (f : Str) : TG := fun v σ H Q => to σ H fun x H2 => ∃ a C dx fs, x = .ref a ∧ H2 a = some (.ins C dx fs) ∧ Cls K C ∧ NoAttr K C f ∧ fs.length < 1000 ∧ Q σ (upd H2 a (.ins C dx (putF f v fs)))
theorem pg_fld {X : Cx} {o : Expr} {f : Str} {to : TE} {pos : Pos} (ho : PE X o to) : PG X (.Attribute o f pos) (gFld X.K to f) := by
  refine ⟨fun pins s σ H v u Q I r h => ?_⟩
  rw [PySem.assign_Attribute]
  refine wpAny_bind (wpAny_holding (thn (ho.run pins s σ H _ I h) fun ov s1 ⟨x, H2, I2, rx, a, C, dx, fs, ex, ea, c, n, l, q⟩ => ?_))
  subst ex
  obtain rfl : ov = Value.ref a := rx
  refine wpAny_bind (wpAny_standAt (wpAny_bind (wpAny_holding (setattr_ok I2 ea c n l r fun s3 I3 => ?_))))
  exact wpAny_release ⟨σ, _, I3, q⟩
section
variable {K : PySem.W.Frag} {τ : T} {μ μ1 μ2 : M} {H H1 H2 : Hp} {σ : L2.St} {Φ : D → M → Prop} {to te : TE} {d e : D} {N : AEnds}
theorem kvF_len {vs : List (Str × V)} {fs : List (Str × D)} (r : RelKV K H vs fs) : vs.length = fs.length := Paired.length r
theorem g_fld {f : Str} {Θ : T → M → Prop} (h : AE K to τ μ fun o μ2 => ∃ a C dx fs, o = .ref a ∧ μ2 a = some (.ins C dx fs) ∧ Cls K C ∧ NoAttr K C f ∧ fs.length < 1000 ∧ Θ τ (μ2.set a (.ins C dx (putD f d fs)))) : AG K (gFld K to f) d τ μ Θ := fun σ H v s c r Q k =>
  h σ H s c _ fun o μ2 w H2 f2 c2 r2 ⟨a, C, dx, fs, e, ha, hc, hn, hz, q⟩ => by
    subst e
    cases r2
    obtain ⟨vs, hv, hr⟩ := c2 a _ ha
    have fr := fr_mut (H := H2) (o := .ins C dx (putF f v vs)) (m' := .ins C dx (putD f d fs)) ha
    exact ⟨a, C, dx, vs, rfl, hv, hc, hn, by rw [kvF_len hr]; exact hz, k τ _ σ _ (f2.trans fr) (con_mut c2 ha ⟨_, upd_same, put_rel (Rel.mono ((f2.trans fr).tx c) _ _ r) (RelKV.mono (tx_mut c2 ha) hr)⟩) (s.mono ((f2.trans fr).tx c)) q⟩
theorem a_makeK {C : Addr} {n m : Nat} {cn : Str → Option Value} {P : PT4} {gV : List V → List V → List V} (gD : List D → List D → List D) {E : XK} {t tk : TA} (hg : ∀ H vs zs ds es, Rels K H vs ds → Rels K H zs es → ds.length = n + 1 → es.length = m → Rels K H (gV vs zs) (gD ds es))
    (h : AA K t τ μ fun ds μ1 => AA K tk τ μ1 fun es μ2 => ds.length = n ∧ es.length = m ∧ ∀ x dx, μ2 x = none → P (gD (.ref x :: ds) es) (μ2.set x (.ins C dx [])) (fun v μ3 => v = .non ∧ Φ (.ref x) μ3) fun _ _ _ => False) :
    AE K (tMakeK C n m (spX K cn P) gV E t tk) τ μ Φ := fun σ H s c Q k =>
  h σ H s c _ fun ds μ1 vs H1 f1 c1 r1 p1 => p1 σ H1 (s.mono (f1.tx c)) c1 _ fun es μ2 zs H2 f2 c2 r2 ⟨l1, l2, p2⟩ => by
    refine ⟨by rw [r1.length]; exact l1, by rw [r2.length]; exact l2, fun x dx hx hdx ne => ?_⟩
    have c3 : Con K (upd H2 dx (.own x)) μ2 := con_new hdx c2
    have hx3 : upd H2 dx (.own x) x = none := by rw [upd_ne (Ne.symm ne)]; exact hx
    have c4 : Con K (upd (upd H2 dx (.own x)) x (.ins C dx [])) (μ2.set x (.ins C dx [])) := con_put (m := .ins C dx []) hx3 c3 ⟨[], upd_same, .nil⟩
    have f4 : Fr μ2 (μ2.set x (.ins C dx [])) H2 (upd (upd H2 dx (.own x)) x (.ins C dx [])) := (fr_new hdx).trans (fr_put hx3)
    have r1' := (Rels.mono ((f2.trans f4).tx c1) _ _ r1)
    have r2' := (Rels.mono (f4.tx c2) _ _ r2)
    refine ⟨gD (.ref x :: ds) es, _, _, _, hg _ _ _ _ _ (.cons (.ref x) r1') r2' (by rw [List.length_cons, l1]) l2, c4, p2 x dx (c2.free hx), fun d μ' v H' f c' r ⟨ed, q⟩ => ?_, fun _ _ _ _ _ _ _ _ q => q.elim⟩
    subst ed
    cases r
    exact ⟨rfl, k _ μ' _ H' (((f1.trans f2).trans f4).trans f) c' (.ref x) q⟩
end
end Z
namespace Z
open PySem L2 PyProof.Rows
/-- an own error with one field -/
structure Exc1 (P : Program) (w : World) (K : PySem.W.Frag) (mg : Str → Option Value) (base : Heap) (x f : Str) (C : Addr) : Prop where
  ex : ∃ (B newId initId : String) (tl0 tl : List Value) (fI : Addr) (fd : FuncData) (p1 p2 : Str), ExcBaseFacts B newId initId tl0 ∧ PySem.HandSPX.NewIn B tl ∧ XO.OexB K C newId tl ∧ PySem.W.findIn K (.ref C) "__init__" = some (some (.ref fI)) ∧ PySem.W.typeIn K (.ref fI) = some (.type "function") ∧
    FnOk P w K mg base CX0 1 fI fd [p1, p2] (XO.spI1 K newId tl f) ∧ Binds K fd [p1, p2] []
  no : PySem.W.findIn K (.ref C) f = some none
  mg : mg x = some (.ref C)
  xf : XfC K C
/-- an own error with a text -/
structure Exc0 (K : PySem.W.Frag) (mg : Str → Option Value) (x : Str) (C : Addr) : Prop where
  ex : ∃ (B newId initId : String) (tl : List Value), ExcBaseFacts B newId initId tl ∧ PySem.W.excIn K C tl newId = true
  mg : mg x = some (.ref C)
  kp : PySem.W.keepIn K (.ref C) = true
  r1 : PySem.W.subIn K (.ref C) (.type "BaseException") = some true
  r2 : PySem.W.typeIn K (.ref C) = some (.type "type")
section
variable {X : Cx} {C : Addr} {x f m : Str} {j : Nat} {p p2 pos : Pos} {e : Expr} {es : List Expr} {ta : TA}
theorem pmk_e1 (G : Exc1 X.prog X.w X.K X.mg X.base x f C) (hr : Room 2 X.A) (hg : Gl X x) (ha : PA X (e :: es) ta)
    (hdb : (x == ("__debug__" : Str)) = false := by decide) (he : starEach (e :: es) X.env = (false, eval e X.env) :: starEach es X.env := by rfl) (hpl : (backTo pos (starEach es X.env)).any (·.1) = false := by rfl) :
    PMk X (.Call (.Name x p) (e :: es) [] pos) (XO.tMk1 C f ta) := by
  obtain ⟨B, newId, initId, tl0, tl, fI, fd, p1, p2, F, NI, T, iC, tI, FI, hb⟩ := G.ex
  exact XO.pmk_1 F NI T G.no iC tI FI hr hb hg G.mg ha hdb he hpl
theorem pmk_e0 (G : Exc0 X.K X.mg x C) (hg : Gl X x) (hdb : (x == ("__debug__" : Str)) = false := by decide) : PMk X (.Call (.Name x p) [.Constant (.str m) j p2] [] pos) (fun _ H Q => Q (.ref C) none H) := by
  obtain ⟨B, newId, initId, tl, F, q⟩ := G.ex
  exact pmk_own F q G.mg G.kp (raises_own G.r1 G.r2) hg hdb
end
/-- the values by the parameters' order: behind the written ones, those by name (true) and the lacking ones (false) -/
def gK {α : Type} (π : List (Bool × Nat)) (us mv ws : List α) : List α := us ++ π.filterMap fun p => if p.1 = true then ws[p.2]? else mv[p.2]?
theorem vals_at {vs : List V} {us : List Value} (r : Vals vs us) (i : Nat) : (vs[i]? = none ∧ us[i]? = none) ∨ ∃ v u, vs[i]? = some v ∧ us[i]? = some u ∧ RelV v u := by
  induction r generalizing i with
  | nil => exact .inl ⟨by simp, by simp⟩
  | cons a _ ih =>
    cases i with
    | zero => exact .inr ⟨_, _, by simp, by simp, a⟩
    | succ i => simpa using ih i
theorem rels_at {K : PySem.W.Frag} {H : Hp} : ∀ {vs : List V} {ds : List D} (r : Rels K H vs ds) (i : Nat), (vs[i]? = none ∧ ds[i]? = none) ∨ ∃ v d, vs[i]? = some v ∧ ds[i]? = some d ∧ Rel K H v d
  | [], [], .nil, i => .inl ⟨by simp, by simp⟩
  | v :: vs, d :: ds, .cons a b, 0 => .inr ⟨v, d, by simp, by simp, a⟩
  | v :: vs, d :: ds, .cons a b, i + 1 => by simpa using rels_at b i
theorem vals_gK (π : List (Bool × Nat)) {vs mz zs : List V} {us mv ws : List Value} (r : Vals vs us) (r1 : Vals mz mv) (r2 : Vals zs ws) : Vals (gK π vs mz zs) (gK π us mv ws) := by
  refine r.append ?_
  induction π with
  | nil => exact .nil
  | cons p π ih =>
    have z : (((if p.1 = true then zs[p.2]? else mz[p.2]?) = none ∧ (if p.1 = true then ws[p.2]? else mv[p.2]?) = none)) ∨ ∃ v u, (if p.1 = true then zs[p.2]? else mz[p.2]?) = some v ∧ (if p.1 = true then ws[p.2]? else mv[p.2]?) = some u ∧ RelV v u := by
      by_cases h : p.1 = true
      · rw [if_pos h, if_pos h]; exact vals_at r2 _
      · rw [if_neg h, if_neg h]; exact vals_at r1 _
    rw [List.filterMap_cons, List.filterMap_cons]
    rcases z with ⟨a, b⟩ | ⟨v, u, a, b, k⟩
    · rw [a, b]; exact ih
    · rw [a, b]; exact .cons k ih
theorem rels_gK {K : PySem.W.Frag} {H : Hp} (π : List (Bool × Nat)) {vs mz zs : List V} {us mv ws : List D} (r : Rels K H vs us) (r1 : Rels K H mz mv) (r2 : Rels K H zs ws) : Rels K H (gK π vs mz zs) (gK π us mv ws) := by
  refine r.append ?_
  induction π with
  | nil => exact .nil
  | cons p π ih =>
    have z : (((if p.1 = true then zs[p.2]? else mz[p.2]?) = none ∧ (if p.1 = true then ws[p.2]? else mv[p.2]?) = none)) ∨ ∃ v u, (if p.1 = true then zs[p.2]? else mz[p.2]?) = some v ∧ (if p.1 = true then ws[p.2]? else mv[p.2]?) = some u ∧ Rel K H v u := by
      by_cases h : p.1 = true
      · rw [if_pos h, if_pos h]; exact rels_at r2 _
      · rw [if_neg h, if_neg h]; exact rels_at r1 _
    rw [List.filterMap_cons, List.filterMap_cons]
    rcases z with ⟨a, b⟩ | ⟨v, u, a, b, k⟩
    · rw [a, b]; exact ih
    · rw [a, b]; exact .cons k ih
/-- C(.., k = v, ..), its __init__ keeping sp -/
structure MkK (P : Program) (w : World) (K : PySem.W.Frag) (mg : Str → Option Value) (base : Heap) (x : Str) (C : Addr) (ps : List Str) (n : Nat) (ks : List Str) (π : List (Bool × Nat)) (mz : List V) (k : Nat) (sp : Sp) : Prop where
  ex : ∃ f fd g, Mk K C f ∧ FnOk P w K mg base (L2.CX P w) k f fd ps sp ∧ mg x = some (.ref C) ∧ KBn K fd ps (n + 1) ks g (fun vs zs => gK π vs mz zs)
section
variable {X : Cx} {C : Addr} {x : Str} {ps ks : List Str} {n k : Nat} {π : List (Bool × Nat)} {mz : List V} {sp : Sp} {p pos : Pos} {e : Expr} {es : List Expr} {kws : List Keyword} {t tk : TA}
theorem pe_mkK (G : MkK X.prog X.w X.K X.mg X.base x C ps n ks π mz k sp) (hr : Room (k + 1) X.A) (hg : Gl X x) (ha : PA X (e :: es) t) (hkw : PK X kws tk)
    (hall : (backToKw pos (keywordEach kws X.env)).all (·.1.isSome) = true := by rfl) (hks : (backToKw pos (keywordEach kws X.env)).filterMap (·.1) = ks := by rfl) (hdb : (x == ("__debug__" : Str)) = false := by decide)
    (he : starEach (e :: es) X.env = (false, eval e X.env) :: starEach es X.env := by rfl) (hpl : ((backTo pos (starEach (e :: es) X.env)).any (·.1) || (backToKw pos (keywordEach kws X.env)).any (·.1.isNone)) = false := by rfl) :
    PE X (.Call (.Name x p) (e :: es) kws pos) (tMakeK C n ks.length sp (fun vs zs => gK π vs mz zs) E0 t tk) := by
  obtain ⟨f, fd, g, M, F, hm, hb⟩ := G.ex
  exact pe_makeK M F hr hg hm hb passL ha hkw hall hks hdb he hpl
end
theorem a_mkK {K : PySem.W.Frag} {τ : T} {μ : M} {Φ : D → M → Prop} {C : Addr} {n m : Nat} {π : List (Bool × Nat)} {mz : List V} (mD : List D) (hmz : ∀ H, Rels K H mz mD) {cn : Str → Option Value} {P : PT4} {E : XK} {t tk : TA}
    (h : AA K t τ μ fun ds μ1 => AA K tk τ μ1 fun es μ2 => ds.length = n ∧ es.length = m ∧ ∀ x dx, μ2 x = none → P (gK π (.ref x :: ds) mD es) (μ2.set x (.ins C dx [])) (fun v μ3 => v = .non ∧ Φ (.ref x) μ3) fun _ _ _ => False) :
    AE K (tMakeK C n m (spX K cn P) (fun vs zs => gK π vs mz zs) E t tk) τ μ Φ := a_makeK (fun ds es => gK π ds mD es) (fun H vs zs ds es r1 r2 _ _ => rels_gK π r1 (hmz H) r2) h
/-- a def of a class, its keyword defaults by name -/
theorem kbn_of {K : PySem.W.Frag} {x qual : Str} {params : Arguments} {body : List Stmt} {scope : Scope} {kws : List (Str × V)} {f : Addr} {fd : FuncData} {ps : List Str} (F : FunD K x qual params body scope [] kws f fd) (n : Nat) (ks : List Str) (ms : List (Str × V)) (π : List (Bool × Nat)) (hk : kws ≠ []) (hms : ∀ q ∈ ms, q ∈ kws)
    (h : ∀ (D : Addr) (doc pm : Value) (an : Option Addr) (cdv ct : Value) (us mv ws : List Value), us.length = n → mv.length = ms.length → ws.length = ks.length →
      KwChain D ((ms.map (·.1)).zip mv) (bindArgs (PySem.W.fnOf x qual params body scope .none (.ref D) doc pm an cdv ct) ⟨us, ks.zip ws⟩) (ps.zip (gK π us mv ws))) : ∃ g, KBn K fd ps n ks g (fun vs zs => gK π vs (ms.map (·.2)) zs) := by
  obtain ⟨mv, hb⟩ := F.kbinds0 n ks ms (fun us mv ws => gK π us mv ws) hk hms (fun r1 r2 r3 => vals_gK π r1 r2 r3) h
  exact ⟨_, hb⟩
/-- does «except C» name an error of the class at S -/
theorem exm_pair {K : PySem.W.Frag} {S C : Addr} {b : Bool} (h1 : PySem.W.subIn K (.ref C) (.type "BaseException") = some true) (h2 : PySem.W.isClsIn K C = true) (h3 : PySem.W.typeIn K (.ref C) = some (.type "type")) (h4 : PySem.W.subIn K (.ref S) (.ref C) = some b) :
    PySem.W.exmOne K (.ref S) (.ref C) = some b := by
  have e2 : ((PySem.W.clsIn K C).isSome && PySem.W.typeIn K (.ref C) == some (.type "type")) = true := by
    have h5 : (PySem.W.clsIn K C).isSome = true := h2
    rw [h5, h3] <;> rfl
  have e1 : (PySem.W.subIn K (.ref C) (.type "BaseException") == some true) = true := by rw [h1] <;> rfl
  unfold PySem.W.exmOne
  rw [if_pos e1]
  unfold PySem.W.kitCls
  first
    | (rw [if_pos e2]; exact h4)
    | (simp only [e2, if_true]; exact h4)
section
variable {X : Cx} {K : PySem.W.Frag} {o value : Expr} {f : PySem.Str} {ta tv : TE} {pos pos' : Pos}
theorem ps_fldK (h : X.K = K) (ha : PE X o ta) (hv : PE X value tv) (hs : swapsWith value (some (.Attribute o f pos')) pos.line X.env = pure false) : PS X (.Assign [.Attribute o f pos'] value pos) (sFld K ta tv f) := by
  subst h; exact ps_fld ha hv hs
theorem pg_fldK (h : X.K = K) (ho : PE X o ta) : PG X (.Attribute o f pos) (gFld K ta f) := by subst h; exact pg_fld ho
end
/-- what a def that may raise has made for itself is forgotten at its end -/
theorem body_okXU {K : PySem.W.Frag} {H : Hp} {ts : TS} {P : PT4} {E : XK} {Ns : List Str} {vs : List V} {Q : VK} {cn : Str → Option Value} (h : spX K cn P vs H Q E) (hb : ∀ ds μ Φ Ξ, P ds μ Φ Ξ → AS K ts (startD Ns.length ds) μ (endX cn E (Up Φ) (UpX Ξ))) :
    ts { nx := fun _ H' => Q .non H', rt := Q } (L2.start Ns vs) H := by
  obtain ⟨ds, μ, Φ, Ξ, r, c, p, k, kx⟩ := h
  refine hb ds μ Φ Ξ p _ H (slots_start r) c _ ⟨fun _ μ' _ H' f c' _ ⟨μ2, sb, q⟩ => k .non μ2 .non H' (f.sub sb) (c'.sub sb) .non q, fun d μ' v H' f c' r' ⟨μ2, sb, q⟩ => k d μ2 v H' (f.sub sb) (c'.sub sb) r' q, fun _ _ _ _ _ _ _ q => q.elim, fun _ _ _ _ _ _ _ q => q.elim,
    fun x dx _ μ' cls _ H' e f c' _ ⟨μ2, sb, q⟩ => kx x dx μ2 cls H' e (f.sub sb) (c'.sub sb) q⟩
/-- a written constant of the top -/
structure Cst (mg : Str → Option Value) (x : Str) (v : V) : Prop where
  ex : ∃ u, mg x = some u ∧ RelV v u
theorem pe_cst {X : Cx} {x : Str} {v : V} {pos : Pos} (G : Cst X.mg x v) (hg : Gl X x) (hd : (x == ("__debug__" : Str)) = false := by decide) : PE X (.Name x pos) (tC v) := by
  obtain ⟨u, hm, r⟩ := G.ex
  exact pe_glob hg hm r hd
end Z
namespace SD
open PySem PySem.Spec PyProof.Rows L2 PySem.W
end SD
namespace Z
open PySem L2 SD PySem.W
/-- pairs of ints stand as tuples do -/
def leP (p q : Int × Int) : Bool := decide (p.1 < q.1) || (decide (p.1 = q.1) && decide (p.2 ≤ q.2))
end Z
namespace ZT
open PySem PySem.Spec PyProof.Rows L2
section
variable {M : Model} {h : Heap} {a : Addr} {oe : Obj} {vs : Array Value}
theorem lk_noType (ha : h.get? a = some oe) (hd : oe.data = .fields vs) : PySem.W.Looks M h (isType (.ref a)) false := by
  have e : (match oe.data with | .cls _ => true | _ => false) = false := by rw [hd]
  exact (PySem.W.Looks.ld ha).andThen (PySem.W.Looks.of_pure (by rw [hd]))
theorem lk_type (ha : h.get? a = some oe) : PySem.W.Looks M h (typeOf (.ref a)) oe.cls :=
  fun _ _ _ _ k q => wpAny_typeOf_ref (k _ _ ha) q
/-- an error stands for itself, whatever the complaint would be -/
theorem lk_self (ha : h.get? a = some oe) (hd : oe.data = .fields vs) (x : PySem.W.Looks M h (isSubtype oe.cls (.type "BaseException")) true) (msg : String) :
    PySem.W.Looks M h (excFromValue (.ref a) msg) (.ref a) := by
  have n1 : PySem.W.Looks M h (isExcClass (.ref a)) false := (lk_noType ha hd).andThen PySem.W.Looks.now
  exact n1.andThen (((lk_type ha).andThen x).andThen PySem.W.Looks.now)
theorem lk_raised (ha : h.get? a = some oe) (y : PySem.W.Looks M h (typeOf oe.cls) (.type "type")) : PySem.W.Looks M h (raisedInstance (.ref a)) (.ref a) :=
  (lk_type ha).andThen (y.andThen PySem.W.Looks.now)
theorem lk_still (ha : h.get? a = some oe) (hd : oe.data = .fields vs) (h1 : vs[1]? = some .none) : PySem.W.Looks M h (setFlight (.ref a) none) () :=
  fun _ _ _ _ k q => wpAny_bind (wpAny_field (k _ _ ha) hd h1 (wpAny_pure q))
end
/-- a record made over h0, on its way to be raised -/
structure Made (M : Model) (h0 h : Heap) (a : Addr) (cls : Value) (d : Option Addr) : Prop where
  new : h0.get? a = none
  old : ∀ b o, h0.get? b = some o → h.get? b = some o
  fin : ∃ oe vs, h.get? a = some oe ∧ oe.data = .fields vs ∧ oe.cls = cls ∧ oe.dict = d ∧ vs[1]? = some .none ∧ 4 < vs.size
  exc : PySem.W.Looks M h0 (isSubtype cls (.type "BaseException")) true
  met : PySem.W.Looks M h0 (typeOf cls) (.type "type")
section
variable {M : Model} {h0 : Heap} {a : Addr} {cls : Value} {d : Option Addr} {A : Around} {E : Value → Shared → Prop} {s : Shared}
/-- one more field is told -/
theorem Made.upd {h : Heap} (m : Made M h0 h a cls d) {i : Nat} (v : Value) (hi : i ≠ 1) : Made M h0 (h.update a (Obj.mapFields (·.setIfInBounds i v))) a cls d := by
  obtain ⟨oe, vs, ha, hd, hc, hx, h1, hz⟩ := m.fin
  have hd' := Obj.data_mapFields hd (·.setIfInBounds i v)
  exact ⟨m.new, fun b o e => (Heap.get?_update_other _ _ fun z => Option.some_ne_none _ (((congrArg h0.get? z).trans e).symm.trans m.new)).trans (m.old b o e),
    ⟨_, _, Heap.get?_update_self _ ha (Obj.isFreed_of_fields hd'), hd', (Obj.cls_mapFields ..).trans hc, (HandSPX.dict_mapFields ..).trans hx, HotX.set_other hi h1, by rw [HotX.set_size]; exact hz⟩, m.exc, m.met⟩
theorem Made.put (m : Made M h0 s.heap a cls d) {i : Nat} {v : Value} {Q : Unit → Shared → Prop} (hi : i ≠ 1) (h4 : i ≤ 4)
    (q : ∀ h', Made M h0 h' a cls d → Q () { s with heap := h' }) : wpAny M A (setField (.ref a) i v) Q E s := by
  obtain ⟨oe, vs, ha, hd, -, -, -, hz⟩ := id m.fin
  exact wpAny_setField ha hd (Nat.lt_of_le_of_lt h4 hz) (q _ (m.upd v hi))
end
/-- raise x from c, where c's error is the one that is handled: the record is finished, then it is in flight -/
theorem raise_from {prog : Program} {w : World} {A : Around} {E : Value → Shared → Prop} {env : Env} {s : Shared} {x c : Sem Value} {Q : Flow → Shared → Prop} {x1 : Addr}
    (h : wpAny (model prog w) A x (fun v s₁ => ∃ a h0 cls d o1 vs1, v = .ref a ∧ Made (model prog w) h0 s₁.heap a cls d ∧ h0.get? x1 = some o1 ∧ o1.data = .fields vs1 ∧ vs1[2]? = some .none ∧ A.handled = some (.ref x1) ∧
      PySem.W.Looks (model prog w) h0 (isSubtype o1.cls (.type "BaseException")) true ∧ (∀ Q' : Value → Shared → Prop, Q' (.ref x1) s₁ → wpAny (model prog w) A c Q' E s₁) ∧
      ∀ h', Made (model prog w) h0 h' a cls d → E (.ref a) { s₁ with heap := h' }) E s) :
    wpAny (model prog w) A (raiseStmt env (some x) (some c)) Q E s := by
  refine wpAny_bind (thn h fun v s₁ ⟨a, h0, cls, d, o1, vs1, ev, m, g1, d1, c1, hh, b1, hc, hE⟩ => ?_)
  subst ev
  obtain ⟨oe, vs, ha, hd, ec, ex, h1, hz⟩ := id m.fin
  have k1 := m.old _ _ g1
  have self := lk_self (M := model prog w) ha hd (by rw [ec]; exact m.exc.keeps m.old)
  have cause := lk_self (M := model prog w) k1 d1 (b1.keeps m.old)
  refine wpAny_bind (wpAny_holding (hc _ (wpAny_bind (wpAny_pure ?_))))
  refine wpAny_bind (wpAny_holding ((self _).here ?_))
  show wpAny _ _ (do let c ← (if (Value.ref x1 == Value.none) = true then pure .none else holding [.ref a] (excFromValue (.ref x1) "exception causes must derive from BaseException")); setField (.ref a) 3 c; setField (.ref a) 4 (.bool true); _) _ _ _
  rw [if_neg (by simp)]
  refine wpAny_bind (wpAny_holding ((cause _).here (wpAny_bind (m.put (by decide) (by decide) fun h3 m3 => wpAny_bind (m3.put (by decide) (by decide) fun h4 m4 => ?_)))))
  obtain ⟨o4, v4, ha4, hd4, ec4, ex4, h14, hz4⟩ := id m4.fin
  refine wpAny_bind ((lk_noType ha4 hd4).here ?_)
  show wpAny _ _ (do let e ← raisedInstance (.ref a); setFlight e none; raiseNew e) _ _ _
  refine wpAny_bind ((lk_raised ha4 (by rw [ec4]; exact m4.met.keeps m4.old)).here (wpAny_bind ((lk_still ha4 hd4 h14).here ?_)))
  exact HotX.raiseNew_hot ⟨hh, o1, vs1, m4.old _ _ g1, d1, c1⟩ (fun z => by rw [z, m.new] at g1; cases g1) ha4 hd4 (by omega) (hE _ (m4.upd _ (by decide)))
end ZT
namespace ZT
open PySem PySem.Spec PyProof.Rows L2
section
variable {X : Cx} {pins : List (Addr × Obj)} {σ : L2.St} {H : Hp} {s : Shared}
/-- a slot's address, read: the state stays as it is -/
theorem slot_ld {M : Model} {A : Around} {E : Value → Shared → Prop} {i : Nat} {n : Str} {np : Pos} {a : Addr} {Q : Value → Shared → Prop} (I : Inv X pins σ H s) (hN : X.N[i]? = some n) (hσ : σ[i]? = some (some (.ref a))) (hv : Vis X.env.scope n) (q : Q (.ref a) s)
    (hdb : (n == ("__debug__" : Str)) = false) (hcd : (n == ("__classdict__" : Str)) = false) : wpAny M A (eval (.Name n np) X.env) Q E s := by
  obtain ⟨m, hn, at_⟩ := I.loc
  refine wpAny_Name ?_ hdb
  match at_ i n _ hN hσ hv with
  | ⟨_, rfl, .inl ⟨k, e⟩⟩ => exact wpAny_loadName_local I.ok.kind k hn e q
  | ⟨_, rfl, .inr ⟨.inl k, _, e, z⟩⟩ => exact wpAny_loadName_cell I.ok.kind k e z q
  | ⟨_, rfl, .inr ⟨.inr k, _, e, z⟩⟩ => exact wpAny_loadName_free I.ok.kind k e z q hcd
end
end ZT
namespace L2H
open PySem PySem.Spec PyProof.Rows L2 HotX
/-- classes of exceptions, by the table alone -/
def RaisesK (K : PySem.W.Frag) (cls : Value) : Prop := ∀ (M : Model) (h : Heap), K.In h → PySem.W.Looks M h (isSubtype cls (.type "BaseException")) true
/-- raise X(..) from n, n the name of the clause -/
theorem ps_raiseHE {X : Cx} {W : WX} {e : Expr} {t : L2.St → Hp → XK → Prop} {i : Nat} {n : Str} {np pos : Pos} {a1 : Addr} {oe1 : Obj} {cls1 : Value} {K : PySem.W.Frag} (hK : X.K = K) (hp : (a1, oe1) ∈ X.pn) (hot : Hot1 X.A (a1, oe1)) (hcl : oe1.cls = cls1) (hN : X.N[i]? = some n) (hv : Vis X.env.scope n)
    (tk : L2.Takes X W) (he : PMk5 X e t) (hdb : (n == ("__debug__" : Str)) = false := by decide) (hcd : (n == ("__classdict__" : Str)) = false := by decide) :
    PS X (.Raise (some e) (some (.Name n np)) pos) (fun _ σ H => RaisesK K cls1 ∧ σ[i]? = some (some (.ref a1)) ∧ t σ H fun cls d H' => W cls d σ H') where
  run pins s σ H D I := fun ⟨rK, hσ, h⟩ => by
    subst hK hcl
    obtain ⟨hh, v1, e1, c1⟩ := hot
    refine wpAny_bind (wpAny_standAt (ZT.raise_from (x1 := a1) (wpAny_bind (thn (he pins s σ H _ I h) fun u s1 made => wpAny_bind (wpAny_standAt (wpAny_pure ?_))))))
    obtain ⟨⟨a, oe, vs, sI, H', cls, d, eu, J, k, hne, ha, hz, hd, h1, na, os, ag, r, q⟩, six⟩ := made
    have grown : Inv X pins σ H' s1 := J.landed (B := sI.heap) (fun _ _ e _ => e) k (.of_keeps k) os ag
    have stands := (J.pin _ (List.mem_append_left _ hp)).1
    refine ⟨a, sI.heap, cls, d, oe1, v1, eu, ⟨hne, k, ⟨oe, vs, ha, hd, hz.1, hz.2.1, h1, six a oe vs eu ha hd⟩, (r _ _ J.kIn).1, (r _ _ J.kIn).2⟩, stands, e1, c1, hh, rK _ _ J.kIn, fun Q' q' => ?_, fun h' m => ?_⟩
    · exact wpAny_bind (ZT.slot_ld grown hN hσ hv (wpAny_bind (wpAny_standAt (wpAny_pure q'))) hdb hcd)
    · obtain ⟨o', v', g', d', ec, ex, h1', -⟩ := m.fin
      exact tk _ _ (.new (s' := { s1 with heap := h' }) J m.old hne g' ⟨ec, ex⟩ d' h1' na os ag q)
end L2H
namespace ZT
open PySem PySem.Spec PyProof.Rows L2
/-- kinds of records: with any context, with none -/
structure Kind (Z : Value → Option Addr → Obj → Prop) : Prop where
  zc : ∀ {c d o}, Z c d o → Zc c d o
  land : ∀ {M : Model} {A : Around} {E₁ : Value → Shared → Prop} {env : Env} {outer : List Env} {B : Heap} {L a : Addr} {c : Value} {d : Option Addr} {Q : Unit → Shared → Prop} {s : Shared}, A.frames = some (env :: outer) → env.frame = some L →
    Sky B (env :: outer) a (Z c d) L s.heap → (∀ h', HandSPX.FlyingZ B (env :: outer) a (Z c d) h' → s.heap.UpToSlots h' → Q () { s with heap := h' }) →
      wpAny M A (noteFrame (.ref a) env) (fun _ s₂ => wpAny M A (setFlight (.ref a) none) Q E₁ s₂) E₁ s
theorem kind_n : Kind L2N.Zn := ⟨fun h => h.zc, fun hfr hf x q => L2N.Sky.land L2N.Zn.steady hfr hf x q⟩
/-- the own frame is on top -/
structure Top (X : Cx) : Prop where
  ok : X.Ok
  stk : X.stack = X.env :: X.outer
  frm : X.env.frame = some X.env.locals
theorem Top.frames {X : Cx} (t : Top X) (hd : Option Value) : (X.A.mark hd).frames = some (X.env :: X.outer) := t.stk ▸ t.ok.frames
/-- an error at a: sI is the state without it, B the ground -/
structure Aloft (Z : Value → Option Addr → Obj → Prop) (X : Cx) (B : Heap) (sI : Shared) (pins : List (Addr × Obj)) (σ : L2.St) (H : Hp) (c : Value) (d : Option Addr) (a : Addr) (s : Shared) : Prop where
  inv : Inv X pins σ H sI
  gnd : ∀ b o, sI.heap.get? b = some o → b ∉ frs X.stack → B.get? b = some o
  up : sI.heap.UpToSlots s.heap
  sky : Sky B X.stack a (Z c d) X.env.locals s.heap
  na : H a = none
  os : s.os = sI.os
  ag : AllBare s.gens
section
variable {Z : Value → Option Addr → Obj → Prop} {X : Cx} {B : Heap} {sI s : Shared} {pins : List (Addr × Obj)} {σ : L2.St} {H : Hp} {c : Value} {d : Option Addr} {a : Addr}
theorem Aloft.xe {W : WX} (x : Aloft Zc X B sI pins σ H c d a s) (w : W c d σ H) : L2.XE X W (.ref a) s := ⟨a, B, sI, pins, σ, H, c, d, rfl, x.inv, x.gnd, x.up, x.sky, x.na, x.os, x.ag, w⟩
theorem aloft_of {W : WX} {u : Value} : L2.XE X W u s → ∃ a B sI pins σ H c d, u = .ref a ∧ Aloft Zc X B sI pins σ H c d a s ∧ W c d σ H :=
  fun ⟨a, B, sI, pins, σ, H, c, d, e, k1, k2, k3, k4, k5, k6, k7, w⟩ => ⟨a, B, sI, pins, σ, H, c, d, e, ⟨k1, k2, k3, k4, k5, k6, k7⟩, w⟩
theorem aloft_ofN {W : WX} {u : Value} : L2N.XE X W u s → ∃ a B sI pins σ H c d, u = .ref a ∧ Aloft L2N.Zn X B sI pins σ H c d a s ∧ W c d σ H :=
  fun ⟨a, B, sI, pins, σ, H, c, d, e, k1, k2, k3, k4, k5, k6, k7, w⟩ => ⟨a, B, sI, pins, σ, H, c, d, e, ⟨k1, k2, k3, k4, k5, k6, k7⟩, w⟩
/-- the same, caught: it flies over this frame, noted nowhere -/
structure Got (Z : Value → Option Addr → Obj → Prop) (X : Cx) (B : Heap) (sI : Shared) (pins : List (Addr × Obj)) (σ : L2.St) (H : Hp) (c : Value) (d : Option Addr) (a : Addr) (s : Shared) : Prop where
  top : Top X
  inv : Inv X pins σ H sI
  gnd : ∀ b o, sI.heap.get? b = some o → b ∉ frs X.stack → B.get? b = some o
  up : sI.heap.UpToSlots s.heap
  fl : HandSPX.FlyingZ B (X.env :: X.outer) a (Z c d) s.heap
  na : H a = none
  os : s.os = sI.os
  ag : AllBare s.gens
theorem Got.here (g : Got Z X B sI pins σ H c d a s) : Inv X pins σ H s := g.inv.landed g.gnd g.fl.1 g.up g.os g.ag
/-- its record stands apart from all frames, and from the ground -/
theorem Got.apart (g : Got Z X B sI pins σ H c d a s) : ∃ oe vs, s.heap.get? a = some oe ∧ Z c d oe ∧ oe.data = .fields vs ∧ a ≠ X.env.locals ∧ a ∉ X.fs ∧ X.base.get? a = none := by
  obtain ⟨oe, vs, he, hz, hd⟩ := g.fl.there
  have off : a ∉ frs (X.env :: X.outer) := fun hm => by
    obtain ⟨-, o, e, nf⟩ := g.fl.2.2.1.mem hm
    exact nf vs (Option.some.inj (he.symm.trans e) ▸ hd)
  have nl : a ≠ X.env.locals := fun z => off (List.mem_filterMap.mpr ⟨X.env, List.mem_cons_self, z ▸ g.top.frm⟩)
  have nf : a ∉ X.fs := fun hm => off (by
    obtain ⟨e, he, q⟩ := List.mem_filterMap.mp hm
    exact List.mem_filterMap.mpr ⟨e, List.mem_cons_of_mem _ he, q⟩)
  refine ⟨oe, vs, he, hz, hd, nl, nf, Option.eq_none_iff_forall_not_mem.mpr fun o e => ?_⟩
  have b1 := g.gnd a o (g.inv.bk a o e) (g.top.stk ▸ off)
  exact Option.some_ne_none _ (b1.symm.trans g.fl.2.1)
/-- .. and stays so in a greater heap, or when its flight is told again -/
theorem Got.grow (g : Got Z X B sI pins σ H c d a s) (o : Obj) : Got Z X B sI pins σ H c d a { s with heap := s.heap.push o } := by
  have k : ∀ b u, s.heap.get? b = some u → (s.heap.push o).get? b = some u := fun b u e => Heap.get?_push_of_some _ e
  obtain ⟨f1, f2, f3, oe, vs, T, oT, ts, k1, k2, k3, k4, k5, k6, k7, k8⟩ := g.fl
  exact ⟨g.top, g.inv, g.gnd, g.up.trans (.of_keeps k), ⟨fun b u e => k b u (f1 b u e), f2, f3.of_keeps fun b u e _ => ⟨u, k b u e, rfl⟩, oe, vs, T, oT, ts, k _ _ k1, k2, k3, k4, k5, k6, k _ _ k7, k8⟩, g.na, g.os, g.ag⟩
theorem Got.again {M : Model} {A : Around} {E : Value → Shared → Prop} {Q : Unit → Shared → Prop} (g : Got Z X B sI pins σ H c d a s) (q : ∀ h', Got Z X B sI pins σ H c d a { s with heap := h' } → Q () { s with heap := h' }) :
    wpAny M A (setFlight (.ref a) none) Q E s :=
  HandSPX.lands_againZ g.fl fun h' fl up => q h' ⟨g.top, g.inv, g.gnd, g.up.trans up, fl, g.na, g.os, g.ag⟩
theorem Aloft.land {M : Model} {A : Around} {E : Value → Shared → Prop} {Q : Unit → Shared → Prop} (k : Kind Z) (t : Top X) (x : Aloft Z X B sI pins σ H c d a s) (hfr : A.frames = some (X.env :: X.outer)) (q : ∀ h', Got Z X B sI pins σ H c d a { s with heap := h' } → Q () { s with heap := h' }) :
    wpAny M A (noteFrame (.ref a) X.env) (fun _ s₂ => wpAny M A (setFlight (.ref a) none) Q E s₂) E s :=
  k.land hfr t.frm (t.stk ▸ x.sky) fun h' fl up => q h' ⟨t, x.inv, x.gnd, x.up.trans up, fl, x.na, x.os, x.ag⟩
/-- noted in this frame -/
theorem Aloft.note {M : Model} {A : Around} {E : Value → Shared → Prop} {Q : Unit → Shared → Prop} (t : Top X) (x : Aloft Zc X B sI pins σ H c d a s) (hfr : A.frames = some (X.env :: X.outer))
    (q : ∀ h', HandSPX.HeldZ B (X.env :: X.outer) a (Zc c d) X.env.locals h' → Aloft Zc X B sI pins σ H c d a { s with heap := h' } → Q () { s with heap := h' }) : wpAny M A (noteFrame (.ref a) X.env) Q E s := by
  have on : ∀ h', HandSPX.HeldZ B (X.env :: X.outer) a (Zc c d) X.env.locals h' → s.heap.UpToSlots h' → Q () { s with heap := h' } := fun h' hh up => q h' hh ⟨x.inv, x.gnd, x.up.trans up, .inr (.inr (t.stk ▸ hh)), x.na, x.os, x.ag⟩
  match t.stk ▸ x.sky with
  | .inl ⟨st, n, ff, _, _, g, z, e, e1⟩ => exact HandSPX.look_newZ Zc.steady hfr ff t.frm g st n e e1 z on
  | .inr (.inl fl) => exact HandSPX.looks_onZ Zc.steady hfr t.frm fl on
  | .inr (.inr hh) => exact HandSPX.againZ t.frm hh.2.2.2 (on _ hh (.refl _))
/-- what flies, or is noted, goes on from here -/
theorem Aloft.onward {A : Around} {α : Type} {Q : α → Shared → Prop} {E : Value → Shared → Prop} {what : String} {fl : Value} (t : Top X) (x : Aloft Zc X B sI pins σ H c d a s)
    (st : B.StaysIn s.heap) (n : B.get? a = none) (ff : s.heap.FunFrames B (X.env :: X.outer)) (tr : HandSPX.TracedZ s.heap B a (Zc c d) fl) (q : ∀ s', Aloft Zc X B sI pins σ H c d a s' → E (.ref a) s') :
    wpAny (model X.prog X.w) A (PySem.passOn what (.ref a) X.env : Sem α) Q E s := by
  obtain ⟨oe, vs, T, oT, ts, k1, k2, k3, k4, k5⟩ := id tr
  have go : wpAny (model X.prog X.w) A (setFlight (.ref a) X.env.frame) (fun _ s' => wpAny (model X.prog X.w) A (throw (.ref a) : Sem α) Q E s') E s := by
    rw [t.frm]
    exact HandSPX.setFlight_anyZ st ff tr fun h' y1 y2 y3 y4 => wpAny_throw (q _ ⟨x.inv, x.gnd, x.up.trans y4, t.stk ▸ .inr (.inr ⟨y1, n, y2, y3⟩), x.na, x.os, x.ag⟩)
  refine wpAny_bind (wpAny_field k1 k3 k4 ?_)
  show wpAny _ _ (if (Value.ref T == Value.none) = true then _ else _) _ _ _
  rw [if_neg (by simp)]
  first
    | exact wpAny_bind go
    | exact wpAny_bind (wpAny_pure (wpAny_bind go))
theorem Got.aloft (g : Got Z X B sI pins σ H c d a s) (k : Kind Z) : Aloft Zc X B sI pins σ H c d a s :=
  ⟨g.inv, g.gnd, g.up, .inr (.inl (g.top.stk ▸ L2H.flyingZ_imp (fun _ z => k.zc z) g.fl)), g.na, g.os, g.ag⟩
/-- no clause is left -/
theorem Got.onward {Q : Flow → Shared → Prop} {W : WX} (k : Kind Z) (g : Got Z X B sI pins σ H c d a s) (tk : L2.Takes X W) (w : W c d σ H) : wpAny (model X.prog X.w) X.A (handleBy (.ref a) X.env []) Q X.xe s :=
  wpAny_handleBy_nil ((g.aloft k).onward g.top g.fl.1 g.fl.2.1 g.fl.2.2.1 (L2H.tracedZ_imp (fun _ z => k.zc z) g.fl.2.2.2) fun _ y => tk _ _ (y.xe w))
end
section
variable {X : Cx} {pins : List (Addr × Obj)} {σ : L2.St} {H : Hp} {s : Shared}
/-- h' is h but for the object at L -/
def Off (L : Addr) (h h' : Heap) : Prop := ∀ b, b ≠ L → h'.get? b = h.get? b
theorem Off.cell {L b : Addr} {h h' : Heap} {v : Option Value} (f : Off L h h') (n : b ≠ L) : h.IsCell b v → h'.IsCell b v := fun ⟨o, e, d⟩ => ⟨o, (f b n).trans e, d⟩
theorem Off.un {fs ex : List Addr} {H' : Hp} {L : Addr} {h0 h h' : Heap} (u : Un fs ex H' H h0 h) (f : Off L h h') (n : ∀ b o, h0.get? b = some o → b ≠ L) : Un fs ex H' H h0 h' where
  keep b o e z i j := (f b (n b o e)).trans (u.keep b o e z i j)
  slot b o e z i j := (u.slot b o e z i j).imp fun _ q => (f b (n b o e)).trans q
  free := u.free
  there b o e j := (u.there b o e j).imp fun _ q => (f b (n b o e)).trans q
  tups := u.tups
  frzs := u.frzs
  tbls := u.tbls
theorem Off.hok {P : Program} {w : World} {L : Addr} {h h' : Heap} (k : HOk P w H h) (f : Off L h h') (n : H L = none) : HOk P w H h' := fun b o e =>
  (k b o e).stay (fun x u way q => (f x fun z => way.elim (fun w => by rw [← w, z, n] at e; cases e) fun w => by rw [z, n] at w; cases w).trans q) (fun _ q => q) fun _ _ q => q
/-- n's slot is told to be empty: whatever its name stands for -/
theorem Inv.lose {i : Nat} {n : Str} {m : Str → Option Value} {v : Option Value} {h' : Heap} {t' : Nat} (I : Inv X pins σ H s) (hN : X.N.Nodup) (hi : X.N[i]? = some n)
    (look : ∀ (j : Nat) (y : Str) (v' : V), X.N[j]? = some y → σ[j]? = some (some v') → Vis X.env.scope y → ∃ u, RelV v' u ∧ Look X.env s.heap m y u)
    (tab : h'.Ns X.env.locals (fun x => if x = n then v else m x)) (f : Off X.env.locals s.heap h') : Inv X pins (σ.set i none) H { s with heap := h', toks := t' } where
  ok := I.ok
  os := I.os
  bare := I.bare
  base := f.un I.base fun _ _ e => Nat.ne_of_lt (Nat.lt_of_lt_of_le (Heap.lt_size e) I.ok.above)
  loc := ⟨_, tab, fun j y v' e1 e2 vis => by
    have ji : i ≠ j := fun z => by
      subst z
      rw [List.getElem?_set_self (by simpa using (List.getElem?_eq_some_iff.mp e2).1)] at e2
      cases e2
    obtain ⟨u, r, q⟩ := look j y v' e1 ((List.getElem?_set_ne ji).symm.trans e2) vis
    exact ⟨u, r, q.imp (fun ⟨k, e⟩ => ⟨k, (if_neg fun z : y = n => ji (nodup_ix hN hi (z ▸ e1))).trans e⟩) fun ⟨k, c, e, z⟩ => ⟨k, c, e, f.cell (I.cne y c e) z⟩⟩⟩
  cell y c e := (I.cell y c e).imp fun _ z => f.cell (I.cne y c e) z
  free := I.free
  freeC := I.freeC
  pin p hp := ⟨(f _ (I.pin p hp).2.2.1).trans (I.pin p hp).1, (I.pin p hp).2⟩
  hok := f.hok I.hok I.free
  len := (List.length_set ..).trans I.len
end
end ZT
namespace ZT
open PySem PySem.Spec PyProof.Rows L2
theorem frames_off {L : Addr} {h h' B : Heap} (f : Off L h h') {o' : Obj} (e' : h'.get? L = some o') (nf : ∀ vs, o'.data ≠ .fields vs) : ∀ l : List Env, h.FunFrames B l → h'.FunFrames B l
  | [], _ => trivial
  | _ :: l, ⟨k, ⟨F, o, e, b, q, d⟩, r⟩ => ⟨k, if z : F = L then ⟨F, o', e, b, z ▸ e', nf⟩ else ⟨F, o, e, b, (f F z).trans q, d⟩, frames_off f e' nf l r⟩
/-- the wish with the clause's slot emptied -/
abbrev offO (oi : Option Nat) (W : WX) : WX := match oi with
  | none => W
  | some i => fun cls d σ H => W cls d (σ.set i none) H
/-- the context of a suite, F about what leaves it -/
abbrev sctx (X : Cx) (a : Addr) (pn : List (Addr × Obj)) (F : Value → Shared → Prop) : Cx := { X with A := X.A.mark (some (.ref a)), calm := false, pn := pn, xe := F }
def Named (X : Cx) : Option Str → Option Nat → Prop
  | none, none => True
  | some n, some i => X.N[i]? = some n ∧ X.env.kindOf n = some .local
  | _, _ => False
/-- an error that leaves the suite, as the handler wants it -/
def Leaves (X : Cx) (a : Addr) (pos : Pos) (e : Value) (s : Shared) : Option Str → Prop
  | none => notedBy (model X.prog X.w) (X.A.mark (some (.ref a))) X.env (cameBackBy (model X.prog X.w) X.A X.env X.xe) e s
  | some n => AsSuiteRaised (model X.prog X.w) (X.A.mark (some (.ref a))) X.env n pos (notedBy (model X.prog X.w) (X.A.mark (some (.ref a))) X.env (cameBackBy (model X.prog X.w) X.A X.env X.xe)) e s
section
variable {X : Cx} {pins : List (Addr × Obj)} {σ : L2.St} {H : Hp} {s : Shared} {W : WX}
theorem notClass (ok : X.Ok) : (X.env.scope.kind == .class || (X.env.scope.kind == .module && X.env.locals != X.env.globals)) = false := by rw [ok.kind]; rfl
/-- an error leaves a suite that has a name: noted, the name gone, on -/
theorem leaves_named {i : Nat} {n : Str} {pos : Pos} {a : Addr} {e : Value} (t : Top X) (hN : X.N.Nodup) (hi : X.N[i]? = some n) (hl : X.env.kindOf n = some .local) (tk : L2.Takes X W)
    (hpa : PassesOwnAt (model X.prog X.w) (X.A.mark (some (.ref a))) X.A X.env X.xe) (x : L2.XE X (offO (some i) W) e s) : Leaves X a pos e s (some n) := by
  refine Hold.out ?_
  simp (disch := (
  refine Hold.as ?_
  with_unfolding_all (
  obtain ⟨b, B, sI, pins, σ, H, c, d, rfl, al, w⟩ := aloft_of x
  refine al.note t (t.frames _) fun h3 held al3 => ?_
  obtain ⟨st, nb, ff, tr⟩ := id held
  obtain ⟨m, ⟨oI, es, ep, gI, dI, more⟩, look⟩ := al.inv.loc
  obtain ⟨sl, g3⟩ := al3.up _ _ gI fun vs z => by rw [dI] at z; cases z
  have inL : X.env.locals ∈ (X.env :: X.outer).filterMap (·.frame) := List.mem_filterMap.mpr ⟨X.env, List.mem_cons_self, t.frm⟩
  refine wpAny_nameGoes_keeps hl (m := m) ⟨_, es, ep, g3, dI, more⟩ (notClass t.ok) fun h4 v tab same => ?_
  obtain ⟨o4, es4, ep4, g4, d4, more4⟩ := id tab
  have off : Off X.env.locals h3 h4 := same.2
  have notL : ∀ u o, B.get? u = some o → u ≠ X.env.locals := fun u o q z => Option.some_ne_none _ ((z ▸ q).symm.trans (ff.mem inL).1)
  have record : ∀ {u : Addr} {o : Obj} {vs : Array Value}, h3.get? u = some o → o.data = .fields vs → h4.get? u = some o := fun {u o vs} q dd => (off u fun z => by
    rw [z, g3] at q
    cases q
    rw [dI] at dd
    cases dd).trans q
  -- the state without the error: its table is the one that stands
  have gS : (sI.heap.update X.env.locals fun _ => o4).get? X.env.locals = some o4 := Heap.get?_update_self _ gI (by obtain ⟨_, _, _, _⟩ := o4; cases d4; rfl)
  have oS : Off X.env.locals sI.heap (sI.heap.update X.env.locals fun _ => o4) := fun u z => Heap.get?_update_other _ _ (Ne.symm z)
  have I4 : Inv X pins (σ.set i none) H { sI with heap := sI.heap.update X.env.locals fun _ => o4, toks := sI.toks } := Inv.lose al.inv hN hi look ⟨o4, es4, ep4, gS, d4, more4⟩ oS
  have held4 : HandSPX.HeldZ B (X.env :: X.outer) b (Zc c d) X.env.locals h4 := by
    obtain ⟨oe, vs, T, oT, ts, k1, k2, k3, k4, k5, k6, k7, k8, k9⟩ := tr
    exact ⟨fun u o q => (off u (notL u o q)).trans (st u o q), nb, frames_off off g4 (fun vs z => by rw [d4] at z; cases z) _ ff, oe, vs, T, oT, ts, record k1 k3, k2, k3, k4, k5, k6, record k7 k8, k8, k9⟩
  have al4 : Aloft Zc X B { sI with heap := sI.heap.update X.env.locals fun _ => o4, toks := sI.toks } pins (σ.set i none) H c d b { s with heap := h4, toks := s.toks + 1 } := by
    refine ⟨I4, fun u o q nu => al.gnd u o ((oS u fun z => nu (z ▸ t.stk ▸ inL)).symm.trans q) nu, fun u o q nf => ?_, .inr (.inr (t.stk ▸ held4)), al.na, al.os, al.ag⟩
    by_cases z : u = X.env.locals
    · subst z
      cases gS.symm.trans q
      exact ⟨o4.slots, g4⟩
    · exact (al3.up u o ((oS u z).symm.trans q) nf).imp fun _ y => (off u z).trans y
  obtain ⟨y1, y2, y3, y4⟩ := held4
  exact al4.onward t y1 y2 y3 y4 fun s' y => hpa _ _ (tk _ _ (y.xe w))))) only [↓Hold.on]
end
end ZT
namespace ZT
open PySem PySem.W PySem.Spec PySem.Calls PyProof.Rows
/-- a class of a clause: looked at, then held against the error's -/
theorem arm_looks {M : Model} {K : Frag} {h hh : Heap} {cls c : Value} {r : List Value} {b : Bool} (X : K.In h) (k : ∀ u o, h.get? u = some o → hh.get? u = some o) (e : exmAny K cls (c :: r) = some b) : ∃ b1 d, b = (b1 || d) ∧ exmAny K cls r = some d ∧ Looks M hh (isExcClass c) true ∧ Looks M hh (isSubtype cls c) b1 := by
  obtain ⟨b1, d, x, y, z⟩ := exmAny_cons e
  obtain ⟨p, q⟩ := exm_cls (M := M) X x
  exact ⟨b1, d, z, y, p.keeps k, q.keeps k⟩
theorem exm_tup7 {M : Model} {K : Frag} {c1 c2 c3 c4 c5 c6 c7 cls : Value} {tp e : Addr} {b : Bool} {h : Heap} (X : K.In h) (lt : Looks M h (typeOf (.ref e)) cls) (hp : h.get? tp = some { cls := .type "tuple", data := .seq [c1, c2, c3, c4, c5, c6, c7].toArray }) (hx : exmAny K cls [c1, c2, c3, c4, c5, c6, c7] = some b) : Looks M h (excMatches (.ref e) (.ref tp)) b := by
  refine Hold.out ?_
  simp (disch := (
  refine Hold.as ?_
  with_unfolding_all (
  intro A Q E s k0 q
  obtain ⟨hh, g, d, tk, os⟩ := s
  have k : ∀ u o, h.get? u = some o → hh.get? u = some o := k0
  obtain ⟨b1, d1, rfl, y1, p1, s1⟩ := arm_looks (M := M) (hh := hh) X k hx
  obtain ⟨b2, d2, rfl, y2, p2, s2⟩ := arm_looks (M := M) (hh := hh) X k y1
  obtain ⟨b3, d3, rfl, y3, p3, s3⟩ := arm_looks (M := M) (hh := hh) X k y2
  obtain ⟨b4, d4, rfl, y4, p4, s4⟩ := arm_looks (M := M) (hh := hh) X k y3
  obtain ⟨b5, d5, rfl, y5, p5, s5⟩ := arm_looks (M := M) (hh := hh) X k y4
  obtain ⟨b6, d6, rfl, y6, p6, s6⟩ := arm_looks (M := M) (hh := hh) X k y5
  obtain ⟨b7, d7, rfl, y7, p7, s7⟩ := arm_looks (M := M) (hh := hh) X k y6
  cases y7
  have lt' := lt.keeps k
  have tt : Looks M hh (isInstance (.ref tp) (.type "tuple")) true := ((((Looks.ld hp).andThen .now).andThen (Looks.of_pure isSubtype_tuple_tuple)) : Looks M h _ true).keeps k
  have hp' := k _ _ hp
  unfold excMatches
  refine wpAny_bind (tt.at ?_)
  dsimp only
  rw [if_pos rfl]
  first
    | refine wpAny_bind (wpAny_seqItems hp' rfl ?_)
    | refine wpAny_bind (wpAny_bind (wpAny_seqItems hp' rfl (wpAny_pure ?_)))
  dsimp only [Option.getD_some, Option.getD]
  (repeat (first | simp only [List.forIn_cons, List.forIn_nil, Bool.not_true, Bool.false_eq_true, if_false, if_true] | lk))
  cases b1
  · skip
    (repeat (first | simp only [List.forIn_cons, List.forIn_nil, Bool.not_true, Bool.false_eq_true, if_false, if_true] | lk))
    cases b2
    · skip
      (repeat (first | simp only [List.forIn_cons, List.forIn_nil, Bool.not_true, Bool.false_eq_true, if_false, if_true] | lk))
      cases b3
      · skip
        (repeat (first | simp only [List.forIn_cons, List.forIn_nil, Bool.not_true, Bool.false_eq_true, if_false, if_true] | lk))
        cases b4
        · skip
          (repeat (first | simp only [List.forIn_cons, List.forIn_nil, Bool.not_true, Bool.false_eq_true, if_false, if_true] | lk))
          cases b5
          · skip
            (repeat (first | simp only [List.forIn_cons, List.forIn_nil, Bool.not_true, Bool.false_eq_true, if_false, if_true] | lk))
            cases b6
            · skip
              (repeat (first | simp only [List.forIn_cons, List.forIn_nil, Bool.not_true, Bool.false_eq_true, if_false, if_true] | lk))
              cases b7
              · skip
                (repeat (first | simp only [List.forIn_cons, List.forIn_nil, Bool.not_true, Bool.false_eq_true, if_false, if_true] | lk))
                exact q
              · (repeat (first | simp only [List.forIn_cons, List.forIn_nil, Bool.not_true, Bool.false_eq_true, if_false, if_true] | lk))
                exact q
            · (repeat (first | simp only [List.forIn_cons, List.forIn_nil, Bool.not_true, Bool.false_eq_true, if_false, if_true] | lk))
              exact q
          · (repeat (first | simp only [List.forIn_cons, List.forIn_nil, Bool.not_true, Bool.false_eq_true, if_false, if_true] | lk))
            exact q
        · (repeat (first | simp only [List.forIn_cons, List.forIn_nil, Bool.not_true, Bool.false_eq_true, if_false, if_true] | lk))
          exact q
      · (repeat (first | simp only [List.forIn_cons, List.forIn_nil, Bool.not_true, Bool.false_eq_true, if_false, if_true] | lk))
        exact q
    · (repeat (first | simp only [List.forIn_cons, List.forIn_nil, Bool.not_true, Bool.false_eq_true, if_false, if_true] | lk))
      exact q
  · (repeat (first | simp only [List.forIn_cons, List.forIn_nil, Bool.not_true, Bool.false_eq_true, if_false, if_true] | lk))
    exact q))) only [↓Hold.on]
end ZT
namespace ZT
open PySem PySem.Spec PyProof.Rows L2
/-- the names in a clause's tuple -/
inductive NsL (X : Cx) : List Expr → List Value → Prop
  | nil : NsL X [] []
  | cons {x : Str} {c : Value} {np : Pos} {es : List Expr} {cs : List Value} (hc : Names X x c) (r : NsL X es cs) : NsL X (.Name x np :: es) (c :: cs)
/-- a clause's classes, by what they answer -/
inductive Test (X : Cx) : Expr → (Value → Option Bool) → Prop
  | one {x : Str} {c : Value} {np : Pos} (hc : Names X x c) : Test X (.Name x np) (fun cls => PySem.W.exmOne X.K cls c)
  | tup {es : List Expr} {cs : List Value} {k : Nat} {np : Pos} (h : NsL X es cs) (z : cs.length = 2 ∨ cs.length = 3 ∨ cs.length = 4 ∨ cs.length = 7) : Test X (.Tuple es k np) (fun cls => PySem.W.exmAny X.K cls cs)
section
variable {Z : Value → Option Addr → Obj → Prop} {X : Cx} {B : Heap} {sI s : Shared} {pins : List (Addr × Obj)} {σ : L2.St} {H : Hp} {c : Value} {d : Option Addr} {a : Addr}
/-- the state as a suite's -/
theorem Got.suite (g : Got Z X B sI pins σ H c d a s) : ∃ oe, Z c d oe ∧ (∃ vs, oe.data = .fields vs) ∧ X.base.get? a = none ∧ s.heap.get? a = some oe ∧ ∀ F, Inv (sctx X a ((a, oe) :: (X.pn ++ pins)) F) [] σ H s := by
  obtain ⟨oe, vs, he, hz, hd, nl, nf, nb⟩ := g.apart
  exact ⟨oe, hz, ⟨vs, hd⟩, nb, he, fun F => Inv.unwish (X := sctx X a _ F) (E := fun _ _ => False) (g.here.suite he hd g.na nl nf)⟩
theorem suite_end {F : Value → Shared → Prop} {q : Addr × Obj} {pn' : List (Addr × Obj)} {σ : L2.St} {H : Hp} {s : Shared} (ok : X.Ok) (I : Inv (sctx X a (q :: (X.pn ++ pins)) F) pn' σ H s) : Inv X pins σ H s :=
  have J : Inv (X.suite a (q :: (X.pn ++ pins))) pn' σ H s := I.wish fun _ _ => False
  J.unsuite ok
theorem name_ld {x : Str} {v : Value} {np : Pos} {pn : List (Addr × Obj)} {Q E : Value → Shared → Prop} (I : Inv (X.suite a pn) [] σ H s) (hc : Names X x v) (q : Q v s) : wpAny (model X.prog X.w) (X.A.mark (some (.ref a))) (eval (.Name x np) X.env) Q E s :=
  match hc with
  | ⟨g, dbg, .inl m⟩ => ld_glob (X := X.suite a pn) I g m q dbg
  | ⟨g, dbg, .inr ⟨m, v, nn⟩⟩ => ld_blt (X := X.suite a pn) I g m v q nn dbg
theorem names_ld {es : List Expr} {cs : List Value} {pos : Pos} {pn : List (Addr × Obj)} {E : Value → Shared → Prop} (I : Inv (X.suite a pn) [] σ H s) (hn : NsL X es cs) : ∀ {Q : List Value → Shared → Prop}, Q cs s → wpAny (model X.prog X.w) (X.A.mark (some (.ref a))) (spliced (backTo pos (starEach es X.env))) Q E s := by
  induction hn with
  | nil => exact fun q => wpAny_items_nil q
  | cons hc _ ih => exact fun q => wpAny_items_cons (name_ld I hc (ih q))
theorem Test.run {te : Expr} {ans : Value → Option Bool} {b : Bool} {G : Bool → Shared → Prop} {E1 E2 : Value → Shared → Prop} (t : Test X te ans) (k : Kind Z) (g : Got Z X B sI pins σ H c d a s) (hb : ans c = some b)
    (q : ∀ h', Got Z X B sI pins σ H c d a { s with heap := h' } → G b { s with heap := h' }) :
    wpAny (model X.prog X.w) (X.A.mark (some (.ref a))) (eval te X.env) (fun v s₁ => wpAny (model X.prog X.w) (X.A.mark (some (.ref a))) (excMatches (.ref a) v) G E2 s₁) E1 s := by
  obtain ⟨oe, hz, -, -, he, J⟩ := g.suite
  have I := J fun _ _ => False
  have ty : PySem.W.Looks (model X.prog X.w) s.heap (typeOf (.ref a)) c := (k.zc hz).1 ▸ lk_type he
  cases t with
  | one hc => exact name_ld I hc ((PySem.W.exm_one I.kIn ty hb).here (q _ g))
  | @tup es cs n np hn z =>
    refine wpAny_Tuple (names_ld I hn ⟨by have := sizeLine_eq; omega, ?_⟩)
    have more : ∀ b o, s.heap.get? b = some o → (s.heap.push { cls := .type "tuple", data := .seq cs.toArray }).get? b = some o := fun b o e => Heap.get?_push_of_some _ e
    have at_ := Heap.get?_push_size s.heap (o := { cls := .type "tuple", data := .seq cs.toArray }) rfl
    have fin := q _ (g.grow { cls := .type "tuple", data := .seq cs.toArray })
    match cs, z, hb with
    | [_, _], _, hb => exact (PySem.W.exm_tup2 (I.kIn.keeps more) (ty.keeps more) at_ hb).here fin
    | [_, _, _], _, hb => exact (PySem.W.exm_tup3 (I.kIn.keeps more) (ty.keeps more) at_ hb).here fin
    | [_, _, _, _], _, hb => exact (PySem.W.exm_tup4 (I.kIn.keeps more) (ty.keeps more) at_ hb).here fin
    | [_, _, _, _, _, _, _], _, hb => exact (exm_tup7 (I.kIn.keeps more) (ty.keeps more) at_ hb).here fin
end
/-- how a suite is walked: it lets nothing out, or it may raise -/
inductive Suite (Z : Value → Option Addr → Obj → Prop) (X : Cx) (W : WX) (oi : Option Nat) (body : List Stmt) (ts : Addr → Value → Option Addr → TS) : Prop
  | calm (h : ∀ (a : Addr) (oe : Obj) (cls : Value) (d : Option Addr) (pn : List (Addr × Obj)), Z cls d oe → (∃ vs, oe.data = .fields vs) → X.base.get? a = none → PSs (X.suite a ((a, oe) :: pn)) body (ts a cls d))
  | loud (hpa : ∀ hd : Option Value, PassesOwnAt (model X.prog X.w) (X.A.mark hd) X.A X.env X.xe)
      (h : ∀ (a : Addr) (oe : Obj) (cls : Value) (d : Option Addr) (pn : List (Addr × Obj)), Z cls d oe → (∃ vs, oe.data = .fields vs) → X.base.get? a = none → L2.Takes (sctx X a ((a, oe) :: pn) (L2.XE X (offO oi W))) (offO oi W) →
        PSs (sctx X a ((a, oe) :: pn) (L2.XE X (offO oi W))) body (ts a cls d))
abbrev HL := List ((Value → Option Bool) × Option Nat × (Addr → Value → Option Addr → TS))
inductive Arms (Z : Value → Option Addr → Obj → Prop) (X : Cx) (W : WX) : List ExceptHandler → HL → Prop
  | nil : Arms Z X W [] []
  | cons {te : Expr} {nm : Option Str} {oi : Option Nat} {ans : Value → Option Bool} {ts : Addr → Value → Option Addr → TS} {b₀ : Stmt} {suite : List Stmt} {pos : Pos} {hds : List ExceptHandler} {l : HL} (t : Test X te ans) (n : Named X nm oi) (u : Suite Z X W oi (b₀ :: suite) ts)
      (r : Arms Z X W hds l) : Arms Z X W (.ExceptHandler (some te) nm (b₀ :: suite) pos :: hds) ((ans, oi, ts) :: l)
def endO (D : Ends) : Option Nat → Ends
  | none => D
  | some i => { nx := fun σ' H' => D.nx (σ'.set i none) H', rt := D.rt, bk := fun σ' H' => D.bk (σ'.set i none) H', ct := fun σ' H' => D.ct (σ'.set i none) H' }
def slotO (σ : L2.St) (a : Addr) : Option Nat → L2.St
  | none => σ
  | some i => σ.set i (some (.ref a))
/-- what the clauses wish of an error of the body -/
def wArms (W : WX) (D : Ends) : HL → WX
  | [] => W
  | (ans, oi, ts) :: r => fun cls d σ H => ∃ b, ans cls = some b ∧ (b = true → ∀ a, H a = none → ts a cls d (endO D oi) (slotO σ a oi) H) ∧ (b = false → wArms W D r cls d σ H)
section
variable {Z : Value → Option Addr → Obj → Prop} {X : Cx} {W : WX} {pins : List (Addr × Obj)}
/-- the suite's end is the statement's -/
theorem end_carry {X₁ : Cx} {p₁ : List (Addr × Obj)} {D : Ends} {f : Flow} {s : Shared} (g : ∀ σ H, Inv X₁ p₁ σ H s → Inv X pins σ H s) (h : SP X₁ p₁ D f s) : SP X pins D f s := by
  cases f
  case ret => exact h.imp fun v => Exists.imp fun σ => Exists.imp fun H q => ⟨g σ H q.1, q.2⟩
  all_goals exact Exists.imp (fun σ => Exists.imp fun H q => ⟨g σ H q.1, q.2⟩) h
theorem end_unname {i : Nat} {n : Str} {pos : Pos} {D : Ends} {f : Flow} {s : Shared} {M : Model} {A : Around} {E : Value → Shared → Prop} (hN : X.N.Nodup) (hi : X.N[i]? = some n) (hl : X.env.kindOf n = some .local) (h : SP X pins (endO D (some i)) f s) :
    wpAny M A (do bindName X.env n .none; unbindBehindTheSuite X.env n pos) (fun _ s' => SP X pins D f s') E s := by
  cases f
  case ret => exact let ⟨v, σ, H, I, r, q⟩ := h; gone_ok I hN hi hl fun _ J => ⟨v, _, H, J, r, q⟩
  all_goals exact let ⟨σ, H, I, q⟩ := h; gone_ok I hN hi hl fun _ J => ⟨_, H, J, q⟩
/-- the suite runs behind its clause's test -/
theorem suite_run {B : Heap} {sI s : Shared} {σ : L2.St} {H : Hp} {cls : Value} {d : Option Addr} {a : Addr} {D : Ends} {oi : Option Nat} {nm : Option Str} {body : List Stmt} {ts : Addr → Value → Option Addr → TS} (hN : X.N.Nodup) (g : Got Z X B sI pins σ H cls d a s) (tk : L2.Takes X W)
    (n : Named X nm oi) (u : Suite Z X W oi body ts) (w : ts a cls d (endO D oi) (slotO σ a oi) H) (pos : Pos) (s' : Shared) (oe : Obj) (hz : Z cls d oe) (hd : ∃ vs, oe.data = .fields vs) (nb : X.base.get? a = none)
    (I : ∀ F, Inv (sctx X a ((a, oe) :: (X.pn ++ pins)) F) [] (slotO σ a oi) H s') :
    wpAny (model X.prog X.w) (X.A.mark (some (.ref a))) (execs body X.env) (fun f s₁ => SP X pins (endO D oi) f s₁) (fun e s₁ => Leaves X a pos e s₁ nm) s' := by
  cases u with
  | calm h => exact wpAny_mono ((h a oe cls d (X.pn ++ pins) hz hd nb).run [] s' _ H _ (I _) w) (fun _ _ => end_carry fun _ _ => suite_end g.top.ok) fun _ _ => False.elim
  | loud hpa h =>
    have own : L2.Takes (sctx X a ((a, oe) :: (X.pn ++ pins)) (L2.XE X (offO oi W))) (offO oi W) := fun u s2 x => by
      obtain ⟨b, B2, sI2, p2, σ2, H2, c2, d2, rfl, al, w2⟩ := aloft_of x
      exact Aloft.xe ⟨suite_end g.top.ok al.inv, al.gnd, al.up, al.sky, al.na, al.os, al.ag⟩ w2
    refine wpAny_mono ((h a oe cls d (X.pn ++ pins) hz hd nb own).run [] s' _ H _ (I _) w) (fun _ _ => end_carry fun _ _ => suite_end g.top.ok) fun e s2 x => ?_
    match nm, oi, n with
    | none, none, _ => exact hpa _ e s2 (tk e s2 x)
    | some _, some _, ⟨hi, hl⟩ => exact leaves_named g.top hN hi hl tk (hpa _) x
theorem arms_run {B : Heap} {sI : Shared} {σ : L2.St} {H : Hp} {cls : Value} {d : Option Addr} {a : Addr} {D : Ends} {hds : List ExceptHandler} {l : HL} (k : Kind Z) (hN : X.N.Nodup) (tk : L2.Takes X W) (hh : Arms Z X W hds l) : ∀ {s : Shared}, Got Z X B sI pins σ H cls d a s → wArms W D l cls d σ H →
    wpAny (model X.prog X.w) X.A (handleBy (.ref a) X.env hds) (SP X pins D) X.xe s := by
  induction hh with
  | nil => exact fun g w => g.onward k tk w
  | @cons te nm oi ans ts b₀ suite pos hds l t n u r ih =>
    intro s g ⟨b, hb, yes, no⟩
    refine wpAny_handleBy_cons (codeAny_handlers_test (t.run k g hb fun h1 g1 => ?_)) (fun z => by cases z)
    cases b with
    | false => exact ih g1 (no rfl)
    | true =>
      have w := yes rfl a g.na
      match nm, oi, n, u, w with
      | none, none, n, u, w =>
        refine codeAny_handlers_suite (g1.again fun h2 g2 => ?_)
        obtain ⟨oe, hz, hd, nb, -, I⟩ := g2.suite
        exact suite_run hN g2 tk n u w pos _ oe hz hd nb I
      | some n, some i, hn, u, w =>
        refine codeAny_handlers_suite_as (g1.again fun h2 g2 => ?_)
        obtain ⟨oe, hz, hd, nb, -, I⟩ := g2.suite
        refine store_ok (X := X.suite a ((a, oe) :: (X.pn ++ pins))) (v := .ref a) (I _) hN hn.1 (.inl hn.2) rfl (fun s3 I3 => ?_) (.inr hn.2)
        exact wpAny_mono (suite_run (oi := some i) hN g2 tk hn u w pos s3 oe hz hd nb fun F => Inv.unwish (X := sctx X a _ F) (E := fun _ _ => False) I3) (fun f s4 q => end_unname hN hn.1 hn.2 q) fun _ _ q => q
end
section
variable {Z : Value → Option Addr → Obj → Prop} {X : Cx} {W : WX} {body : List Stmt} {h₀ : ExceptHandler} {hds : List ExceptHandler} {l : HL} {pos : Pos} {tb : WX → TS}
/-- try: body, except ..: .., its clauses of any kind -/
theorem ps_try_arms (k : Kind Z) (hs : X.stack = X.env :: X.outer) (hf : X.env.frame = some X.env.locals) (hN : X.N.Nodup) (tk : L2.Takes X W)
    (hb : ∀ (V : WX) (pn : List (Addr × Obj)) (xe : Value → Shared → Prop), (∀ a B sI pins σ H c d s, Aloft Z (X.tr pn xe) B sI pins σ H c d a s → V c d σ H → xe (.ref a) s) → PassesOwn (model X.prog X.w) X.A X.env xe → PSs (X.tr pn xe) body (tb V))
    (hh : Arms Z X W (h₀ :: hds) l) : PS X (.Try body (h₀ :: hds) [] [] pos) (fun D σ H => tb (wArms W D l) D σ H) where
  run pins s σ H D I := fun h => by
    have t : Top X := ⟨I.ok, hs, hf⟩
    refine wpAny_Try_except (wpAny_mono ((hb (wArms W D l) (X.pn ++ pins) _ (fun a B sI p σ' H' c d s' al w => ?_) PassesOwn.looking).run [] s σ H D (I.toTry _) h) (fun f s1 q => ?_) fun _ _ q => q)
    · exact Aloft.land k t ⟨al.inv.ofTry t.ok, al.gnd, al.up, al.sky, al.na, al.os, al.ag⟩ (t.frames none) fun h' g => arms_run k hN tk hh g w
    · have q' : SP X pins D f s1 := end_carry (fun _ _ J => J.ofTry t.ok) q
      cases f
      case next => exact wpAny_execs_nil q'
      all_goals exact q'
end
end ZT
namespace Z
open PySem PySem.Spec PyProof.Rows L2
end Z
namespace L2H
open PySem PySem.Spec PyProof.Rows L2 HotX
abbrev offW (i : Nat) (W : WX) : WX := ZT.offO (some i) W
/-- the context of a named clause that may raise -/
abbrev suiteE (X : Cx) (W : WX) (a : Addr) (pn : List (Addr × Obj)) : Cx := ZT.sctx X a pn (L2.XE X W)
section
variable {X : Cx} {i : Nat} {n x : Str} {c : Value} {body suite : List Stmt} {b₀ : Stmt} {np pos pos' : Pos} {tb : WX → TS} {ts : Addr → Value → Option Addr → TS} {Wout : WX}
/-- one clause that names its error, and may raise: the error's own context is None, so a raise within is walked -/
theorem ps_try_asX (hs : X.stack = X.env :: X.outer) (hf : X.env.frame = some X.env.locals) (hN : X.N.Nodup) (hi : X.N[i]? = some n) (hln : X.env.kindOf n = some .local) (hc : Names X x c)
    (hpa : ∀ hd : Option Value, PassesOwnAt (model X.prog X.w) (X.A.mark hd) X.A X.env X.xe) (tk : L2.Takes X Wout)
    (hb : ∀ (W : WX) (pn : List (Addr × Obj)) (xe : Value → Shared → Prop), L2N.Takes (X.tr pn xe) W → PassesOwn (model X.prog X.w) X.A X.env xe → PSs (X.tr pn xe) body (tb W))
    (hsu : ∀ (a : Addr) (oe : Obj) (cls : Value) (d : Option Addr) (pn : List (Addr × Obj)), L2N.Zn cls d oe → (∃ vs, oe.data = .fields vs) → L2.Takes (suiteE X (offW i Wout) a ((a, oe) :: pn)) (offW i Wout) → Hot1 (suiteE X (offW i Wout) a ((a, oe) :: pn)).A (a, oe) →
      PSs (suiteE X (offW i Wout) a ((a, oe) :: pn)) (b₀ :: suite) (ts a cls d)) :
    PS X (.Try body [.ExceptHandler (some (.Name x np)) (some n) (b₀ :: suite) pos'] [] [] pos) (fun D σ H => tb (wAs X.K c i ts Wout D) D σ H) :=
  ZT.ps_try_arms (l := [(fun cls => PySem.W.exmOne X.K cls c, some i, ts)]) ZT.kind_n hs hf hN tk (fun W pn xe hx po => hb W pn xe (fun u s' x => by
    obtain ⟨a, B, sI, pins, σ, H, c, d, rfl, al, w⟩ := ZT.aloft_ofN x
    exact hx a B sI pins σ H c d s' al w) po)
    (.cons (oi := some i) (.one hc) ⟨hi, hln⟩ (.loud hpa fun a oe cls d pn hz hd _ tk => hsu a oe cls d pn hz hd tk ⟨rfl, hd.imp fun vs e => ⟨e, hz.2.2 vs e⟩⟩) .nil)
end
end L2H
namespace Z
open PySem PySem.Spec PyProof.Rows L2
section
variable {X : Cx} {C : Addr} {x m : Str} {j : Nat} {p p2 pos : Pos}
/-- the class C called with one value: what it makes has its six fields -/
theorem call_six {B newId initId : String} {tl : List Value} {pins : List (Addr × Obj)} {σ : L2.St} {H : Hp} {s : Shared} {Q : XK} {u : Value} (F : ExcBaseFacts B newId initId tl) (q : PySem.W.excIn X.K C tl newId = true) (r : Raises X (.ref C)) (I : Inv X pins σ H s) (h : Q (.ref C) none H) :
    wpAny (model X.prog X.w) X.A (call (.ref C) [u]) (fun v s' => L2N.MkP X pins σ Q v s' ∧ L2H.Six v s') X.xe s :=
  let ⟨_, _, _, _, _, _, _, _, _, _, _, _, _, _, _, _, _, hC, hN, hni, T⟩ := exc_obj I.kIn q
  wpAny_call_exc_subT F T hC hN hni (fun _ _ made => L2H.mk_of5 I made r h (I.hok.gone made.new)) (show (1 : Nat) ≤ sizeLine from sizeLine_eq ▸ by omega)
theorem pmk_e05 (G : Exc0 X.K X.mg x C) (hg : Gl X x) (hdb : (x == ("__debug__" : Str)) = false := by decide) : L2H.PMk5 X (.Call (.Name x p) [.Constant (.str m) j p2] [] pos) (fun _ H Q => Q (.ref C) none H) := fun pins s σ H Q I h =>
  let ⟨_, _, _, _, F, q⟩ := G.ex
  wpAny_Call_Name_kw (ld_glob I hg G.mg (PySem.W.callWith_K (h₀ := X.base) I.ok.mod.kin G.kp (thn ((pa_cons (pe_str (x := m)) pa_nil).run pos pins s σ H (fun vs H1 => vs = [V.str m] ∧ H1 = H) I ⟨rfl, rfl⟩) fun us s1 told => by
    obtain ⟨_, _, J, told, rfl, rfl⟩ := told
    match us, told with
    | [_], .cons _ .nil => exact ⟨J.kIn, call_six F q (raises_own G.r1 G.r2) J h⟩)) hdb)
end
section
variable {K : PySem.W.Frag} {τ : T} {μ : M} {Φ : D → M → Prop} {N : AEnds} {ta tb : TE}
theorem slots_unset {H : Hp} {τ2 : T} {σ2 : L2.St} (i : Nat) (s2 : Slots K H τ2 σ2) : Slots K H (τ2.set i none) (σ2.set i none) := by
  refine ⟨by rw [List.length_set, List.length_set]; exact s2.1, fun j d e => ?_⟩
  by_cases hj : i = j
  · subst hj
    by_cases hi : i < τ2.length
    · rw [List.getElem?_set_self hi] at e; cases e
    · rw [List.getElem?_eq_none (by rw [List.length_set]; omega)] at e; cases e
  · rw [List.getElem?_set_ne hj] at e ⊢
    exact s2.2 j d e
/-- try .. except X as n, where the clause may raise -/
theorem s_tryAsX (cn : Str → Option Value) {tb : WX → TS} {tu : Addr → Value → Option Addr → TS} {c : Value} {i : Nat} (hit : Str → Bool) (hm : ∀ x cls, cn x = some cls → PySem.W.exmOne K cls c = some (hit x))
    (hb : ∀ W, AS K (tb W) τ μ { N with W := W, cn := cn, xs := fun x dx τ' μ' => (hit x = true ∧ ∀ a cls, cn x = some cls → AS K (tu a cls dx) (τ'.set i (some (.ref a))) μ'
      { nx := fun τ2 μ2 => N.nx (τ2.set i none) μ2, rt := N.rt, bk := fun τ2 μ2 => N.bk (τ2.set i none) μ2, ct := fun τ2 μ2 => N.ct (τ2.set i none) μ2, W := L2H.offW i N.W, cn := N.cn, xs := fun x dx τ2 μ2 => N.xs x dx (τ2.set i none) μ2 }) ∨ (hit x = false ∧ N.cn x = cn x ∧ N.xs x dx τ' μ') }) :
    AS K (fun D σ H => tb (wAs K c i tu N.W D) D σ H) τ μ N := fun σ H s cc E k => by
  refine hb (wAs K c i tu N.W E) σ H s cc E ⟨k.nx, k.rt, k.bk, k.ct, fun x dx τ' μ' cls σ' H' ec f c' s' q => ?_⟩
  refine ⟨hit x, hm x cls ec, fun hx a na => ?_, fun hx => ?_⟩
  · rcases q with ⟨_, q⟩ | ⟨z, _⟩
    · exact q a cls ec (σ'.set i (some (.ref a))) H' (s'.set (.ref a) i) c' _ ⟨fun τ2 μ2 σ2 H2 f2 c2 s2 p => k.nx _ μ2 _ H2 (f.trans f2) c2 (slots_unset i s2) p, fun d μ2 v H2 f2 c2 r p => k.rt d μ2 v H2 (f.trans f2) c2 r p,
        fun τ2 μ2 σ2 H2 f2 c2 s2 p => k.bk _ μ2 _ H2 (f.trans f2) c2 (slots_unset i s2) p, fun τ2 μ2 σ2 H2 f2 c2 s2 p => k.ct _ μ2 _ H2 (f.trans f2) c2 (slots_unset i s2) p,
        fun x2 dx2 τ2 μ2 cls2 σ2 H2 e2 f2 c2 s2 p => k.wx x2 dx2 (τ2.set i none) μ2 cls2 (σ2.set i none) H2 e2 (f.trans f2) c2 (slots_unset i s2) p⟩
    · rw [hx] at z; cases z
  · rcases q with ⟨z, _⟩ | ⟨_, q⟩
    · rw [hx] at z; cases z
    · exact k.wx x dx τ' μ' cls σ' H' (q.1.trans ec) f c' s' q.2
/-- raise X('..') from n -/
theorem s_raiseE0 {C a : Addr} {cls1 : Value} {x : Str} {i : Nat} (rK : L2H.RaisesK K cls1) (hi : τ[i]? = some (some (.ref a))) (hc : N.cn x = some (.ref C)) (h : N.xs x none τ μ) :
    AS K (fun _ σ H => L2H.RaisesK K cls1 ∧ σ[i]? = some (some (.ref a)) ∧ (fun (_ : L2.St) (H : Hp) (Q : XK) => Q (.ref C) none H) σ H fun cls d H' => N.W cls d σ H') τ μ N := fun σ H s c E k => by
  refine ⟨rK, ?_, k.wx x none τ μ (.ref C) σ H hc Fr.refl c s h⟩
  obtain ⟨v, e, r⟩ := s.2 i (.ref a) hi
  cases r
  exact e
end
end Z
namespace Z
open PySem PySem.Spec PyProof.Rows L2
/-- x(.., k = v ..): n places, the names ks; gK π puts them, and the defaults mz, in the parameters' order -/
structure DefN (P : Program) (w : World) (K : PySem.W.Frag) (mg : Str → Option Value) (base : Heap) (x : Str) (ps : List Str) (n : Nat) (ks : List Str) (π : List (Bool × Nat)) (mz : List V) (k : Nat) (sp : Sp) : Prop where
  ex : ∃ f fd g, FnOk P w K mg base (L2.CX P w) k f fd ps sp ∧ mg x = some (.ref f) ∧ PySem.W.keepIn K (.ref f) = true ∧ KBn K fd ps n ks g (fun vs zs => gK π vs mz zs)
section
variable {X : Cx} {x : Str} {ps ks : List Str} {n k : Nat} {π : List (Bool × Nat)} {mz : List V} {sp : Sp} {p pos : Pos} {e : Expr} {es : List Expr} {kws : List Keyword} {t tk : TA}
theorem pe_defK (G : DefN X.prog X.w X.K X.mg X.base x ps n ks π mz k sp) (hr : Room k X.A) (hg : Gl X x) (ha : PA X (e :: es) t) (hkw : PK X kws tk)
    (hall : (backToKw pos (keywordEach kws X.env)).all (·.1.isSome) = true := by rfl) (hks : (backToKw pos (keywordEach kws X.env)).filterMap (·.1) = ks := by rfl) (hdb : (x == ("__debug__" : Str)) = false := by decide)
    (he : starEach (e :: es) X.env = (false, eval e X.env) :: starEach es X.env := by rfl) (hpl : ((backTo pos (starEach (e :: es) X.env)).any (·.1) || (backToKw pos (keywordEach kws X.env)).any (·.1.isNone)) = false := by rfl) :
    PE X (.Call (.Name x p) (e :: es) kws pos) (tCallN n ks.length sp (fun vs zs => gK π vs mz zs) E0 t tk) := by
  obtain ⟨f, fd, g, F, hm, hk, hb⟩ := G.ex
  exact pe_callN F hr hg hm hk hb passL ha hkw hall hks hdb he hpl
end
end Z
namespace Z
open PySem PySem.Spec PyProof.Rows L2
section
variable {K : PySem.W.Frag} {μ : M} {Φ : D → M → Prop} {a : Addr} {cls : Value} {d : Option Addr}
theorem clsV_refs {H : Hp} : ∀ {Cs : List Addr} {vs : List V}, Rels K H vs (Cs.map Z.D.ref) → Paired ClsV vs (Cs.map Value.ref)
  | [], [], .nil => .nil
  | C :: Cs, v :: vs, .cons r rr => by
    cases r
    exact .cons (.own C) (clsV_refs rr)
end
end Z
namespace Z
open PySem
theorem kit_cls {K : PySem.W.Frag} {S C : Addr} {b : Bool} (h2 : PySem.W.isClsIn K C = true) (h3 : PySem.W.typeIn K (.ref C) = some (.type "type")) (h4 : PySem.W.subIn K (.ref S) (.ref C) = some b) : PySem.W.kitCls K (.ref S) (.ref C) = some b := by
  have e2 : ((PySem.W.clsIn K C).isSome && PySem.W.typeIn K (.ref C) == some (.type "type")) = true := by
    have h5 : (PySem.W.clsIn K C).isSome = true := h2
    rw [h5, h3] <;> rfl
  show (if ((PySem.W.clsIn K C).isSome && PySem.W.typeIn K (.ref C) == some (.type "type")) = true then PySem.W.subIn K (.ref S) (.ref C) else none) = some b
  rw [if_pos e2]
  exact h4
theorem kit_own {K : PySem.W.Frag} {S C : Addr} {b : Bool} (hs : PySem.W.subIn K (.ref S) (.ref S) = some true) (h2 : PySem.W.isClsIn K C = true) (h3 : PySem.W.typeIn K (.ref C) = some (.type "type")) (h4 : PySem.W.subIn K (.ref S) (.ref C) = some b) : PySem.W.kitOne K (.ref S) (.ref C) = some b := by
  unfold PySem.W.kitOne
  split
  · rename_i e
    have : S = C := Value.ref.inj (beq_iff_eq.mp e)
    subst this
    rw [hs] at h4
    exact h4
  · exact kit_cls h2 h3 h4
theorem kit_bt {K : PySem.W.Frag} {S : Addr} {n : String} {b : Bool} (hm : PySem.W.kitMeta n = true) (h4 : PySem.W.subIn K (.ref S) (.type n) = some b) : PySem.W.kitOne K (.ref S) (.type n) = some b := by
  unfold PySem.W.kitOne
  rw [if_neg (by simp)]
  show (if PySem.W.kitMeta n = true then PySem.W.subIn K (.ref S) (.type n) else none) = some b
  rw [if_pos hm]
  exact h4
end Z
namespace LK
open PySem PySem.Spec PyProof.Rows L2 LamX NdefX PySem.W
end LK
namespace LK
open PySem PySem.Spec PyProof.Rows L2 LamX NdefX PySem.W
section
variable {X : Cx}
/-- the frame's own objects lie below -/
theorem low {pins : List (Addr × Obj)} {σ : L2.St} {H : Hp} {s : Shared} (I : Inv X pins σ H s) {b : Addr} (h : s.heap.objs.size ≤ b) :
    (b ∈ X.ex ∨ X.s_0.heap.objs.size ≤ b) ∧ b ≠ X.env.locals ∧ (∀ x c, X.env.cells.lookup x = some c → c ≠ b) ∧ ∀ p ∈ X.pn ++ pins, p.1 ≠ b := by
  refine ⟨.inr (Nat.le_trans I.sz h), Nat.ne_of_gt (Nat.lt_of_lt_of_le I.lt h), fun x c e => ?_, fun p hp => ?_⟩
  · obtain ⟨v, o, ho, _⟩ := I.cell x c e
    exact Nat.ne_of_lt (Nat.lt_of_lt_of_le (Heap.lt_size ho) h)
  · exact Nat.ne_of_lt (Nat.lt_of_lt_of_le (Heap.lt_size (I.pin p hp).1) h)
end
end LK
namespace LK
open PySem PySem.Spec PyProof.Rows L2 LamX NdefX PySem.W
structure FunT (K : PySem.W.Frag) (x qual : Str) (st : Stmt) (c f : Addr) (fd : FuncData) : Prop where
  ex : ∃ (oc : Value) (od : Option Addr) (kV doc pm : Value) (an : Option Addr) (ct : Value) (osl : Array (Option Value)),
    fd = PySem.W.fnOf x qual (defArgs st) (defBody st) (defScope st) .none kV doc pm an (.ref c) ct ∧ K.lookup f = some ⟨oc, od, .func fd, osl⟩ ∧ PySem.W.codeIn K (.ref c) qual = true
  kp : PySem.W.keepIn K (.ref f) = true
section
variable {P : Program} {w : World} {K : PySem.W.Frag} {mg : Str → Option Value} {base : Heap} {x qual : Str} {st : Stmt} {c f : Addr} {fd : FuncData}
theorem FunT.ok {CX : CXT} {N ps : List Str} {k : Nat} {sp : Sp} (F : FunT K x qual st c f fd) (S : FnScope N ps (defScope st)) (len : ∀ vs H Q E, sp vs H Q E → vs.length = ps.length)
    (hbody : ∀ (A : Around) (outer : List Env) (s : Shared) (H : Hp) (vs : List V) (Q : VK) (E : XK), Room k (A.deeper (envOfC qual (defScope st) s.heap.objs.size f (.ref c))) → sp vs H Q E →
      ∃ t, PSs (cxOf CX P w K mg base N qual (defScope st) f (.ref c) A outer s H E) (defBody st) t ∧ t { nx := fun _ H' => Q .non H', rt := Q } (start N vs) H) : FnOk P w K mg base CX (k + 1) f fd ps sp := by
  obtain ⟨oc, od, kV, doc, pm, an, ct, osl, rfl, lk, hcd⟩ := F.ex
  exact fn_of lk hcd S len hbody
theorem FunT.fn (F : FunT K x qual st c f fd) : Fun K x qual st f fd := by
  obtain ⟨oc, od, kV, doc, pm, an, ct, osl, e, lk, hcd⟩ := F.ex
  exact ⟨⟨oc, od, kV, doc, pm, an, .ref c, ct, osl, e, lk, hcd⟩, F.kp⟩
end
end LK
namespace Z
open PySem L2 LK PySem.W
end Z
namespace EK
open PySem PySem.Spec PyProof.Rows L2
end EK
namespace Z
open PySem L2 EK
end Z
namespace OD
open PySem PySem.Spec PyProof.Rows L2 PySem.W
end OD
namespace Z
open PySem L2 OD PySem.W
abbrev t3 (a b c : Int) : D := .tup [.int a, .int b, .int c]
/-- p stands ahead of q -/
def lt3 (p q : Int × Int × Int) : Bool := decide (p.1 < q.1) || (decide (p.1 = q.1) && (decide (p.2.1 < q.2.1) || (decide (p.2.1 = q.2.1) && decide (p.2.2 < q.2.2))))
end Z
namespace Z
open PySem PySem.Spec PyProof.Rows L2 LK LamX
end Z
namespace Z
open PySem L2
section
variable {K : PySem.W.Frag} {τ : T} {μ μ1 μ2 : M} {Φ : D → M → Prop} {te : TE} {tt tt1 : TT} {wi wi1 : TI} {g g1 : TG}
theorem a_methI {P : PT3} {E : XK} {C : Addr} {m : Str} {ta : TA} (h : AE K te τ μ fun o μ1 => ∃ a dx fs, o = .ref a ∧ μ1 a = some (.ins C dx fs) ∧ fs.lookup m = none ∧ AA K ta τ μ1 fun ds μ2 => P (o :: ds) μ2 Φ) :
    AE K (tMeth C m (spI K P) [] E te ta) τ μ Φ := fun σ H s c Q k =>
  h σ H s c _ fun o μ1 v H1 f1 c1 r1 ⟨a, dx, fs, e, ha, hm, p1⟩ => by
    subst e
    cases r1
    obtain ⟨vs, hv, hr⟩ := c1 a _ ha
    refine ⟨a, dx, vs, rfl, hv, look_none hr hm, p1 σ H1 (s.mono (f1.tx c)) c1 _ fun ds μ2 us H2 f2 c2 r2 p => ?_⟩
    rw [List.append_nil]
    exact ⟨.ref a :: ds, μ2, Φ, .cons (.ref a) r2, c2, p, fun d μ' v H' f c' r q => k d μ' v H' ((f1.trans f2).trans f) c' r q⟩
theorem a_lcp {js : List Nat} {dec : D → List D → Prop} (hg : TgOk K g js dec) (f : D → D) (p : D → Bool)
    (h : AI K wi τ μ fun xs μw back => xs.length < sizeLine ∧ (∀ x ∈ xs, ∃ ds, dec x ds ∧ ds.length = js.length ∧ AT K tt (sets τ js ds) μw (fun b μ2 => b = p x ∧ μ2 = μw) ∧ (p x = true → AE K te (sets τ js ds) μw fun y μ2 => y = f x ∧ μ2 = μw)) ∧
      ∀ q, back μw q = none → Φ (.ref q) ((back μw).set q (.lst ((xs.filter p).map f)))) : AE K (tLc wi g tt te js) τ μ Φ :=
  a_lc hg (fun σ H s c R k => h σ H s c R fun J xs out G H1 μw back tx c1 W g1 o1 B ⟨hz, ht, he⟩ => k J xs out G H1 μw back tx c1 W g1 o1 B (by
    refine ⟨fun i acc μ' => μ' = μw ∧ acc = ((xs.take i).filter p).map f, ⟨rfl, rfl⟩, ?_, ?_⟩
    · rintro i x acc μ' hx ⟨rfl, rfl⟩
      obtain ⟨ds, hd, hl, h1, h2⟩ := ht x (List.mem_of_getElem? hx)
      refine ⟨ds, hd, hl, h1.imp fun b μ2 ⟨e1, e2⟩ => ?_⟩
      subst e2
      dsimp only
      rw [filt_step (f := f) hx]
      cases b with
      | true =>
        rw [if_pos rfl]
        refine (h2 e1.symm).imp fun y μ' ⟨e3, e4⟩ => ?_
        subst e4
        refine ⟨?_, rfl, ?_⟩
        · rw [List.length_map]
          have l1 := List.length_filter_le p (xs.take i)
          have l2 : (xs.take i).length ≤ xs.length := by rw [List.length_take]; omega
          omega
        · rw [if_pos e1.symm, List.map_append, e3]
          rfl
      | false =>
        rw [if_neg Bool.false_ne_true]
        refine ⟨rfl, ?_⟩
        rw [if_neg (by rw [← e1]; exact Bool.false_ne_true), List.append_nil]
    · rintro acc μ' ⟨rfl, rfl⟩ a ha
      rw [List.take_length]
      exact he a ha))
theorem s_forK {N : AEnds} {tl : TE} {tb : TS} (h : AE K tl τ μ fun d μ1 => ∃ (a : Addr) (ds : List D) (P : Nat → T → M → Prop), d = .ref a ∧ P 0 τ μ1 ∧ (∀ i τ' μ', P i τ' μ' → μ' a = some (.lst ds)) ∧
      (∀ (i : Nat) x τ' μ', ds[i]? = some x → P i τ' μ' → AG K g x τ' μ' fun τ2 μ2 => AS K tb τ2 μ2 (turnE N (P (i + 1)))) ∧ ∀ τ' μ', P ds.length τ' μ' → N.nx τ' μ') : AS K (tFor (iList K tl) g tb) τ μ N := fun σ H s c E k => by
  refine h σ H s c _ fun d μ1 v H1 f1 c1 r1 ⟨a, ds, P, e, p0, hk, hs, hd⟩ => ?_
  subst e
  cases r1
  have seq : ∀ {i : Nat} {τ' : T} {μ' : M} {H' : Hp}, Z.Con K H' μ' → P i τ' μ' → ∃ vs, H' a = some (.lst vs) ∧ Rels K H' vs ds := fun c' p => c' a _ (hk _ _ _ p)
  obtain ⟨vs0, hv0, _⟩ := seq c1 p0
  refine ⟨a, rfl, ⟨vs0, SqL.of hv0⟩, ?_⟩
  refine ⟨fun i m σ' H' => m = ds.length - i ∧ i ≤ ds.length ∧ ∃ τ' μ', Fr μ μ' H H' ∧ Z.Con K H' μ' ∧ Slots K H' τ' σ' ∧ P i τ' μ', ⟨ds.length, by omega, Nat.zero_le _, τ, μ1, f1, c1, s.mono (f1.tx c), p0⟩, ?_⟩
  rintro i m σ' H' ⟨rfl, hi, τ', μ', f, c', s', p⟩
  obtain ⟨vs, hv, hr⟩ := seq c' p
  by_cases hlt : i < ds.length
  · have hlv : i < vs.length := by rw [hr.length]; exact hlt
    refine .inr ⟨⟨vs, vs[i], SqL.of hv, List.getElem?_eq_getElem hlv⟩, fun σ2 H2 => ∃ τ2 μ2, Fr μ μ2 H H2 ∧ Z.Con K H2 μ2 ∧ Slots K H2 τ2 σ2 ∧ P (i + 1) τ2 μ2, fun σ2 H2 ⟨τ2, μ2, f2, c2, s2, p2⟩ => ⟨ds.length - (i + 1), by omega, rfl, hlt, τ2, μ2, f2, c2, s2, p2⟩, fun v H2 y => ?_⟩
    obtain ⟨e, q⟩ := y
    subst e
    obtain ⟨x, hx, rx⟩ := hr.getV (q vs (SqL.of hv))
    refine hs i x τ' μ' hx p σ' _ v s' c' rx _ fun τ3 μ3 σ3 H3 f3 c3 s3 q3 => ?_
    exact q3 σ3 H3 s3 c3 _ (turn_ok (k.step f) f3 fun τ4 μ4 σ4 H4 f4 c4 s4 p4 => ⟨τ4, μ4, f.trans f4, c4, s4, p4⟩)
  · have e : i = ds.length := by omega
    subst e
    exact .inl ⟨⟨vs, SqL.of hv, by rw [hr.length]; exact Nat.le_refl _⟩, k.nx τ' μ' σ' H' f c' s' (hd τ' μ' p)⟩
end
end Z
namespace L2
namespace DCT
open PySem PySem.Spec PyProof.Rows
section
variable {Y : Cx} {tg : Expr} {ifs : List Expr} {J : It} {fp : List Addr} {it : Addr} {tn : Nat → Heap → Prop} {τ : St} {i : Nat} {G : Hp} {z : Shared}
/-- a block between two turns: the source stands at place i, and none of its objects is tracked -/
structure Rest (Y : Cx) (fp : List Addr) (tn : Nat → Heap → Prop) (τ : St) (i : Nat) (G : Hp) (z : Shared) : Prop where
  inv : Inv Y [] τ G z
  src : tn i z.heap
  hid : ∀ b ∈ fp, G b = none
/-- a block of a source's own objects, nothing pinned in it, nothing let out -/
structure Plain (Y : Cx) (fp : List Addr) : Prop where
  ex : Y.ex = fp
  pn : Y.pn = []
  xe : Y.xe = fun _ _ => False
  calm : Y.calm = true
theorem hidden {σ : St} (y : Plain Y fp) (I : Inv Y [] σ G z) (h : ∀ b ∈ fp, G b = none) : ∀ b ∈ fp, FpOk Y [] G b := by
  intro b hb
  have mine : b ∈ Y.ex := y.ex.symm ▸ hb
  have apart := I.ok.exf b mine
  exact ⟨h b hb, apart.1, I.ok.exfs b mine, .inl mine, apart.2, by rw [y.pn]; exact fun _ no => nomatch no⟩
/-- what a turn leaves is at rest again, one place on -/
theorem again {σ : St} {vs : List Nat} {h0 : Heap} (T : Turn Y.prog Y.w Y.K tg J fp it tn) (t : tn i h0) (w : wipe σ vs = τ) (I : Inv Y ([] ++ pinsAt fp h0) σ G z) : Rest Y fp tn τ i G z := by
  have same : ∀ b ∈ fp, ∀ o, h0.get? b = some o → z.heap.get? b = some o ∧ G b = none := by
    intro b hb o e
    have pin := I.pin (b, o) (by simp [mem_pinsAt hb e])
    exact ⟨pin.1, pin.2.1⟩
  subst w
  refine ⟨Inv.weak (Inv.unpinned I) (wipe_length σ vs) fun j v e => (wipe_some e).1, T.keep i h0 z.heap t fun b hb o e => (same b hb o e).1, ?_⟩
  intro b hb
  obtain ⟨o, e, _⟩ := T.obj i h0 t b hb
  exact (same b hb o e).2
/-- one turn, up to what the tests say -/
theorem turn {g : TG} {tt : TT} {vs : List Nat} {Φ : Bool → St → Hp → Prop} {W : Bool → Shared → Prop} {N : Shared → Prop} {E : Value → Shared → Prop} (y : Plain Y fp) (T : Turn Y.prog Y.w Y.K tg J fp it tn) (pg : PG Y tg g) (pt : PTs Y ifs tt)
    (R : Rest Y fp tn τ i G z) (go : J.go i G) (step : ∀ x G', J.yld i G x G' → g x τ G' fun σ2 G2 => wipe σ2 vs = τ ∧ tt σ2 G2 fun b G3 => Φ b σ2 G3)
    (rest : ∀ b pl σ2 G3 z3, Inv Y pl σ2 G3 z3 → Φ b σ2 G3 → (∀ G4 z4, Inv Y pl σ2 G4 z4 → Rest Y fp tn τ (i + 1) G4 z4) → W b z3) :
    wpAny (model Y.prog Y.w) Y.A (pyNext (.ref it)) (fun r s1 => match r with
      | none => N s1
      | some v => wpAny (model Y.prog Y.w) Y.A (letOwnedTupleGo tg (.ref it) v) (fun _ s2 => wpAny (model Y.prog Y.w) Y.A (assign tg Y.env v) (fun _ s3 =>
          wpAny (model Y.prog Y.w) Y.A (forIn ifs true fun c r => if r = true then do let ok ← isTrue c Y.env (eval c Y.env); pure (ForInStep.yield ok) else pure (ForInStep.yield r)) W E s3) E s2) E s1) E z := by
  have none_out : ∀ {α : Type} {m : Sem α} {A B : α → Shared → Prop} {s}, wpAny (model Y.prog Y.w) Y.A m A Y.xe s → (∀ a s, A a s → B a s) → wpAny (model Y.prog Y.w) Y.A m B E s := by
    intro α m A B s h k
    rw [y.xe] at h
    exact thnF h k
  apply thnF (T.item Y rfl rfl rfl y.calm i [] z τ G (fun _ _ => False) R.inv (hidden y R.inv R.hid) R.src go)
  rintro _ s1 ⟨u, rfl, more⟩
  apply thnF more
  rintro _ s2 ⟨x, G2, I2, ru, yld, src, hid⟩
  have P2 := I2.pinned (hidden y I2 hid) fun b hb => T.obj (i + 1) s2.heap src b hb
  apply none_out (pg.run _ s2 τ G2 x u _ P2 ru (step x G2 yld))
  rintro _ s3 ⟨σ3, G3, I3, w3, h3⟩
  apply none_out (pt.run _ s3 σ3 G3 _ I3 h3)
  rintro b s4 ⟨G4, I4, h4⟩
  exact rest b _ σ3 G4 s4 I4 h4 fun G5 z5 I5 => again T src w3 I5
end
end DCT
end L2
namespace Z
open PySem L2 PySem.W L2.DCT
end Z
namespace Z
open PySem L2 PySem.W
end Z
namespace Z
open PySem PySem.Spec PyProof.Rows L2
structure MthN (P : Program) (w : World) (K : PySem.W.Frag) (mg : Str → Option Value) (base : Heap) (C : Addr) (m : Str) (ps : List Str) (n : Nat) (ks : List Str) (π : List (Bool × Nat)) (mz : List V) (k : Nat) (sp : Sp) : Prop where
  ex : ∃ f fd g, FnOk P w K mg base (L2.CX P w) k f fd ps sp ∧ Cls K C ∧ Meth K C m f ∧ KBn K fd ps (n + 1) ks g (fun vs zs => gK π vs mz zs)
section
variable {X : Cx} {CX : CXT} {k n : Nat} {f C : Addr} {fd : FuncData} {ps ks : List Str} {sp : Sp} {E : XK} {x m : Str} {p pos apos : Pos} {e o : Expr} {es : List Expr} {kws : List Keyword} {t tk : TA} {to : TE} {g : List Value → List Value → List Value} {gV : List V → List V → List V} {W : WX} {π : List (Bool × Nat)} {mz : List V}
/-- what a call by a kept promise leaves: its answer, or what is raised -/
theorem come_back {pins : List (Addr × Obj)} {σ : L2.St} {H : Hp} {s : Shared} {R : VK} (out : PassesAt CX X σ E) (I : L2.Inv X pins σ H s) : ∀ {r : Result} {z : Shared}, CR CX X.stack X.prog X.w H s R E r z →
    match r with
    | .ok (.ret u) => ∃ v H', L2.Inv X pins σ H' z ∧ L2.RelV v u ∧ R v H'
    | .ok _ => False
    | .error e => X.xe e z
  | .ok (.ret _), _, q => I.after q
  | .ok .next, _, q | .ok .brk, _, q | .ok .cont, _, q => q
  | .error e, z, q => out pins H s e z I q
/-- the places, then the names, then the call itself: f is kept by the table -/
theorem kw_call {fA : Addr} {own : List Value} {s : Shared} {σ : L2.St} {H : Hp} {pins : List (Addr × Obj)} {Q : VK} {e : Expr} {es : List Expr} {kws : List Keyword} {t tk : TA} {pos : Pos} {G : List V → List V → Hp → Prop} (I : L2.Inv X pins σ H s) (kp : PySem.W.keepIn X.K (.ref fA) = true) (ha : PA X (e :: es) t) (hkw : PK X kws tk)
    (hall : (backToKw pos (keywordEach kws X.env)).all (·.1.isSome) = true) (hks : (backToKw pos (keywordEach kws X.env)).filterMap (·.1) = ks) (he : starEach (e :: es) X.env = (false, eval e X.env) :: starEach es X.env) (hpl : ((backTo pos (starEach (e :: es) X.env)).any (·.1) || (backToKw pos (keywordEach kws X.env)).any (·.1.isNone)) = false)
    (h : t σ H fun vs H1 => tk σ H1 fun zs H2 => G vs zs H2) (go : ∀ us ws vs zs H2 s2, L2.Inv X pins σ H2 s2 → Vals vs us → Vals zs ws → G vs zs H2 → wpAny (model X.prog X.w) X.A (call (.ref fA) (own ++ us) (ks.zip ws)) (EP X pins σ Q) X.xe s2) :
    wpAny (model X.prog X.w) X.A (callWith pos (.ref fA) own (backTo pos (starEach (e :: es) X.env)) (backToKw pos (keywordEach kws X.env))) (EP X pins σ Q) X.xe s :=
  PySem.W.callWith_KW (h₀ := X.base) I.ok.mod.kin kp hall (thn (ha.run pos pins s σ H _ I h) fun us s1 ⟨vs, H1, I1, r, q⟩ => thn (hkw.run pos pins s1 σ H1 _ I1 q) fun ws s2 ⟨zs, H2, I2, rz, q2⟩ => ⟨I2.kIn, hks ▸ go us ws vs zs H2 s2 I2 r rz q2⟩) hpl he
/-- C(..) where its __init__ may raise -/
def tMakeKS (C : Addr) (n m : Nat) (sp : Sp) (gV : List V → List V → List V) (E : L2.St → XK) (t tk : TA) : TE := fun σ H Q => t σ H fun vs H1 => tk σ H1 fun zs H2 => vs.length = n ∧ zs.length = m ∧ ∀ x dx, H2 x = none → H2 dx = none → dx ≠ x →
  sp (gV (.ref x :: vs) zs) (upd (upd H2 dx (.own x)) x (.ins C dx [])) (fun v H3 => v = .non ∧ Q (.ref x) H3) (E σ)
theorem run_makeKS {pins : List (Addr × Obj)} {σ : L2.St} {H : Hp} {s : Shared} {Q : VK} {us ws : List Value} {vs zs : List V} (M : Mk X.K C f) (F : FnOk X.prog X.w X.K X.mg X.base CX k f fd ps sp) (hr : Room (k + 1) X.A) (hb : KBn X.K fd ps (n + 1) ks g gV) (out : PassesAt CX X σ E)
    (I : L2.Inv X pins σ H s) (r : Vals vs us) (rz : Vals zs ws) (l1 : vs.length = n) (l2 : zs.length = ks.length)
    (h : ∀ x dx, H x = none → H dx = none → dx ≠ x → sp (gV (.ref x :: vs) zs) (upd (upd H dx (.own x)) x (.ins C dx [])) (fun v H2 => v = .non ∧ Q (.ref x) H2) E) :
    wpAny (model X.prog X.w) X.A (call (.ref C) us (ks.zip ws)) (EP X pins σ Q) X.xe s := by
  have below : ∀ {a : Addr}, s.heap.objs.size ≤ a → H a = none := I.hok.fresh
  have J := Inv.made (C := C) I
  have self : Vals (V.ref (s.heap.objs.size + 1) :: vs) (Value.ref (s.heap.objs.size + 1) :: us) := .cons rfl r
  have bound := hb.to _ (Value.ref (s.heap.objs.size + 1) :: us) ws J.kIn (by rw [← self.length, List.length_cons, l1]) (by rw [← rz.length, l2])
  have ran := F.run _ X.stack _ _ ⟨Value.ref (s.heap.objs.size + 1) :: us, ks.zip ws⟩ _ _ _ E (hr.make C us (ks.zip ws)) (J.env0.make C us (ks.zip ws)) bound (hb.rel self rz) (h _ _ (below (Nat.le_succ _)) (below (Nat.le_refl _)) (Nat.ne_of_lt (Nat.lt_succ_self _)))
  apply wpAny_call
  apply make_map (f := f) I.kIn M.makes M.init (beq_iff_eq.mp M.fn)
  apply codeAny_mono ran
  intro res z q
  have back := come_back out J q
  match res, back with
  | .error _, raised => exact raised
  | .ok (.ret _), ⟨_, G, JG, ru, rfl, done⟩ => exact ⟨ru, V.ref (s.heap.objs.size + 1), G, JG, rfl, done⟩
theorem pe_mkKX (tkk : Takes X W) (G : MkK X.prog X.w X.K X.mg X.base x C ps n ks π mz k sp) (hr : Room (k + 1) X.A) (hg : Gl X x) (ha : PA X (e :: es) t) (hkw : PK X kws tk)
    (hall : (backToKw pos (keywordEach kws X.env)).all (·.1.isSome) = true := by rfl) (hks : (backToKw pos (keywordEach kws X.env)).filterMap (·.1) = ks := by rfl) (hdb : (x == ("__debug__" : Str)) = false := by decide)
    (he : starEach (e :: es) X.env = (false, eval e X.env) :: starEach es X.env := by rfl) (hpl : ((backTo pos (starEach (e :: es) X.env)).any (·.1) || (backToKw pos (keywordEach kws X.env)).any (·.1.isNone)) = false := by rfl) :
    PE X (.Call (.Name x p) (e :: es) kws pos) (tMakeKS C n ks.length sp (fun vs zs => gK π vs mz zs) (WE W) t tk) := by
  obtain ⟨f, fd, g, M, F, hm, hb⟩ := G.ex
  exact ⟨fun pins s σ H Q I h => wpAny_Call_Name_kw (ld_glob I hg hm (kw_call (own := []) I M.kp ha hkw hall hks he hpl h fun _ _ _ _ _ _ J r rz ⟨l1, l2, q⟩ => run_makeKS (E := WE W σ) M F hr hb (passAt tkk σ) J r rz l1 l2 q) hdb)⟩
end
section
variable {K : PySem.W.Frag} {τ : T} {μ μ1 μ2 : M} {Φ : D → M → Prop} {te : TE} {N : AEnds} {P : PT4} {n m : Nat} {π : List (Bool × Nat)} {mz : List V} {t tk : TA} {cn : Str → Option Value}
theorem x_mkK {C : Addr} (mD : List D) (hmz : ∀ H, Rels K H mz mD)
    (h : AA K t τ μ fun ds μ1 => AA K tk τ μ1 fun es μ2 => ds.length = n ∧ es.length = m ∧ ∀ x dx, μ2 x = none → P (gK π (.ref x :: ds) mD es) (μ2.set x (.ins C dx [])) (fun v μ3 => v = .non ∧ Φ (.ref x) μ3) fun x dx μ' => N.xs x dx τ μ') :
    AEX K (tMakeKS C n m (spX K N.cn P) (fun vs zs => gK π vs mz zs) (WE N.W) t tk) τ μ N Φ := fun σ H s c Q k kx =>
  h σ H s c _ fun ds μ1 vs H1 f1 c1 r1 p1 => p1 σ H1 (s.mono (f1.tx c)) c1 _ fun es μ2 zs H2 f2 c2 r2 ⟨l1, l2, p2⟩ => by
    refine ⟨by rw [r1.length]; exact l1, by rw [r2.length]; exact l2, fun x dx hx hdx ne => ?_⟩
    have c3 : Z.Con K (upd H2 dx (.own x)) μ2 := con_new hdx c2
    have hx3 : upd H2 dx (.own x) x = none := by rw [upd_ne (Ne.symm ne)]; exact hx
    have c4 : Z.Con K (upd (upd H2 dx (.own x)) x (.ins C dx [])) (μ2.set x (.ins C dx [])) := con_put (m := .ins C dx []) hx3 c3 ⟨[], upd_same, .nil⟩
    have f4 : Fr μ2 (μ2.set x (.ins C dx [])) H2 (upd (upd H2 dx (.own x)) x (.ins C dx [])) := (fr_new hdx).trans (fr_put hx3)
    have r1' := (Rels.mono ((f2.trans f4).tx c1) _ _ r1)
    have r2' := (Rels.mono (f4.tx c2) _ _ r2)
    refine ⟨gK π (.ref x :: ds) mD es, _, _, _, rels_gK π (.cons (.ref x) r1') (hmz _) r2', c4, p2 x dx (c2.free hx), fun d μ' v H' f c' r ⟨ed, q⟩ => ?_, fun y dy μ' cls H' e f c' q => kx y dy μ' cls H' e (((f1.trans f2).trans f4).trans f) c' q⟩
    subst ed
    cases r
    exact ⟨rfl, k _ μ' _ H' (((f1.trans f2).trans f4).trans f) c' (.ref x) q⟩
end
end Z
namespace L2M
open PySem PySem.Spec PyProof.Rows L2
abbrev HL := List (Value × Option Nat × (Addr → Value → Option Addr → TS))
end L2M
namespace Z
open PySem L2 L2M
structure HZ where
  c : Value
  oi : Option Nat
  tu : Addr → Value → Option Addr → TS
  hit : Str → Bool
def HZ.t (h : HZ) : Value × Option Nat × (Addr → Value → Option Addr → TS) := (h.c, h.oi, h.tu)
end Z
namespace PySem.W
open PySem PySem.Spec PySem.Calls PyProof.Rows
section
variable {prog : Program} {w : World} {A : Around} {E : Value → Shared → Prop} {s : Shared} {K : Frag} {x D : Addr} {ox : Obj} {od : Option Obj}
/-- __class__ is found at object's descriptor, whatever fields x has of its own -/
theorem class_at (dict_ : hasDictIn K D = true) (ha : findIn K (.ref D) "__class__" = some (some (.builtin "object.__class__"))) (hn : specialIn K (.builtin "object.__class__") "__get__" = some (some (.builtin "getset_descriptor.__get__"))) (htk : takesIn K (.builtin "object.__class__") = some true) :
    findObj K D od "__class__" = some (.bind (.builtin "getset_descriptor.__get__") (.builtin "object.__class__")) := by
  obtain ⟨cd, known, _⟩ := any_some dict_
  unfold findObj
  simp [known, ha, hn, htk]
/-- object.__getattribute__(x, "__class__") -/
theorem slot_class {tk : Tok} {Q : Fin → Shared → Prop} (hm : mroIn K D (.type "object") = some true) (hf : findObj K D od "__class__" = some (.bind (.builtin "getset_descriptor.__get__") (.builtin "object.__class__"))) (X : K.In s.heap) (I : InstAt s.heap x ox D od) (q : Q (.done (.ret (.ref D))) s) :
    wpAny (model prog w) A (Builtin.«object.__getattribute__» ⟨[.ref x, .str "__class__" tk], []⟩) Q E s := by
  have cls := I.type (M := model prog w)
  have found := looks_find (M := model prog w) X I hf
  unfold Builtin.«object.__getattribute__»
  apply wpAny_bind
  apply wpAny_of_eq (a := ((Value.ref x : Value), [Value.str "__class__" tk])) (by first | rfl | (simp only [slotArgs]; rfl))
  apply wpAny_bind
  apply wpAny_pure
  apply wpAny_bind
  apply cls.at
  apply wpAny_bind
  apply found.at
  show wpAny _ _ (holding [Value.builtin "object.__class__"] (call (.builtin "getset_descriptor.__get__") [.builtin "object.__class__", .ref x, .ref D]) >>= ret) _ _ _
  apply wpAny_bind
  apply wpAny_holding
  apply wpAny_call
  apply class_get (ox := ox) (od := od) X I hm
  exact wpAny_pure q
theorem kin_classO {Q : Option Value → Shared → Prop} (hga : findIn K (.ref D) "__getattribute__" = some (some (.builtin "BaseException.__getattribute__"))) (hgt : findIn K (.ref D) "__getattr__" = some none) (hsub : subIn K (.ref D) (.type "BaseException") = some true)
    (hdct : hasDictIn K D = true) (ha : findIn K (.ref D) "__class__" = some (some (.builtin "object.__class__")))
    (hn : specialIn K (.builtin "object.__class__") "__get__" = some (some (.builtin "getset_descriptor.__get__"))) (htk : takesIn K (.builtin "object.__class__") = some true) (hm : mroIn K D (.type "object") = some true)
    (X : K.In s.heap) (I : InstAt s.heap x ox D od) (h : Q (some (.ref D)) { s with toks := s.toks + 1 }) : wpAny (model prog w) A (getAttr? (.ref x) "__class__") Q E s := by
  refine Hold.out ?_
  simp (disch := (
  refine Hold.as ?_
  with_unfolding_all (
  rcases s with ⟨hp, g, d, t, os⟩
  have cls := I.type (M := model prog w)
  have ga := PySem.F.excAttr_ValueError.ga
  have isExc : Looks (model prog w) hp (isInstance (.ref x) (.type "BaseException")) true := cls.andThen (looks_subIn X hsub)
  have others : (Value.builtin "BaseException.__getattribute__" == Value.builtin "object.__getattribute__") = false := by decide +kernel
  have onHeap : onTheHeap (Value.ref D) = true := rfl
  unfold getAttr? getAttrBy? getAttrBy
  apply wpAny_bind
  apply wpAny_mkText
  apply wpAny_bind
  apply wpAny_attempt
  apply wpAny_holding
  apply wpAny_bind
  apply cls.at
  apply wpAny_bind
  apply (looks_findIn X hga).at
  dsimp only
  rw [others, Bool.and_false, if_neg Bool.false_ne_true]
  unfold getAttrByItsOwn hookBefore
  apply wpAny_bind
  rw [if_pos onHeap]
  apply (looks_findIn X hgt).at
  apply wpAny_bind
  apply wpAny_attempt
  apply wpAny_holding
  unfold callGetattribute
  rw [show (false && onTheHeap (Value.builtin "BaseException.__getattribute__")) = false from rfl, if_neg Bool.false_ne_true]
  unfold boundAndCalled
  rw [ga.bind (.ref x)]
  apply wpAny_bind
  apply wpAny_pure
  show wpAny _ _ (call (.builtin "BaseException.__getattribute__") [.ref x, .str "__class__" t]) _ _ _
  apply wpAny_call
  apply codeAny_call_builtin ga.plain PySem.F.entry_bexc_ga
  apply @check_slot (model prog w) _ _ ⟨hp, g, d, t + 1, os⟩ "BaseException.__getattribute__" "BaseException" "__getattribute__" (.ref x) [.str "__class__" t] [] _ (by decide +kernel) (by decide +kernel) isExc (PySem.F.args_bexc_ga (.ref x) (.str "__class__" t))
  apply slot_class hm (class_at hdct ha hn htk) (s := ⟨hp, g, d, t + 1, os⟩) X I
  show wpAny _ _ (handedOut (.ref D)) _ _ _
  rw [handedOut_of (v := .ref D) rfl]
  first
    | exact wpAny_pure (wpAny_pure h)
    | exact wpAny_pure h))) only [↓Hold.on]
/-- the class of the text at D stands in each heap of the kit -/
theorem class_there {h : Heap} (dict_ : hasDictIn K D = true) (X : K.In h) : ∃ c d cd sl, h.get? D = some ⟨c, d, .cls cd, sl⟩ := by
  obtain ⟨_, known, _⟩ := any_some dict_
  unfold clsIn at known
  split at known
  · exact ⟨_, _, _, _, X _ _ ‹_›⟩
  · cases known
theorem kitx_excO (hga : findIn K (.ref D) "__getattribute__" = some (some (.builtin "BaseException.__getattribute__"))) (hgt : findIn K (.ref D) "__getattr__" = some none) (hsub : subIn K (.ref D) (.type "BaseException") = some true) (hdct : hasDictIn K D = true) (ha : findIn K (.ref D) "__class__" = some (some (.builtin "object.__class__")))
    (hn : specialIn K (.builtin "object.__class__") "__get__" = some (some (.builtin "getset_descriptor.__get__"))) (htk : takesIn K (.builtin "object.__class__") = some true) (hm : mroIn K D (.type "object") = some true) :
    KitX K (.ref x) (.ref D) (fun h => InstAt h x ox D od) where
  ty := fun _ _ _ I => I.type
  it := by
    intro M h X _ A' Q' E' z kept q
    obtain ⟨_, _, _, _, at_⟩ := class_there hdct X
    unfold isType loadHead
    apply wpAny_bind
    apply wpAny_loadPart (kept _ _ at_)
    exact wpAny_pure q
  ne := by
    intro h tp dd its n sl X tuple
    obtain ⟨_, _, _, _, at_⟩ := class_there hdct X
    rw [beq_eq_false_iff_ne]
    intro same
    obtain rfl := Value.ref.inj same
    cases at_.symm.trans tuple
  ca := fun X I q => kin_classO hga hgt hsub hdct ha hn htk hm X I q
end
end PySem.W
namespace Z
open PySem PySem.Spec PyProof.Rows L2
/-- .. with or without fields -/
def rIsY (K : PySem.W.Frag) (cls : Value) (d : Option Addr) (a : Addr) : List V → Hp → VK → Prop := fun xs H Q => ∃ (c : V) (D : Addr) (b : Bool), xs = [.ref a, c] ∧ cls = .ref D ∧ (d = none ∨ ∃ dd fs, d = some dd ∧ H dd = some (.xd fs)) ∧ ExcC K D ∧
  ((∃ u, ClsV c u ∧ PySem.W.kitOne K (.ref D) u = some b) ∨ (∃ (tp : Addr) (cs : List V) (us : List Value), c = .ref tp ∧ H tp = some (.tup cs) ∧ Paired ClsV cs us ∧ PySem.W.kitAny K (.ref D) us = some b)) ∧ Q (.bl b) H
/-- its record and its field's home, as an instance -/
theorem inst_ofY {P : Program} {w : World} {H : Hp} {h : Heap} {a D : Addr} {d : Option Addr} {oe : Obj} (g : h.get? a = some oe) (hz : Zc (.ref D) d oe) (hf : ∃ vs, oe.data = .fields vs) (k : HOk P w H h) (hd : d = none ∨ ∃ dd fs, d = some dd ∧ H dd = some (.xd fs)) : ∃ od, PySem.W.InstAt h a oe D od :=
by
  rcases oe with ⟨_, _, _, _⟩
  rcases hz with ⟨rfl, rfl⟩
  rcases hf with ⟨_, rfl⟩
  rcases hd with no | ⟨dd, fs, at_, ed⟩
  · exact ⟨none, g, rfl, rfl, by rw [no]; trivial⟩
  · obtain ⟨_, ⟨o, _, _, e, -⟩, -⟩ := (show ObjOk P w H h dd (.xd fs) from k dd _ ed)
    exact ⟨some o, g, rfl, rfl, by rw [at_]; exact e⟩
/-- isinstance of an error that is pinned -/
theorem call_isP {X : Cx} {K : PySem.W.Frag} {a : Addr} {cls : Value} {d : Option Addr} {oe : Obj} (hK : X.K = K) (hp : (a, oe) ∈ X.pn) (hz : Zc cls d oe) (hf : ∃ vs, oe.data = .fields vs) : CallR X (.builtin "isinstance") (rIsY K cls d a) := by
  subst hK
  intro pins s σ H xs us Q I r ⟨c, D, b, told, ec, hd, C, hc, q⟩
  subst told ec
  have done : ∀ tk, EP X pins σ Q (.bool b) { s with toks := tk } := fun tk => ⟨.bl b, H, I.kept (t' := tk) fun _ _ z => z, rfl, q⟩
  have kinds := fun od => PySem.W.kitx_excO (K := X.K) (x := a) (ox := oe) (od := od) C.hg C.hk C.hs C.hd C.ha C.hn C.ht C.hm
  obtain ⟨od, J⟩ := inst_ofY (I.pin (a, oe) (List.mem_append_left _ hp)).1 hz hf I.hok hd
  match us, r with
  | [_, u2], .cons rfl (.cons r2 .nil) =>
    match c, hc, r2 with
    | c, .inl ⟨u, cv, e⟩, r2 => exact cv.eq r2 ▸ PySem.W.kia_one (kinds od) I.kIn J e (fun z => nomatch z) done
    | _, .inr ⟨tp, cs, ws, rfl, ht, cv, e⟩, rfl =>
      obtain ⟨_, its, rv, ⟨oc, od', dt, sl⟩, h1, h2, n, h3⟩ := (show ObjOk X.prog X.w H s.heap tp (.tup cs) from I.hok tp _ ht)
      obtain rfl := ClsV.all cv rv
      cases h2
      cases h3
      exact PySem.W.kia_tup (kinds od) I.kIn J h1 e (fun z => nomatch z) done
section
variable {K : PySem.W.Frag} {μ : M} {Φ : D → M → Prop} {a : Addr} {cls : Value} {d : Option Addr}
def Xdk (μ : M) (d : Option Addr) : Prop := d = none ∨ ∃ dd fs, d = some dd ∧ μ dd = some (.xd fs)
theorem xdk_h {H : Hp} (c : Z.Con K H μ) (h : Xdk μ d) : d = none ∨ ∃ dd fs, d = some dd ∧ H dd = some (.xd fs) := by
  rcases h with h | ⟨dd, fs, h, e⟩
  · exact .inl h
  · obtain ⟨vs, hv, _⟩ := c _ _ e
    exact .inr ⟨dd, vs, h, hv⟩
theorem rc_isY1 {D C : Addr} {b : Bool} (ec : cls = .ref D) (ed : Xdk μ d) (E : ExcC K D) (h : PySem.W.kitOne K (.ref D) (.ref C) = some b) (q : Φ (.bl b) μ) : RC K (rIsY K cls d a) [.ref a, .ref C] μ Φ := fun H xs c r Q k => by
  cases r with
  | cons r1 rr =>
    cases rr with
    | cons r2 rr =>
      cases rr
      cases r1
      cases r2
      exact ⟨_, D, b, rfl, ec, xdk_h c ed, E, .inl ⟨_, .own C, h⟩, k (.bl b) μ _ H Fr.refl c (.bl b) q⟩
theorem rc_isYb {D : Addr} {n : String} {b : Bool} (ec : cls = .ref D) (ed : Xdk μ d) (E : ExcC K D) (h : PySem.W.kitOne K (.ref D) (.type n) = some b) (q : Φ (.bl b) μ) : RC K (rIsY K cls d a) [.ref a, .ty n] μ Φ := fun H xs c r Q k => by
  cases r with
  | cons r1 rr =>
    cases rr with
    | cons r2 rr =>
      cases rr
      cases r1
      cases r2
      exact ⟨_, D, b, rfl, ec, xdk_h c ed, E, .inl ⟨_, .ty n, h⟩, k (.bl b) μ _ H Fr.refl c (.bl b) q⟩
theorem rc_isYt {D : Addr} (Cs : List Addr) {b : Bool} (ec : cls = .ref D) (ed : Xdk μ d) (E : ExcC K D) (h : PySem.W.kitAny K (.ref D) (Cs.map .ref) = some b) (q : Φ (.bl b) μ) : RC K (rIsY K cls d a) [.ref a, .tup (Cs.map Z.D.ref)] μ Φ := fun H xs c r Q k => by
  cases r with
  | cons r1 rr =>
    cases rr with
    | cons r2 rr =>
      cases rr
      cases r1
      cases r2 with
      | tup ht rs =>
        obtain ⟨ht⟩ := ht
        exact ⟨_, D, b, rfl, ec, xdk_h c ed, E, .inr ⟨_, _, _, rfl, ht, clsV_refs rs, h⟩, k (.bl b) μ _ H Fr.refl c (.bl b) q⟩
end
end Z
namespace Z
open PySem PySem.Spec PyProof.Rows L2
def rMulSB : R2 := fun x y H Q => ∃ (a : Str) (n : Int), x = .str a ∧ y = .int n ∧ (n = 0 ∨ n = 1) ∧ Q (.str (if n = 1 then a else Str.empty)) H
theorem op_mul_sb {X : Cx} : OpR X (binaryOp .Mult) rMulSB := by
  intro pins s σ H x y v u Q I rx ry h
  obtain ⟨a, n, rfl, rfl, hn, q⟩ := h
  obtain ⟨t, rfl⟩ := rx
  obtain ⟨t', rfl⟩ := ry
  rcases hn with rfl | rfl
  · rw [if_neg (by decide)] at q
    exact PySem.P.mul_str_none (by decide) (by decide) ⟨.str Str.empty, H, I.tok _, ⟨_, rfl⟩, q⟩
  · rw [if_pos rfl] at q
    refine PySem.P.mul_str (by decide) (fun _ h => ?_) (fun _ h => ?_) ?_
    · simp at h
    · simp at h
    · rw [if_neg (by decide), if_pos (by rfl)]
      exact ⟨.str a, H, I, ⟨_, rfl⟩, q⟩
section
variable {K : PySem.W.Frag} {τ : T} {μ μ1 μ2 : M} {Φ : D → M → Prop} {te : TE}
theorem ro_mul_sb {s : Str} {n : Int} (hn : n = 0 ∨ n = 1) (q : Φ (.str (if n = 1 then s else Str.empty)) μ) : RO K rMulSB (.str s) (.int n) μ Φ := fun H x y c r1 r2 Q k => by
  cases r1; cases r2
  exact ⟨s, n, rfl, rfl, hn, k _ μ _ H Fr.refl c (.str _) q⟩
theorem rc_strI {i : Int} (hi : i.natAbs.log2 < 1920) (q : Φ (.str (Str.ofString (toString i))) μ) : RC K (fun xs H Q => ∃ i : Int, xs = [V.int i] ∧ i.natAbs.log2 < 1920 ∧ Q (.str (Str.ofString (toString i))) H) [.int i] μ Φ := fun H xs c r Q k => by
  cases r with
  | cons a b => cases a; cases b; exact ⟨i, rfl, hi, k _ μ _ H Fr.refl c (.str _) q⟩
end
end Z
namespace Z
open PySem L2 L2M
end Z
namespace Z
open PySem L2
theorem a_cref {K : PySem.W.Frag} {τ : T} {μ : M} {Φ : D → M → Prop} {a : Addr} (h : Φ (.ref a) μ) : AE K (tC (.ref a)) τ μ Φ := fun σ H s c Q k => k (.ref a) μ _ H Fr.refl c (.ref a) h
theorem ro_neS {K : PySem.W.Frag} {μ : M} {Φ : D → M → Prop} {i j : Str} (q : Φ (.bl (!decide (i = j))) μ) : RO K rNe (.str i) (.str j) μ Φ := fun H x y c r1 r2 Q k => by
  cases r1; cases r2
  refine ⟨rfl, ?_⟩
  have e : decide (V.str i = V.str j) = decide (i = j) := by simp
  rw [e]
  exact k _ μ _ H Fr.refl c (.bl _) q
end Z
namespace RVT
open PySem PySem.Spec PyProof.Rows L2 HT
def tRevT (K : PySem.W.Frag) (te : TE) : TE := fun σ H Q => te σ H fun x H1 => ∃ a xs, x = .ref a ∧ SqT K H1 a xs ∧ ∀ p, H1 p = none → Q (.ref p) (upd H1 p (.tup xs.reverse))
end RVT
namespace Z
open PySem L2
theorem a_revT {K : PySem.W.Frag} {τ : T} {μ : M} {te : TE} {Φ : D → M → Prop} (h : AE K te τ μ fun d μ1 => ∃ ds, d = .tup ds ∧ Φ (.tup ds.reverse) μ1) : AE K (RVT.tRevT K te) τ μ Φ := fun σ H s c Q k =>
  h σ H s c _ fun d μ1 v H1 f1 c1 r1 ⟨ds, e, q⟩ => by
    subst e
    cases r1 with
    | @tup a xs _ ht hr => exact ⟨a, xs, rfl, ht.sq, fun p hp => k _ _ _ _ (f1.trans (fr_new hp)) (con_new hp c1) (.tup (.inl upd_same) (Rels.mono (tx_new hp) _ _ hr.reverse)) q⟩
end Z
namespace SDT
open PySem PySem.Spec PyProof.Rows L2 PySem.W
end SDT
namespace Z
open PySem L2 SDT PySem.W
end Z
namespace STI
open PySem PySem.Spec PyProof.Rows L2 PySem.W SDT
end STI
namespace Z
open PySem L2 STI PySem.W
end Z
namespace Z
open PySem L2 PySem.W
end Z
namespace Z
open PySem L2 SD PySem.W
end Z
namespace Z
open PySem L2 PySem.W
end Z
namespace RZ3
open PySem PySem.Spec PyProof.Rows L2 RZ
/-- the six objects of such a zip are there, and none is a cell -/
theorem six {h : Heap} {z TI TO i1 i2 i3 a b c : Addr} {i : Nat} (rec : IsZip h z TI TO .none) (ins : PySem.IsTupOf3 h TI (.ref i1) (.ref i2) (.ref i3)) (out : ∃ x y u, PySem.IsTupOf3 h TO x y u) (s1 : h.IsTupleIter i1 a i) (s2 : h.IsTupleIter i2 b i) (s3 : h.IsTupleIter i3 c i) :
    ∀ d ∈ [z, TI, TO, i1, i2, i3], ∃ o, h.get? d = some o ∧ ∀ v, o.data ≠ .cell v := by
  have src : ∀ {j l : Addr}, h.IsTupleIter j l i → ∃ o, h.get? j = some o ∧ ∀ v, o.data ≠ .cell v := fun ⟨o, e, _, data⟩ => ⟨o, e, fun v q => nomatch data.symm.trans q⟩
  obtain ⟨x, y, u, out⟩ := out
  intro d hd
  simp only [List.mem_cons, List.not_mem_nil, or_false] at hd
  rcases hd with rfl | rfl | rfl | rfl | rfl | rfl
  · exact ⟨_, rec, nofun⟩
  · exact ⟨_, ins, nofun⟩
  · exact ⟨_, out, nofun⟩
  · exact src s1
  · exact src s2
  · exact src s3
end RZ3
namespace Z
open PySem L2 PySem.W RZ3
end Z
namespace Z
open PySem L2 PySem.W
def isN : D → Bool
  | .non => true
  | _ => false
theorem isN_rel {K : PySem.W.Frag} {H : Hp} {x : V} {d : D} (r : Rel K H x d) : decide (x = V.non) = isN d := by
  cases r <;> simp [isN]
theorem ro_isN {K : PySem.W.Frag} {μ : M} {Φ : D → M → Prop} {d : D} (q : Φ (.bl (isN d)) μ) : RO K (fun x y H Q => y = V.non ∧ Q (V.bl (decide (x = V.non))) H) d .non μ Φ := fun H x y c r1 r2 Q k => by
  cases r2
  rw [isN_rel r1]
  exact ⟨rfl, k _ μ _ H Fr.refl c (.bl _) q⟩
theorem ro_notN {K : PySem.W.Frag} {μ : M} {Φ : D → M → Prop} {d : D} (q : Φ (.bl (!isN d)) μ) : RO K (fun x y H Q => y = V.non ∧ Q (V.bl (!decide (x = V.non))) H) d .non μ Φ := fun H x y c r1 r2 Q k => by
  cases r2
  rw [isN_rel r1]
  exact ⟨rfl, k _ μ _ H Fr.refl c (.bl _) q⟩
end Z
namespace EN
open PySem PySem.Spec PyProof.Rows L2
end EN
namespace Z
open PySem L2 EK EN
end Z
namespace Z
open PySem L2 OD PySem.W
end Z
namespace Z
open PySem L2 PySem.W
end Z
namespace ITT
open PySem PySem.Spec PyProof.Rows L2 PySem.W
end ITT
namespace Z
open PySem L2 ITT PySem.W
end Z
namespace OD2
open PySem PySem.Spec PyProof.Rows L2 PySem.W
end OD2
namespace Z
open PySem L2 OD2 PySem.W
end Z
namespace L2T
open PySem PySem.Spec PyProof.Rows L2 L2M
abbrev HL := List (List Value × Option Nat × (Addr → Value → Option Addr → TS))
end L2T
namespace Z
open PySem L2 L2M L2T
structure HT where
  cs : List Value
  oi : Option Nat
  tu : Addr → Value → Option Addr → TS
  hit : Str → Bool
def HT.t (h : HT) : List Value × Option Nat × (Addr → Value → Option Addr → TS) := (h.cs, h.oi, h.tu)
end Z
namespace XO
open PySem PySem.Spec PySem.W PySem.Calls PyProof.Rows PySem.HandSPX L2
end XO
namespace Z
open PySem L2 PyProof.Rows
end Z
namespace SIT
open PySem PySem.Spec PyProof.Rows L2 PySem.W SD SDT
/-- values as they were collected, and the data that they tell -/
structure Row (X : Cx) (H : Hp) (us : List Value) (bs : List (V × PyData)) : Prop where
  vals : Vals (bs.map (·.1)) us
  tell : ∀ b ∈ bs, Dp X.K H b.1 b.2 ∧ b.2.depth ≤ 8
  alike : AllAlike (bs.map (·.2))
  can : Sortable (bs.map (·.2))
  few : bs.length ≤ sizeLine
end SIT
namespace Z
open PySem L2 SIT PySem.W
end Z
namespace CNT
open PySem PySem.Spec PyProof.Rows L2 PySem.W PySem.SeqAt
end CNT
namespace Z
open PySem L2 CNT PySem.W
end Z
namespace Z
open PySem L2 CNT SIT PySem.W PySem.Spec PyProof.Rows
section
variable {X : Cx} {K : PySem.W.Frag} {e o a : Expr} {te to ta : TE} {p p2 q apos cpos pos : Pos}
theorem cr_setOfTK {P : Program} {w : World} (h : X.K = K) (h2 : X.prog = P) (h3 : X.w = w) (hc : X.calm = true) (hu : X.A.units + 64 < cLine) : CallR X (.type "set") (rSetOfT K P w) := by subst h h2 h3; exact cr_setOfT hc hu
theorem pe_joinK {apos pos : Pos} (h : X.K = K) (ho : PE X o to) (he : PE X e te) (hs : starEach [e] X.env = [(false, eval e X.env)] := by rfl) (hbase : attributeBase o "join" X.env (eval o X.env) = eval o X.env := by rfl) (hline : (apos.endLine == pos.line) = true := by rfl) :
    PE X (.Call (.Attribute o "join" apos) [e] [] pos) (tM1 (fun x xs H Q => ∃ a p, ∃ ys : List Str, x = .str a ∧ xs = [.ref p] ∧ (SqL K H p (ys.map V.str) ∨ SqT K H p (ys.map V.str)) ∧
      (ys.map (·.length)).sum + ys.length * a.length ≤ 16777216 ∧ Q (.str (Txt.join a ys)) H) to te) := by subst h; exact pe_join ho he hs hbase hline
end
end Z
namespace Z
open PySem L2 PySem.W
section
variable {K : PySem.W.Frag} {τ : T} {μ : M} {Φ : D → M → Prop} {te to : TE} {H1 : Hp}
/-- a text of one sign -/
abbrev sg (c : Nat) : D := .str ⟨#[c]⟩
/-- the signs of a text, in turn -/
def signsD (s : Str) : List D := s.cps.toList.map sg
theorem signs_len (s : Str) : (signsD s).length = s.cps.size := by simp [signsD]
theorem walk_S {s : Str} : WalkD K (Its s) (signsD s) (fun _ => False) (fun _ => True) where
  keep := fun _ _ _ _ _ _ _ _ => trivial
  oo := fun _ _ _ h => h.elim
  go := fun i H' hi _ => Nat.lt_of_lt_of_eq hi (signs_len s)
  stop := fun i H' hi _ => Nat.le_trans (Nat.le_of_eq (signs_len s).symm) hi
  yld := fun i H' v H2 _ _ y => by
    obtain ⟨rfl, c, hc, rfl⟩ := y
    exact ⟨sg c, by unfold signsD; rw [List.getElem?_map, Array.getElem?_toList, hc]; rfl, .str _, .inl rfl⟩
theorem ai_str {Ψ : List D → M → (M → M) → Prop} (h : AE K te τ μ fun o μ1 => ∃ s, o = .str s ∧ Ψ (signsD s) μ1 id) : AI K (iStr te) τ μ Ψ := fun σ H s c R k =>
  h σ H s c _ fun o μ1 v H1 f1 c1 r1 ⟨x, e, q⟩ => by
    subst e
    cases r1
    exact ⟨x, rfl, k _ _ _ _ H1 μ1 id (f1.tx c) c1 walk_S trivial (fun _ z => z.elim) (back_id f1) q⟩
/-- texts, as values and as data -/
theorem rels_strs {H : Hp} : ∀ {ns : List Str} {vs : List V}, Rels K H vs (ns.map D.str) → vs = ns.map V.str
  | [], _, .nil => rfl
  | _ :: _, _, .cons (.str _) r => congrArg _ (rels_strs r)
theorem strs_rels {H : Hp} : ∀ ns : List Str, Rels K H (ns.map V.str) (ns.map D.str)
  | [] => .nil
  | n :: ns => .cons (.str n) (strs_rels ns)
/-- x.split(sep) -/
theorem m_split {a b : Str} (h : AE K to τ μ fun o μ1 => o = .str a ∧ AE K te τ μ1 fun y μ2 => y = .str b ∧ (b.length == 0) = false ∧ a.length + 2 ≤ sizeLine ∧ ∀ p, μ2 p = none → Φ (.ref p) (μ2.set p (.lst ((Txt.split a b).map D.str)))) :
    AE K (tM1 (fun x xs H Q => ∃ a b, x = .str a ∧ xs = [.str b] ∧ (b.length == 0) = false ∧ a.length + 2 ≤ sizeLine ∧ rNewStrs (Txt.split a b) H Q) to te) τ μ Φ := fun σ H s c Q k =>
  h σ H s c _ fun o μ1 v H1 f1 c1 r1 ⟨e, p1⟩ => by
    subst e
    cases r1
    refine ⟨⟨_, rfl⟩, p1 σ H1 (s.mono (f1.tx c)) c1 _ fun y μ2 u H2 f2 c2 r2 ⟨e0, hb, hz, q⟩ => ?_⟩
    subst e0
    cases r2
    refine ⟨a, b, rfl, rfl, hb, hz, fun p hp => ?_⟩
    exact k _ _ _ _ ((f1.trans f2).trans (fr_put hp)) (con_put (m := .lst ((Txt.split a b).map D.str)) hp c2 ⟨_, upd_same, strs_rels _⟩) (.ref p) (q p (c2.free hp))
theorem m_startsS {a b : Str} (h : AE K to τ μ fun o μ1 => o = .str a ∧ AE K te τ μ1 fun y μ2 => y = .str b ∧ Φ (.bl (Txt.startswith a b)) μ2) :
    AE K (tM1 (fun x xs H Q => ∃ a b, x = .str a ∧ xs = [.str b] ∧ Q (.bl (Txt.startswith a b)) H) to te) τ μ Φ := fun σ H s c Q k =>
  h σ H s c _ fun o μ1 v H1 f1 c1 r1 ⟨e, p1⟩ => by
    subst e
    cases r1
    refine ⟨⟨_, rfl⟩, p1 σ H1 (s.mono (f1.tx c)) c1 _ fun y μ2 u H2 f2 c2 r2 ⟨e0, q⟩ => ?_⟩
    subst e0
    cases r2
    exact ⟨a, b, rfl, rfl, k _ _ _ _ (f1.trans f2) c2 (.bl _) q⟩
/-- int(text) -/
theorem rc_intS {a : Str} {n : Int} (hn : PySem.intText? a = some n) (hl : a.length ≤ 640) (q : Φ (.int n) μ) : RC K (fun xs H Q => ∃ a n, xs = [.str a] ∧ PySem.intText? a = some n ∧ a.length ≤ 640 ∧ Q (.int n) H) [.str a] μ Φ := fun H xs c r Q k => by
  match r with
  | .cons (.str _) .nil => exact ⟨a, n, rfl, hn, hl, k _ μ _ H Fr.refl c (.int _) q⟩
theorem rs_str {a : Str} {lo hi : Option Int} (hz : a.length ≤ sizeLine) (q : Φ (.str (cutS a lo hi)) μ) : RS K rSlS (.str a) lo hi μ Φ := fun H x c r Q k => by
  cases r
  exact ⟨a, rfl, hz, k _ μ _ H Fr.refl c (.str _) q⟩
theorem ro_addS {a b : Str} (hz : a.length + b.length ≤ sizeLine) (q : Φ (.str (a ++ b)) μ) : RO K (fun x y H Q => ∃ i j, x = .str i ∧ y = .str j ∧ i.length + j.length ≤ sizeLine ∧ Q (.str (i ++ j)) H) (.str a) (.str b) μ Φ := fun H x y c r1 r2 Q k => by
  cases r1; cases r2
  exact ⟨a, b, rfl, rfl, hz, k _ μ _ H Fr.refl c (.str _) q⟩
/-- one sign in a text -/
theorem ro_inSg {n : Nat} {b : Str} (q : Φ (.bl (decide (n ∈ b.cps.toList))) μ) : RO K (fun x y H Q => ∃ (c : Nat) (z : Str), x = .str ⟨#[c]⟩ ∧ y = .str z ∧ Q (.bl (decide (c ∈ z.cps.toList))) H) (sg n) (.str b) μ Φ := fun H x y c r1 r2 Q k => by
  cases r1; cases r2
  exact ⟨n, b, rfl, rfl, k _ μ _ H Fr.refl c (.bl _) q⟩
theorem a_fmtI {i : Int} (hz : i.natAbs.log2 < 1920) (h : AE K te τ μ fun o μ1 => o = .int i ∧ Φ (.str (Str.ofString (toString i))) μ1) : AE K (tFmt te) τ μ Φ := fun σ H s c Q k =>
  h σ H s c _ fun o μ1 v H1 f1 c1 r1 ⟨e, q⟩ => by
    subst e
    cases r1
    exact .inr ⟨i, rfl, hz, k _ _ _ _ f1 c1 (.str _) q⟩
/-- the parts, one behind the other -/
def AJ (K : PySem.W.Frag) (ts : List TE) (acc : Str) (τ : T) (μ : M) (Ψ : Str → M → Prop) : Prop :=
  ∀ σ H, Slots K H τ σ → Z.Con K H μ → ∀ Q : Str → Hp → Prop, (∀ out μ1 H1, Fr μ μ1 H H1 → Z.Con K H1 μ1 → Ψ out μ1 → Q out H1) → tJs ts acc σ H Q
theorem aj_nil {acc : Str} {Ψ : Str → M → Prop} (q : Ψ acc μ) : AJ K [] acc τ μ Ψ := fun _ H _ c Q k => k acc μ H Fr.refl c q
theorem aj_cons {t : TE} {ts : List TE} {acc : Str} {Ψ : Str → M → Prop} (h : AE K t τ μ fun o μ1 => ∃ y : Str, o = .str y ∧ (acc ++ y).length ≤ sizeLine ∧ AJ K ts (acc ++ y) τ μ1 Ψ) : AJ K (t :: ts) acc τ μ Ψ := fun σ H s c Q k =>
  h σ H s c _ fun o μ1 v H1 f1 c1 r1 ⟨y, e, hz, q⟩ => by
    subst e
    cases r1
    exact ⟨y, rfl, hz, q σ H1 (s.mono (f1.tx c)) c1 _ fun out μ2 H2 f2 c2 q2 => k out μ2 H2 (f1.trans f2) c2 q2⟩
theorem a_js {ts : List TE} (h : AJ K ts Str.empty τ μ fun out μ1 => Φ (.str out) μ1) : AE K (fun σ H Q => tJs ts Str.empty σ H fun out H1 => Q (.str out) H1) τ μ Φ := fun σ H s c Q k =>
  h σ H s c _ fun out μ1 H1 f1 c1 q => k _ _ _ _ f1 c1 (.str out) q
/-- xs.insert(i, y), i a place or the end -/
theorem m_insert {a : Addr} (h : AE K to τ μ fun o μ1 => o = .ref a ∧ (∃ es, μ1 a = some (.lst es)) ∧ AE K te τ μ1 fun i μ2 => ∃ n : Nat, i = .int n ∧ (∃ es, μ2 a = some (.lst es)) ∧ AE K tp τ μ2 fun d μ3 => ∃ ds, μ3 a = some (.lst ds) ∧ n ≤ ds.length ∧ ds.length < sizeLine ∧ Φ .non (μ3.set a (.lst (ds.take n ++ [d] ++ ds.drop n)))) :
    AE K (tBM K "list" (fun x vs H Q => ∃ (l : Addr) (xs : List V) (i : Int) (y : V), x = .ref l ∧ vs = [.int i, y] ∧ H l = some (.lst xs) ∧ xs.length < sizeLine ∧ 0 ≤ i ∧ i < 2 ^ 63 ∧ Q .non (upd H l (.lst (xs.take i.toNat ++ [y] ++ xs.drop i.toNat)))) to (tCons te (tCons tp tNil))) τ μ Φ := fun σ H s c Q k =>
  h σ H s c _ fun o μ1 v H1 f1 c1 r1 ⟨e, ⟨es, he⟩, p1⟩ => by
    subst e
    cases r1
    obtain ⟨xs, hx, hr⟩ := c1 a _ he
    refine ⟨.inl ⟨rfl, xs, SqL.of hx⟩, p1 σ H1 (s.mono (f1.tx c)) c1 _ fun i μ2 u H2 f2 c2 r2 ⟨n, e0, ⟨es2, he2⟩, p2⟩ => ?_⟩
    subst e0
    cases r2
    refine p2 σ H2 ((s.mono (f1.tx c)).mono (f2.tx c1)) c2 _ fun d μ3 w H3 f3 c3 r3 ⟨ds, h3, hn, hz, q⟩ => ?_
    obtain ⟨ys, hy, hr3⟩ := c3 a _ h3
    have len := hr3.length
    refine ⟨a, ys, n, w, rfl, rfl, hy, by omega, by omega, by have := sizeLine_eq; omega, ?_⟩
    rw [Int.toNat_natCast]
    refine k _ _ _ _ (((f1.trans f2).trans f3).trans (fr_mut h3)) (con_mut (m' := .lst (ds.take n ++ [d] ++ ds.drop n)) c3 h3 ⟨_, upd_same, ?_⟩) .non q
    have g : Tx H3 (upd H3 a (.lst (ys.take n ++ [w] ++ ys.drop n))) := tx_mut c3 h3
    exact ((Rels.mono g _ _ (hr3.take n)).append (.cons (Rel.mono g _ _ r3) .nil)).append (Rels.mono g _ _ (hr3.drop n))
end
end Z
namespace Z
open PySem PySem.Spec PyProof.Rows L2
/-- a def by its address, that may raise -/
structure HeldX (P : Program) (w : World) (K : PySem.W.Frag) (mg : Str → Option Value) (base : Heap) (k : Nat) (f : Addr) (sp : Sp) : Prop where
  ex : ∃ (fd : FuncData) (ps : List Str), FnOk P w K mg base (L2.CX P w) k f fd ps sp ∧ PySem.W.keepIn K (.ref f) = true ∧ Binds K fd ps []
theorem heldX {P : Program} {w : World} {K : PySem.W.Frag} {mg : Str → Option Value} {base : Heap} {x : Str} {ps : List Str} {k : Nat} {sp : Sp} {f : Addr} (G : DefX P w K mg base x ps k sp) (V : Cst mg x (.ref f)) : HeldX P w K mg base k f sp := by
  obtain ⟨f', fd, F, hm, hk, hb⟩ := G.ex
  obtain ⟨u, hu, ru⟩ := V.ex
  cases ru
  cases hu.symm.trans hm
  exact ⟨fd, ps, F, hk, hb⟩
/-- the defs that a slot may hold, each with its promise -/
def tCallVX (K : PySem.W.Frag) (cn : Str → Option Value) (S : List (Addr × PT4)) (i : Nat) (E : L2.St → XK) (t : TA) : TE := fun σ H Q => ∃ q, q ∈ S ∧ σ[i]? = some (some (.ref q.1)) ∧ t σ H fun vs H1 => spX K cn q.2 vs H1 Q (E σ)
section
variable {X : Cx} {W : WX} {k i : Nat} {y : Str} {p pos : Pos} {e : Expr} {es : List Expr} {t : TA} {S : List (Addr × PT4)} {cn : Str → Option Value} {K : PySem.W.Frag}
theorem pe_callVX (h : X.K = K) (tk : L2.Takes X W) (A : ∀ q ∈ S, HeldX X.prog X.w X.K X.mg X.base k q.1 (spX K cn q.2)) (hr : Room k X.A) (hN : X.N[i]? = some y) (hv : Vis X.env.scope y) (ha : PA X (e :: es) t) (hdb : (y == ("__debug__" : Str)) = false := by decide) (hcd : (y == ("__classdict__" : Str)) = false := by decide)
    (he : starEach (e :: es) X.env = (false, eval e X.env) :: starEach es X.env := by rfl) (hpl : (backTo pos (starEach es X.env)).any (·.1) = false := by rfl) : PE X (.Call (.Name y p) (e :: es) [] pos) (tCallVX K cn S i (WE W) t) where
  run pins s σ H Q I := fun ⟨q, hq, hσ, ht⟩ => by
    subst h
    obtain ⟨fd, ps, F, hk, hb⟩ := (A q hq).ex
    exact wpAny_Call_Name_kw (ZT.slot_ld I hN hσ hv (PySem.W.callWith_K (h₀ := X.base) I.ok.mod.kin hk (thn (ha.run pos pins s σ H _ I ht) fun us s2 ⟨vs, H2, I2, r, z⟩ => ⟨I2.kIn, run_fnS F hr hb (passAt tk σ) I2 r z⟩) he hpl) hdb hcd)
end
section
variable {K : PySem.W.Frag} {τ : T} {μ : M} {Φ : D → M → Prop} {N : AEnds} {t : TA} {S : List (Addr × PT4)} {i : Nat}
theorem a_callVX {f : Addr} {P : PT4} (hS : (f, P) ∈ S) (hi : τ[i]? = some (some (.ref f))) (h : AA K t τ μ fun ds μ1 => P ds μ1 Φ fun x dx μ' => N.xs x dx τ μ') : AEX K (tCallVX K N.cn S i (WE N.W) t) τ μ N Φ := fun σ H s c Q k kx => by
  obtain ⟨v, hv, r⟩ := s.2 i _ hi
  cases r
  exact ⟨(f, P), hS, hv, h σ H s c _ fun ds μ1 vs H1 f1 c1 r1 p1 => ⟨ds, μ1, Φ, _, r1, c1, p1, fun d μ' v H' f c' r q => k d μ' v H' (f1.trans f) c' r q, fun x dx μ' cls H' e f c' q => kx x dx μ' cls H' e (f1.trans f) c' q⟩⟩
end
abbrev SpE := Value → Option Addr → Addr → Hp → VK → Prop
/-- what a def of one parameter promises of an error that is handled meanwhile -/
structure FnE (P : Program) (w : World) (K : PySem.W.Frag) (mg : Str → Option Value) (base : Heap) (k : Nat) (f : Addr) (fd : FuncData) (x : Str) (sp : SpE) : Prop where
  run : ∀ (A : Around) (outer : List Env) (s : Shared) (H : Hp) (args : Args) (Q : VK) (p : Addr × Obj) (cls : Value) (d : Option Addr), L2H.RoomH k A → L2H.PinOk outer H s p → Zc cls d p.2 → (∃ vs, p.2.data = .fields vs) → Env0 P w K mg base A outer s H →
    BindsTo s fd args [(x, .ref p.1)] → sp cls d p.1 H Q → codeAny (model P w) A (.call (.ref f) args) (CR CX0 outer P w H s Q E0) s
structure DefE (P : Program) (w : World) (K : PySem.W.Frag) (mg : Str → Option Value) (base : Heap) (n x : Str) (k : Nat) (sp : SpE) : Prop where
  ex : ∃ f fd, FnE P w K mg base k f fd x sp ∧ mg n = some (.ref f) ∧ PySem.W.keepIn K (.ref f) = true ∧ Binds K fd [x] []
section
variable {P : Program} {w : World} {K : PySem.W.Frag} {mg : Str → Option Value} {base : Heap}
/-- such a def by its body: the error is pinned there -/
theorem fun_okE {n qual x : Str} {st : Stmt} {f : Addr} {fd : FuncData} {N : List Str} {k : Nat} {sp : SpE} (F : Fun K n qual st f fd) (S : FnScope N [x] (defScope st))
    (hbody : ∀ (cdv : Value) (A : Around) (outer : List Env) (s : Shared) (H : Hp) (Q : VK) (p : Addr × Obj) (cls : Value) (d : Option Addr), L2H.RoomH k (A.deeper (envOfC qual (defScope st) s.heap.objs.size f cdv)) → Zc cls d p.2 → (∃ vs, p.2.data = .fields vs) → sp cls d p.1 H Q →
      ∃ t, PSs (L2H.cxH CX0 P w K mg base N qual (defScope st) f cdv A outer s H E0 p).nox (defBody st) t ∧ t { nx := fun _ H' => Q .non H', rt := Q } (L2.start N [.ref p.1]) H) : FnE P w K mg base (k + 1) f fd x sp := by
  rcases F.ex with ⟨oc, od, kV, doc, pm, an, cdv, ct, osl, rfl, lk, hcd⟩
  refine ⟨fun A outer s H args Q p cls d room pin hz hf e0 bound told => ?_⟩
  have kin := e0.mod.kin.keeps fun b o e => (e0.bs b o e).1
  have kinds : ∀ y ∈ [(x, Value.ref p.1)], (defScope st).names.lookup y.1 = some .local ∨ ((defScope st).names.lookup y.1 = some .cell ∧ ((cellsFrom (s.heap.objs.size + 1) (defScope st).names []).lookup y.1).isSome = true) := fun y hy => by
    rw [List.mem_singleton.mp hy]
    exact (S.par x (List.mem_singleton_self x)).imp id fun c => ⟨c, PySem.W.cellsFrom_some _ _ _ (.inl c)⟩
  refine codeAny_call_function room.depth (kin _ _ lk) rfl S.co S.gen rfl (PySem.W.codeRec_of kin hcd) (bound _ _ _ _ (wpAny_newFunctionEnv_cells S.kind kinds fun env he s1 x1 => ?_))
  subst he
  obtain ⟨t, body, q⟩ := hbody cdv A outer s H Q p cls d (room.deeper _) hz hf told
  refine ⟨(e0.mod.nolimit.keeps fun b o e => (e0.bs b o e).1).keeps x1.toInCall.keep, codeAny_func (wpAny_mono (body.nox.run [] s1 _ H _ (L2H.inv_startH (us := [.ref p.1]) (vs := [.ref p.1]) S pin e0 rfl (.cons rfl .nil) x1) q) (fun fl s' end_ => ?_) fun _ _ z => z)⟩
  match fl, end_ with
  | .ret u, ⟨v, σ', H', J, rv, q'⟩ => exact ⟨v, H', J.os, J.bare, J.base, J.hok, rv, q'⟩
  | .next, ⟨σ', H', J, q'⟩ => exact ⟨.non, H', J.os, J.bare, J.base, J.hok, rfl, q'⟩
  | .brk, ⟨_, _, _, q'⟩ => exact q'.elim
  | .cont, ⟨_, _, _, q'⟩ => exact q'.elim
end
/-- its promise, by data: of the error's class, its field's home, its address -/
abbrev PTE := Value → Option Addr → Addr → M → (D → M → Prop) → Prop
abbrev PE3 (P : PTE) (cls : Value) (d : Option Addr) (a : Addr) : PT3 := fun ds μ Φ => ds = [.ref a] ∧ P cls d a μ Φ
def spE (K : PySem.W.Frag) (P : PTE) : SpE := fun cls d a H Q => spI K (PE3 P cls d a) [.ref a] H Q E0
theorem body_okE {K : PySem.W.Frag} {H : Hp} {ts : TS} {P : PTE} {cls : Value} {d : Option Addr} {a : Addr} {Ns : List Str} {Q : VK} (h : spE K P cls d a H Q) (hb : ∀ μ Φ, P cls d a μ Φ → AS K ts (startD Ns.length [.ref a]) μ { nx := fun _ μ' => Φ .non μ', rt := Φ }) :
    ts { nx := fun _ H' => Q .non H', rt := Q } (L2.start Ns [.ref a]) H := body_ok h fun ds μ Φ ⟨e, p⟩ => e ▸ hb μ Φ p
def tCallE (sp : SpE) (cls : Value) (d : Option Addr) (a : Addr) (te : TE) : TE := fun σ H Q => te σ H fun x H1 => x = .ref a ∧ sp cls d a H1 Q
section
variable {X : Cx} {a : Addr} {oe : Obj} {cls : Value} {d : Option Addr} {k : Nat} {n x : Str} {sp : SpE} {e : Expr} {te : TE} {p pos : Pos}
theorem pe_callE (hp : (a, oe) ∈ X.pn) (hz : Zc cls d oe) (hf : ∃ vs, oe.data = .fields vs) (G : DefE X.prog X.w X.K X.mg X.base n x k sp) (hr : L2H.RoomH k X.A) (hg : Gl X n) (he : PE X e te) (hdb : (n == ("__debug__" : Str)) = false := by decide)
    (hst : starEach [e] X.env = (false, eval e X.env) :: starEach [] X.env := by rfl) (hpl : (backTo pos (starEach [] X.env)).any (·.1) = false := by rfl) : PE X (.Call (.Name n p) [e] [] pos) (tCallE sp cls d a te) where
  run pins s σ H Q I := fun h => by
    obtain ⟨f, fd, F, hm, hk, hb⟩ := G.ex
    refine wpAny_Call_Name_kw (ld_glob I hg hm (PySem.W.callWith_K (h₀ := X.base) I.ok.mod.kin hk (PyProof.Rows.args_cons (thn (he.run pins s σ H _ I h) fun u s1 ⟨v, H1, I1, rv, ev, q⟩ => PyProof.Rows.args_nil ?_) hst) hst hpl) hdb)
    subst ev
    cases rv
    obtain ⟨g, free, nl, nf, nc⟩ := I1.pin _ (List.mem_append_left _ hp)
    have pin : L2H.PinOk X.stack H1 s1 (a, oe) := ⟨g, free, fun hm => (List.mem_cons.mp (I1.stkSub a hm)).elim nl nf, nc⟩
    refine ⟨I1.kIn, wpAny_call (codeAny_mono (F.run X.A X.stack s1 H1 ⟨[.ref a], []⟩ Q (a, oe) cls d hr pin hz hf I1.env0 (by simpa using hb s1 [.ref a] I1.kIn rfl) q) fun r s' back => ?_)⟩
    match r, back with
    | .ok (.ret u), back => exact I1.after back
    | .error _, back => exact back.elim
end
theorem a_callE {K : PySem.W.Frag} {τ : T} {μ : M} {Φ : D → M → Prop} {te : TE} {P : PTE} {cls : Value} {d : Option Addr} {a : Addr} (h : AE K te τ μ fun o μ1 => o = .ref a ∧ P cls d a μ1 Φ) : AE K (tCallE (spE K P) cls d a te) τ μ Φ := fun σ H s c Q k =>
  h σ H s c _ fun o μ1 v H1 f1 c1 r1 ⟨e, p1⟩ => by
    subst e
    cases r1
    exact ⟨rfl, [.ref a], μ1, Φ, .cons (.ref a) .nil, c1, ⟨rfl, p1⟩, fun d' μ' v' H' f c' r q => k d' μ' v' H' (f1.trans f) c' r q⟩
end Z
namespace Z
open PySem PySem.Spec PySem.Calls PyProof.Rows L2
section
variable {prog : Program} {w : World} {A : Around} {E : Value → Shared → Prop} {s : Shared}
/-- i items ahead, m behind, a new list of what is between -/
theorem star_items {l : Addr} {items : Array Value} {i m : Nat} {Q : List Value → Shared → Prop} (calm : A.handled = none) (hl : s.heap.IsList l items) (hn : i + m ≤ items.size) (few : items.size ≤ 16384)
    (q : ∀ (h : Heap) (tk : Nat), (∀ b o, s.heap.get? b = some o → h.get? b = some o) →
      Q (items.toList.take i ++ [.ref h.objs.size] ++ (items.toList.drop i).drop (items.size - i - m)) { s with heap := h.push { cls := .type "list", data := .seq ((items.toList.drop i).take (items.size - i - m)).toArray }, toks := tk }) :
    wpAny (model prog w) A (unpackItems (.ref l) (i + m + 1) (some i)) Q E s := by
  have apart : l ≠ s.heap.objs.size := let ⟨_, ho, _⟩ := hl; Nat.ne_of_lt (Heap.lt_size ho)
  have lens : (items.toList.take i).length = i ∧ (items.toList.drop i).length = items.size - i := ⟨by rw [List.length_take, Array.length_toList]; omega, by rw [List.length_drop, Array.length_toList]⟩
  have iterable : wpAny (model prog w) A (notIterableAtAll (.ref l)) (fun b z => b = false ∧ z = s) E s := wpAny_bind (wpAny_specialOf hl.typeIs F.slot_list_iter.lookup (wpAny_pure ⟨rfl, rfl⟩))
  refine wpAny_bind (thn iterable fun b z ⟨eb, ez⟩ => ?_)
  subst eb ez
  refine wpAny_bind (wpAny_holding (wpAny_pyIter_list hl ?_))
  refine wpAny_bind (wpAny_holding (PySem.W.kun_draw apart i 0 _ _ ⟨_, Heap.get?_push_size _ rfl, rfl, rfl⟩ (hl.push _) (by omega) fun h1 it1 only => ?_))
  have l1 := (hl.push { cls := .type "list_iterator", data := .fields #[.ref l, .int 0 0] }).extBut only.extBut apart
  have it1 : h1.IsListIter z.heap.objs.size l i := Nat.zero_add i ▸ it1
  show wpAny _ _ (if (items.toList.take i).length < i then _ else _) _ _ _
  rw [if_neg (by omega)]
  have room1 : z.heap.objs.size < h1.objs.size ∧ l < h1.objs.size := ⟨let ⟨_, g, _⟩ := it1; Heap.lt_size g, let ⟨_, g, _⟩ := l1; Heap.lt_size g⟩
  refine wpAny_bind (wpAny_holding (PySem.W.kun_collect (s := { z with heap := h1 }) (.inr (.inr (.inl rfl))) (Walks.list (A := A.in1) calm z.heap.objs.size l apart items) (fun j u st => st.1.typeIs) (k := i) (by omega) ⟨it1, l1⟩ room1.1 room1.2 (fun h2 tk kept => ?_) (by rw [sizeLine_eq]; omega)))
  show wpAny _ _ (if (items.toList.drop i).length < i + m + 1 - 1 - i then _ else _) _ _ _
  rw [if_neg (by omega), show (items.toList.drop i).length - (i + m + 1 - 1 - i) = items.size - i - m by omega]
  exact wpAny_bind (wpAny_newList (wpAny_pure (q h2 tk fun b o e => kept b o (Nat.ne_of_lt (Heap.lt_size e)) (only.extBut b o (Nat.ne_of_lt (Heap.lt_size e)) (Heap.get?_push_of_some _ e)))) (by rw [List.length_take, sizeLine_eq]; omega))
end
def gStar (K : PySem.W.Frag) (i m : Nat) (t : TGs) : TG := fun v σ H Q => ∃ (a : Addr) (pre mid post : List V), v = .ref a ∧ SqL K H a (pre ++ mid ++ post) ∧ pre.length = i ∧ post.length = m ∧ (pre ++ mid ++ post).length ≤ 16384 ∧ ∀ p, H p = none → t (pre ++ [.ref p] ++ post) σ (upd H p (.lst mid)) Q
theorem pgs_star {X : Cx} {e : Expr} {es : List Expr} {p : Pos} {t : TGs} (h : PGs X (e :: es) t) (hs : (assignEach (.Starred e p :: es) X.env).map (·.2) = (assignEach (e :: es) X.env).map (·.2) := by rfl) : PGs X (.Starred e p :: es) t :=
  ⟨fun pins s σ H vs us Q I r q => hs ▸ h.run pins s σ H vs us Q I r q⟩
theorem pg_star {X : Cx} {K : PySem.W.Frag} {es : List Expr} {k i m : Nat} {pos : Pos} {t : TGs} (hK : X.K = K) (hc : X.calm = true) (h : PGs X es t) (hn : (assignEach es X.env).length = i + m + 1 := by rfl) (hst : (assignEach es X.env).findIdx? (·.1) = some i := by rfl) :
    PG X (.Tuple es k pos) (gStar K i m t) where
  run pins s σ H v u Q I r := fun ⟨a, pre, mid, post, ev, hq, hi, hm, few, q⟩ => by
    subst hK ev
    cases r
    obtain ⟨its, rv, ⟨o, n, g, c, -, dd⟩, hz⟩ := I.list hq
    have len : its.length = i + mid.length + m := by rw [← rv.length, List.length_append, List.length_append, hi, hm]
    rw [List.length_append, List.length_append, hi, hm] at few
    rw [PyProof.Rows.assign_Tuple]
    refine wpAny_bind (wpAny_standAt ?_)
    unfold unpack
    rw [hn, hst]
    refine wpAny_bind (wpAny_holding (star_items (i := i) (m := m) (I.ok.hd hc) ⟨o, g, c, n, dd⟩ (by rw [List.size_toArray, len]; omega) (by rw [List.size_toArray, len]; omega) fun h2 tk kept => ?_))
    have cut : (its.toArray.size - i - m) = mid.length := by rw [List.size_toArray, len]; omega
    rw [cut, List.toList_toArray]
    have I2 : L2.Inv X pins σ H { s with heap := h2, toks := tk } := I.kept kept
    have mids := (rv.drop i).take mid.length
    have e1 : ((pre ++ mid ++ post).drop i).take mid.length = mid := by rw [List.append_assoc, ← hi, List.drop_left, List.take_left]
    have e2 : (pre ++ mid ++ post).take i = pre := by rw [List.append_assoc, ← hi, List.take_left]
    have e3 : ((pre ++ mid ++ post).drop i).drop mid.length = post := by rw [List.append_assoc, ← hi, List.drop_left, List.drop_left]
    rw [e1] at mids
    have ends := (rv.drop i).drop mid.length
    rw [e3] at ends
    have heads := rv.take i
    rw [e2] at heads
    have I3 := I2.laid (t' := tk) (o := .lst mid) (fun b o e => Heap.get?_push_of_some { cls := .type "list", data := .seq ((its.drop i).take mid.length).toArray } e) (Nat.le_refl h2.objs.size)
      ⟨by rw [sizeLine_eq]; omega, _, 0, mids, Heap.get?_push_size _ rfl⟩
    exact h.run pins _ σ _ _ _ Q I3 ((heads.append (show Vals [V.ref h2.objs.size] [Value.ref h2.objs.size] from .cons rfl .nil)).append ends) (q _ (I2.hok.fresh (Nat.le_refl _)))
/-- a text turned -/
def revS (x : Str) : Str := ⟨x.cps.toList.reverse.toArray⟩
def tRevS (te : TE) : TE := fun σ H Q => te σ H fun v H1 => ∃ x, v = .str x ∧ x.length ≤ sizeLine ∧ Q (.str (revS x)) H1
theorem rels_cut {K : PySem.W.Frag} {H : Hp} {es : List D} : ∀ (ds : List D) {vs : List V}, Rels K H vs (ds ++ es) → ∃ u w, vs = u ++ w ∧ Rels K H u ds ∧ Rels K H w es
  | [], _, r => ⟨[], _, rfl, .nil, r⟩
  | _ :: ds, _, .cons a r => let ⟨u, w, e, r1, r2⟩ := rels_cut ds r; ⟨_ :: u, w, congrArg _ e, .cons a r1, r2⟩
section
variable {K : PySem.W.Frag} {τ : T} {μ : M} {Φ : D → M → Prop} {te : TE}
theorem a_revS {x : Str} (hz : x.length ≤ sizeLine) (h : AE K te τ μ fun d μ1 => d = .str x ∧ Φ (.str (revS x)) μ1) : AE K (tRevS te) τ μ Φ := fun σ H s c Q k =>
  h σ H s c _ fun d μ1 v H1 f1 c1 r1 ⟨e, q⟩ => by
    subst e
    cases r1
    exact ⟨x, rfl, hz, k _ _ _ _ f1 c1 (.str _) q⟩
theorem g_star {i m : Nat} {gs : TGs} {a : Addr} {pre mid post : List D} {Θ : T → M → Prop} (hs : μ a = some (.lst (pre ++ mid ++ post))) (hi : pre.length = i) (hm : post.length = m) (few : (pre ++ mid ++ post).length ≤ 16384)
    (h : ∀ p, μ p = none → AGs K gs (pre ++ [.ref p] ++ post) τ (μ.set p (.lst mid)) Θ) : AG K (gStar K i m gs) (.ref a) τ μ Θ := fun σ H v s c r Q k => by
  cases r
  obtain ⟨vs, hv, hr⟩ := c a _ hs
  obtain ⟨u, rest, rfl, r1, r2⟩ := rels_cut pre (es := mid ++ post) (List.append_assoc pre mid post ▸ hr)
  obtain ⟨v2, w2, rfl, r3, r4⟩ := rels_cut mid r2
  refine ⟨a, u, v2, w2, rfl, SqL.of (by rw [List.append_assoc]; exact hv), r1.length.trans hi, r4.length.trans hm, ?_, fun p hp => ?_⟩
  · rw [List.length_append, List.length_append, r1.length, r3.length, r4.length, ← List.length_append, ← List.length_append]
    exact few
  · have g := tx_new (o := .lst v2) hp
    have f := fr_put (μ := μ) (H := H) (o := .lst v2) (m := .lst mid) hp
    refine h p (c.free hp) σ _ _ (s.mono g) (con_put (m := .lst mid) hp c ⟨_, upd_same, Rels.mono g _ _ r3⟩) (((Rels.mono g _ _ r1).append (.cons (.ref p) .nil)).append (Rels.mono g _ _ r4)) _ fun τ2 μ2 σ2 H2 f2 c2 s2 q => k τ2 μ2 σ2 H2 (f.trans f2) c2 s2 q
end
end Z
namespace Z
open PySem PySem.Spec PySem.Calls PyProof.Rows L2
end Z
namespace Z
open PySem PySem.Spec PyProof.Rows L2
theorem roomE {k : Nat} {A : Around} {h : Option Value} (r : Room k A) : L2H.RoomH k (A.mark h) := ⟨r.dp, r.un⟩
theorem held_nil {P : Program} {w : World} {K : PySem.W.Frag} {mg : Str → Option Value} {base : Heap} {k : Nat} {cn : Str → Option Value} : ∀ q ∈ ([] : List (Addr × PT4)), HeldX P w K mg base k q.1 (spX K cn q.2) := fun _ h => nomatch h
theorem held_cons {P : Program} {w : World} {K : PySem.W.Frag} {mg : Str → Option Value} {base : Heap} {k j : Nat} {cn : Str → Option Value} {f : Addr} {p : PT4} {S : List (Addr × PT4)} (h : HeldX P w K mg base j f (spX K cn p)) (r : ∀ q ∈ S, HeldX P w K mg base k q.1 (spX K cn q.2)) (hk : j ≤ k := by decide) :
    ∀ q ∈ (f, p) :: S, HeldX P w K mg base k q.1 (spX K cn q.2) := fun q hq => by
  rcases List.mem_cons.mp hq with e | m
  · subst e
    obtain ⟨fd, ps, F, k1, b⟩ := h.ex
    exact ⟨fd, ps, F.mono hk, k1, b⟩
  · exact r q m
section
variable {K : PySem.W.Frag} {τ : T} {μ : M} {Φ : D → M → Prop} {te to : TE}
/-- sep.join(xs), xs a list or a tuple of texts, whatever it turns out to be -/
theorem m_joinV {a : Str} (h : AE K to τ μ fun o μ1 => o = .str a ∧ AE K te τ μ1 fun y μ2 => ∃ ys : List Str, seqD μ2 y = some (ys.map D.str) ∧ (ys.map (·.length)).sum + ys.length * a.length ≤ 16777216 ∧ Φ (.str (Txt.join a ys)) μ2) :
    AE K (tM1 (fun x xs H Q => ∃ a p, ∃ ys : List Str, x = .str a ∧ xs = [.ref p] ∧ (SqL K H p (ys.map V.str) ∨ SqT K H p (ys.map V.str)) ∧ (ys.map (·.length)).sum + ys.length * a.length ≤ 16777216 ∧ Q (.str (Txt.join a ys)) H) to te) τ μ Φ := fun σ H s c Q k =>
  h σ H s c _ fun o μ1 v H1 f1 c1 r1 ⟨e, p1⟩ => by
    subst e
    cases r1
    refine ⟨⟨_, rfl⟩, p1 σ H1 (s.mono (f1.tx c)) c1 _ fun y μ2 u H2 f2 c2 r2 ⟨ys, at_, hz, q⟩ => ?_⟩
    obtain ⟨p, xs, rfl, hq, hr⟩ := seq_of c2 r2 at_
    exact ⟨a, p, ys, rfl, rfl, rels_strs hr ▸ hq, hz, k _ _ _ _ (f1.trans f2) c2 (.str _) q⟩
theorem a_defKI {n m : Nat} {π : List (Bool × Nat)} {mz : List V} (mD : List D) (hmz : ∀ H, Rels K H mz mD) {P : PT3} {E : XK} {t tk : TA}
    (h : AA K t τ μ fun ds μ1 => AA K tk τ μ1 fun es μ2 => ds.length = n ∧ es.length = m ∧ P (gK π ds mD es) μ2 Φ) : AE K (tCallN n m (spI K P) (fun vs zs => gK π vs mz zs) E t tk) τ μ Φ := fun σ H s c Q k =>
  h σ H s c _ fun ds μ1 vs H1 f1 c1 r1 p1 => p1 σ H1 (s.mono (f1.tx c)) c1 _ fun es μ2 zs H2 f2 c2 r2 ⟨l1, l2, p2⟩ =>
    ⟨r1.length.trans l1, r2.length.trans l2, gK π ds mD es, μ2, Φ, rels_gK π (r1.mono (f2.tx c1)) (hmz H2) r2, c2, p2, fun d μ' v H' f c' r q => k d μ' v H' ((f1.trans f2).trans f) c' r q⟩
/-- xs.pop(i), i a place counted from the front -/
theorem m_popI {to : TE} {a : Addr} {ds : List D} {i : Int} {d : D} (i0 : 0 ≤ i) (few : ds.length < 2 ^ 63) (hd : atI ds i = some d) (h : AE K to τ μ fun o μ1 => o = .ref a ∧ (∃ es, μ1 a = some (.lst es)) ∧ AE K te τ μ1 fun e μ2 => e = .int i ∧ μ2 a = some (.lst ds) ∧ Φ d (μ2.set a (.lst (ds.take i.toNat ++ ds.drop (i.toNat + 1))))) :
    AE K (tBM K "list" rPopAt to (tCons te tNil)) τ μ Φ := fun σ H s c Q k =>
  h σ H s c _ fun o μ1 v H1 f1 c1 r1 ⟨eo, ⟨es, he⟩, arg⟩ => by
    subst eo
    cases r1
    obtain ⟨old, ho, -⟩ := c1 a _ he
    refine ⟨.inl ⟨rfl, old, SqL.of ho⟩, arg σ H1 (s.mono (f1.tx c)) c1 _ fun e μ2 u H2 f2 c2 r2 ⟨ei, h2, q⟩ => ?_⟩
    subst ei
    cases r2
    obtain ⟨xs, hx, hr⟩ := c2 a _ h2
    obtain ⟨y, hy, ry⟩ := at_len hr hd
    obtain ⟨j, sj, gj, lj, -, up⟩ := atI_get hy
    have len := hr.length
    have ej : j = i.toNat := by
      unfold seqIndex? at sj
      split at sj <;> simp at sj <;> omega
    have tx := tx_mut (o := .lst (xs.take j ++ xs.drop (j + 1))) c2 h2
    refine ⟨a, xs, i, j, y, rfl, rfl, hx, by omega, by omega, sj, gj, ?_⟩
    rw [List.eraseIdx_eq_take_drop_succ]
    subst ej
    exact k _ _ _ _ ((f1.trans f2).trans (fr_mut h2)) (con_mut (m' := .lst (ds.take i.toNat ++ ds.drop (i.toNat + 1))) c2 h2 ⟨_, upd_same, (Rels.mono tx _ _ (hr.take _)).append (Rels.mono tx _ _ (hr.drop _))⟩) (Rel.mono tx _ _ ry) q
/-- a whole body that is one statement: its term may speak of its own ends -/
def RunB (t : TS) (E : L2.Ends) (σ : L2.St) (H : Hp) : Prop := t E σ H
theorem ex_run {Ps : TS → Prop} {t : TS} {E : L2.Ends} {σ : L2.St} {H : Hp} (h : Ps t) (k : RunB t E σ H) : ∃ t, Ps t ∧ t E σ H := ⟨t, h, k⟩
theorem body_okR {K : PySem.W.Frag} {H : Hp} {ts : TS} {P : PT3} {E : XK} {Ns : List Str} {vs : List V} {Q : VK} (h : spI K P vs H Q E) (hb : ∀ ds μ Φ, P ds μ Φ → AS K ts (startD Ns.length ds) μ { nx := fun _ μ' => Φ .non μ', rt := Φ }) :
    RunB ts { nx := fun _ H' => Q .non H', rt := Q } (L2.start Ns vs) H := body_ok h hb
/-- how long the texts of these laws grow -/
abbrev lng : Nat := 10000
theorem lng_line {n : Nat} (h : n ≤ lng) : n ≤ sizeLine := Nat.le_trans h (by decide)
end
end Z
namespace Z
open PySem PySem.Spec PyProof.Rows L2
end Z
namespace OWN
open PySem PySem.Spec PyProof.Rows L2
section
variable {X : Cx} {A : Around} {C f : Addr} {fd : FuncData} {ps : List Str} {k : Nat} {sp : Sp} {pins : List (Addr × Obj)} {σ : L2.St} {H : Hp} {s : Shared} {Q : VK}
/-- a def of the text that a builtin calls, somewhere below the running body: it lets nothing out -/
theorem below {us : List Value} {vs : List V} (F : FnOk X.prog X.w X.K X.mg X.base (L2.CX X.prog X.w) k f fd ps sp) (hb : Binds X.K fd ps []) (room : Room k A) (e0 : Env0 X.prog X.w X.K X.mg X.base A X.stack s H)
    (I : Inv X pins σ H s) (r : Vals vs us) (want : sp vs H Q E0) : wpAny (model X.prog X.w) A (call (.ref f) us) (EP X pins σ Q) X.xe s := by
  have many : (us ++ []).length = ps.length := by rw [List.append_nil, ← r.length]; exact F.len _ _ _ _ want
  have bound := hb s us I.kIn many
  rw [List.append_nil] at bound
  refine wpAny_call (codeAny_mono (F.run A X.stack s H ⟨us, []⟩ us vs Q E0 room e0 bound r want) fun out s' back => ?_)
  match out, back with
  | .ok (.ret _), back => exact I.after back
  | .error e, back => exact passL pins σ H s e s' I back
/-- an instance of the class at C -/
theorem inst_at {a dx : Addr} {fs : List (Str × V)} (I : Inv X pins σ H s) (h : H a = some (.ins C dx fs)) : ∃ od, PySem.W.InstAt s.heap a (PySem.W.instObj C dx) C (some od) :=
  let ⟨_, m, _⟩ := ins_get I.hok h
  let ⟨od, at_, _⟩ := m.look
  ⟨od, at_⟩
/-- both sides are instances of C -/
def Two (C : Addr) (H : Hp) (x y : V) : Prop := ∃ (a b dx dy : Addr) (fs gs : List (Str × V)), x = .ref a ∧ y = .ref b ∧ H a = some (.ins C dx fs) ∧ H b = some (.ins C dy gs)
def rEqO (C : Addr) (sp : Sp) : R2 := fun x y H Q => Two C H x y ∧ sp [x, y] H Q E0
theorem op_eqO (G : Z.Mth X.prog X.w X.K X.mg X.base C "__eq__" ps k sp) (room : Room k X.A) : OpR X (compareOp .Eq) (rEqO C sp) := by
  intro pins s σ H x y u v Q I rx ry ⟨⟨a, b, dx, dy, fs, gs, ex, ey, ha, hb⟩, want⟩
  subst ex ey
  cases (show u = Value.ref a from rx)
  cases (show v = Value.ref b from ry)
  obtain ⟨f, fd, F, _, m, bd⟩ := G.ex
  obtain ⟨_, J⟩ := inst_at I ha
  obtain ⟨_, J'⟩ := inst_at I hb
  obtain ⟨ns, fr⟩ := I.fr
  show wpAny _ X.A (richCompare .Eq _ _) _ _ s
  refine PySem.W.cmp_K (op := .Eq) (tb := .ref C) room.units0 fr I.ok.mod.kin J J'.type (by simp [PySem.W.notFirst]) m.at_ m.fn ?_
  refine wpAny_mono (below (us := [.ref a, .ref b]) (vs := [.ref a, .ref b]) F bd room I.env0 I (.cons rfl (.cons rfl .nil)) want) (fun w s' got => ?_) fun _ _ e => e
  obtain ⟨z, H', I', rz, q⟩ := got
  exact SlX.cmpback rz ⟨z, H', I', rz, q⟩
/-- str(o) by the class's own __str__ -/
def rStrO (C : Addr) (sp : Sp) : List V → Hp → VK → Prop := fun xs H Q => ∃ (a dx : Addr) (fs : List (Str × V)), xs = [.ref a] ∧ H a = some (.ins C dx fs) ∧ sp [.ref a] H (fun v H2 => ∃ t, v = .str t ∧ Q (.str t) H2) E0
theorem cr_strO (G : Z.Mth X.prog X.w X.K X.mg X.base C "__str__" ps k sp) (room : Room (k + 2) X.A) : CallR X (.type "str") (rStrO C sp) := by
  intro pins s σ H xs us Q I r ⟨a, dx, fs, e, ha, want⟩
  subst e
  obtain ⟨u, rfl, ru⟩ := vals1 r
  obtain rfl : u = Value.ref a := ru
  obtain ⟨f, fd, F, _, m, bd⟩ := G.ex
  obtain ⟨_, J⟩ := inst_at I ha
  have room1 : Room (k + 1) X.A.in1 := room.in1
  refine PySem.W.kso_call room1.in1.units0 I.kIn J m.at_ m.fn (wpAny_mono (below (us := [.ref a]) (vs := [.ref a]) F bd room1.in1 I.env0.in1.in1 I (.cons rfl .nil) want) (fun w s' got => ?_) fun _ _ e => e)
  obtain ⟨z, H', I', rz, t, ez, q⟩ := got
  subst ez
  obtain ⟨tk, rfl⟩ := (show ∃ tk, w = Value.str t tk from rz)
  exact ⟨.str t, H', I', ⟨_, rfl⟩, q⟩
end
end OWN
namespace Z
open PySem L2 OWN
section
variable {K : PySem.W.Frag} {τ : T} {μ : M} {Φ : D → M → Prop} {P : PT3} {C a b dx dy : Addr} {fs gs : List (Str × D)}
theorem ro_eqO (ha : μ a = some (.ins C dx fs)) (hb : μ b = some (.ins C dy gs)) (p : P [.ref a, .ref b] μ Φ) : RO K (rEqO C (spI K P)) (.ref a) (.ref b) μ Φ := fun H x y c rx ry Q k => by
  cases rx; cases ry
  obtain ⟨_, ea, _⟩ := c a _ ha
  obtain ⟨_, eb, _⟩ := c b _ hb
  exact ⟨⟨a, b, dx, dy, _, _, rfl, rfl, ea, eb⟩, _, μ, Φ, .cons (.ref a) (.cons (.ref b) .nil), c, p, fun d μ' v H' f c' r q => k d μ' v H' f c' r q⟩
theorem rc_strO (ha : μ a = some (.ins C dx fs)) (p : P [.ref a] μ fun d μ' => ∃ t, d = .str t ∧ Φ (.str t) μ') : RC K (rStrO C (spI K P)) [.ref a] μ Φ := fun H xs c r Q k => by
  cases r with
  | cons ra rn =>
    cases ra; cases rn
    obtain ⟨_, ea, _⟩ := c a _ ha
    refine ⟨a, dx, _, rfl, ea, _, μ, _, .cons (.ref a) .nil, c, p, fun d μ' v H' f c' r ⟨t, e, q⟩ => ?_⟩
    subst e
    cases r
    exact ⟨t, rfl, k _ μ' _ H' f c' (.str _) q⟩
structure IsiC (K : PySem.W.Frag) (C : Addr) : Prop where
  ca : PySem.W.findIn K (.ref C) "__class__" = some (some (.builtin "object.__class__"))
  cn : PySem.W.specialIn K (.builtin "object.__class__") "__get__" = some (some (.builtin "getset_descriptor.__get__"))
  ct : PySem.W.takesIn K (.builtin "object.__class__") = some true
  cm : PySem.W.mroIn K C (.type "object") = some true
theorem rc_isiO {c : D} {u : Value} {t : Bool} (ha : μ a = some (.ins C dx fs)) (cl : Cls K C) (ic : IsiC K C) (hc : (∃ n, c = .ty n ∧ u = .type n) ∨ ∃ B, c = .ref B ∧ u = .ref B) (ki : PySem.W.kitOne K (.ref C) u = some t) (q : Φ (.bl t) μ) : RC K (rIsi K) [.ref a, c] μ Φ := fun H xs cc r Q k => by
  cases r with
  | cons ra r2 =>
    cases r2 with
    | cons rb rn =>
      cases ra; cases rn
      obtain ⟨_, ea, _⟩ := cc a _ ha
      rcases hc with ⟨n, e1, e2⟩ | ⟨B, e1, e2⟩
      · subst e1 e2; cases rb
        exact ⟨_, _, .ref C, _, t, rfl, .ty n, .base (.ins ea cl ic.ca ic.cn ic.ct ic.cm), ki, k _ μ _ H Fr.refl cc (.bl _) q⟩
      · subst e1 e2; cases rb
        exact ⟨_, _, .ref C, _, t, rfl, .own B, .base (.ins ea cl ic.ca ic.cn ic.ct ic.cm), ki, k _ μ _ H Fr.refl cc (.bl _) q⟩
theorem rc_isiD {d : D} {n : String} {t : Bool} (h : tyn μ d = some n) (ki : PySem.W.kitOne K (.type n) (.ref C) = some t) (q : Φ (.bl t) μ) : RC K (rIsi K) [d, .ref C] μ Φ := fun H xs cc r Q k => by
  cases r with
  | cons ra r2 =>
    cases r2 with
    | cons rb rn =>
      cases rb; cases rn
      exact ⟨_, _, .type n, _, t, rfl, .own C, tyx_of cc ra h, ki, k _ μ _ H Fr.refl cc (.bl _) q⟩
end
end Z
namespace OWN
open PySem PySem.Spec PyProof.Rows L2
end OWN
namespace OWN
open PySem PySem.Spec PyProof.Rows L2
end OWN
namespace Z
open PySem L2 OWN
end Z
namespace OWN
open PySem PySem.Spec PyProof.Rows L2
end OWN
namespace Z
open PySem L2
structure OwnC (K : PySem.W.Frag) (C : Addr) : Prop where
  isi : IsiC K C
  ne : PySem.W.findIn K (.ref C) "__ne__" = some (some (.builtin "object.__ne__"))
  ic : PySem.W.isClsIn K C = true
  ty : PySem.W.typeIn K (.ref C) = some (.type "type")
  upN : PySem.W.subIn K (.ref C) (.type "NoneType") = some false
  upI : PySem.W.subIn K (.ref C) (.type "int") = some false
  upT : PySem.W.subIn K (.ref C) (.type "tuple") = some false
  upS : PySem.W.subIn K (.ref C) (.type "str") = some false
section
variable {K : PySem.W.Frag} {C : Addr}
theorem OwnC.self (o : OwnC K C) : PySem.W.kitOne K (.ref C) (.ref C) = some true := by
  unfold PySem.W.kitOne
  rw [if_pos (by simp)]
/-- no builtin type is below an own class -/
theorem sub_type {n : String} {ts : List String} (h : PySem.fastBuiltinMro n = some (ts.map Value.type)) : PySem.W.subIn K (.type n) (.ref C) = some false := by
  show (PySem.fastBuiltinMro n).map _ = _
  rw [h]
  show some ((ts.map Value.type).contains (.ref C)) = some false
  congr 1
  clear h
  induction ts with
  | nil => rfl
  | cons t r ih => rw [List.map_cons, List.contains_cons, ih]; rfl
theorem sub_data {n : String} (h : n ∈ (["NoneType", "int", "bool", "tuple", "str", "list"] : List String)) : PySem.W.subIn K (.type n) (.ref C) = some false := by
  simp only [List.mem_cons, List.not_mem_nil, or_false] at h
  rcases h with rfl | rfl | rfl | rfl | rfl | rfl
  · exact sub_type (ts := ["NoneType", "object"]) (by decide +kernel)
  · exact sub_type (ts := ["int", "object"]) (by decide +kernel)
  · exact sub_type (ts := ["bool", "int", "object"]) (by decide +kernel)
  · exact sub_type (ts := ["tuple", "object"]) (by decide +kernel)
  · exact sub_type (ts := ["str", "object"]) (by decide +kernel)
  · exact sub_type (ts := ["list", "object"]) (by decide +kernel)
theorem OwnC.kitD {n : String} (o : OwnC K C) (h : n ∈ (["NoneType", "int", "bool", "tuple", "str", "list"] : List String)) : PySem.W.kitOne K (.type n) (.ref C) = some false := by
  unfold PySem.W.kitOne
  rw [if_neg (by simp)]
  show (if ((PySem.W.clsIn K C).isSome && PySem.W.typeIn K (.ref C) == some (.type "type")) = true then PySem.W.subIn K (.type n) (.ref C) else none) = some false
  have h5 : (PySem.W.clsIn K C).isSome = true := o.ic
  rw [h5, o.ty, if_pos (by simp)]
  exact sub_data h
end
end Z
namespace Z
open PySem L2
end Z
namespace CNT
open PySem PySem.Spec PyProof.Rows L2 PySem.W
end CNT
namespace Z
open PySem L2 CNT
end Z
namespace ZH
open PySem PySem.Spec PyProof.Rows L2 L2H HotX RZ
section
variable {prog : Program} {w : World} {A : Around} {E : Value → Shared → Prop} {s : Shared}
/-- e is a StopIteration of this heap -/
def Stop (h : Heap) (e : Addr) : Prop := ∃ o, h.get? e = some o ∧ o.cls = .type "StopIteration"
/-- a new StopIteration is raised: it bears the handled error, nothing else is touched -/
theorem stop_hot {α : Type} {x1 : Addr} {Q : α → Shared → Prop} (hot : HotAt A x1 s.heap) (q : ∀ h' e, (∀ b o, s.heap.get? b = some o → h'.get? b = some o) → Stop h' e → E (.ref e) { s with heap := h' }) : wpAny (model prog w) A (Builtin.SmallTypes.stopIteration : Sem α) Q E s := by
  obtain ⟨hh, o1, vs1, g1, r1⟩ := hot
  have made : wpAny (model prog w) A (newExc (.type "StopIteration") []) (fun v z => ∃ (e : Addr) (o : Obj) (vs : Array Value), v = .ref e ∧ z = { s with heap := z.heap } ∧ s.heap.objs.size ≤ e ∧ z.heap.get? e = some o ∧ o.cls = .type "StopIteration" ∧ o.data = .fields vs ∧ 2 < vs.size ∧ ∀ b o, s.heap.get? b = some o → z.heap.get? b = some o) E s := by
    simp only [newExc, newTuple]
    refine wpAny_bind (wpAny_newObj_type (wpAny_bind (wpAny_of_eq (a := Value.none) (by first | rfl | (simp only [firstArgMember]; rfl)) (wpAny_newObj_type ?_ (by size_fits)))) (by size_fits))
    exact ⟨_, _, _, rfl, rfl, by rw [Heap.size_push]; exact Nat.le_succ _, Heap.get?_push_size _ rfl, rfl, rfl, by rw [Array.size_append]; exact Nat.lt_of_lt_of_le (by decide : 2 < 6) (Nat.le_add_right 6 _), fun b o g => Heap.get?_push_of_some _ (Heap.get?_push_of_some _ g)⟩
  unfold Builtin.SmallTypes.stopIteration
  refine wpAny_bind (thn made ?_)
  rintro _ z ⟨e, o, vs, rfl, ez, young, ge, ce, de, big, old⟩
  have apart : ∀ {b o}, s.heap.get? b = some o → b ≠ e := fun g => Nat.ne_of_lt (Nat.lt_of_lt_of_le (Heap.lt_size g) young)
  refine raiseNew_hot ⟨hh, o1, vs1, old _ _ g1, r1⟩ (apart g1) ge de big ?_
  rw [ez]
  exact q _ e (fun b o' g => (Heap.get?_update_other _ _ (Ne.symm (apart g))).trans (old _ _ g)) ⟨_, Heap.get?_update_self _ ge (Obj.isFreed_of_fields (Obj.data_mapFields de _)), (Obj.cls_mapFields ..).trans ce⟩
/-- an iterator over a row of values, at place i -/
structure Rising (h : Heap) (it : Addr) (i : Nat) (items : Array Value) : Prop where
  at_ : ∃ (o : Obj) (src : Addr) (os : Obj) (n : Nat), h.get? it = some o ∧ o.data = .fields #[.ref src, .int i 0] ∧ h.get? src = some os ∧ os.data = .seq items n
/-- behind its last value it lets its source go and stops -/
theorem Rising.out {bn : Builtin} {it x1 : Addr} {i : Nat} {items : Array Value} {Q : Fin → Shared → Prop} (r : Rising s.heap it i items) (hb : bn = Builtin.«list_iterator.__next__» ∨ bn = Builtin.«tuple_iterator.__next__») (hot : HotAt A x1 s.heap) (apart : x1 ≠ it) (over : items.size ≤ i)
    (q : ∀ h' e, Heap.ExtBut it s.heap h' → Stop h' e → E (.ref e) { s with heap := h' }) : wpAny (model prog w) A (bn ⟨[.ref it], []⟩) Q E s := by
  obtain ⟨hh, o1, vs1, g1, r1⟩ := hot
  obtain ⟨o, src, os, n, gi, di, gs, ds⟩ := r.at_
  have none_ : items[((i : Int)).toNat]? = none := Array.getElem?_eq_none over
  have away : ∀ {b : Addr}, b ≠ it → ∀ f : Obj → Obj, (s.heap.update it f).get? b = s.heap.get? b := fun ne f => Heap.get?_update_other _ _ (Ne.symm ne)
  have last : wpAny (model prog w) A (do setField (.ref it) 0 .none; (Builtin.SmallTypes.stopIteration : Sem Fin)) Q E s :=
    wpAny_bind (wpAny_setField gi di (by simp) (stop_hot ⟨hh, o1, vs1, (away apart _).trans g1, r1⟩ fun h' e keep st => q h' e (fun b o' nb g => keep _ _ ((away nb _).trans g)) st))
  rcases hb with rfl | rfl
  all_goals
    refine (show wpAny (model prog w) A (field (.ref it) 0 >>= _) Q E s from wpAny_bind (wpAny_field gi di (x := .ref src) rfl ?_))
    rw [if_neg (show ¬((Value.ref src == Value.none) = true) from nofun)]
    refine wpAny_bind (wpAny_field gi di (x := .int i 0) rfl (wpAny_bind (wpAny_seqItems gs ds ?_)))
    dsimp only
    rw [none_]
    exact wpAny_bind (wpAny_rule last)
end
end ZH
namespace ZN
open PySem PySem.Spec PyProof.Rows L2 Z
/-- what is known of the context may be forgotten -/
theorem cx_old {P : Program} {w : World} {outer : List Env} {H : Hp} {s : Shared} {E : XK} {u : Value} {s' : Shared} (h : L2N.CX P w outer H s E u s') : L2.CX P w outer H s E u s' :=
  let ⟨a, B, H', cls, d, e, fl, r⟩ := h
  ⟨a, B, H', cls, d, e, L2H.flyingZ_imp (fun _ z => z.zc) fl, r⟩
theorem fn_old {P : Program} {w : World} {K : PySem.W.Frag} {mg : Str → Option Value} {base : Heap} {k : Nat} {f : Addr} {fd : FuncData} {ps : List Str} {sp : Sp} (F : FnOk P w K mg base (L2N.CX P w) k f fd ps sp) : FnOk P w K mg base (L2.CX P w) k f fd ps sp :=
  ⟨F.len, fun A outer s H args us vs Q E hr e b r h => codeAny_mono (F.run A outer s H args us vs Q E hr e b r h) fun r s' q => by
    match r, q with
    | .error e, q => exact cx_old q
    | .ok (.ret u), q => exact q⟩
/-- a def that may let an exception out -/
structure DefX (P : Program) (w : World) (K : PySem.W.Frag) (mg : Str → Option Value) (base : Heap) (x : Str) (ps : List Str) (k : Nat) (sp : Sp) : Prop where
  ex : ∃ f fd, FnOk P w K mg base (L2N.CX P w) k f fd ps sp ∧ mg x = some (.ref f) ∧ PySem.W.keepIn K (.ref f) = true ∧ Binds K fd ps []
/-- a method of the class at C -/
structure Mth (P : Program) (w : World) (K : PySem.W.Frag) (mg : Str → Option Value) (base : Heap) (C : Addr) (m : Str) (ps : List Str) (k : Nat) (sp : Sp) : Prop where
  ex : ∃ f fd, FnOk P w K mg base (L2N.CX P w) k f fd ps sp ∧ Cls K C ∧ Meth K C m f ∧ Binds K fd ps []
structure MthN (P : Program) (w : World) (K : PySem.W.Frag) (mg : Str → Option Value) (base : Heap) (C : Addr) (m : Str) (ps : List Str) (n : Nat) (ks : List Str) (π : List (Bool × Nat)) (mz : List V) (k : Nat) (sp : Sp) : Prop where
  ex : ∃ f fd g, FnOk P w K mg base (L2N.CX P w) k f fd ps sp ∧ Cls K C ∧ Meth K C m f ∧ KBn K fd ps (n + 1) ks g (fun vs zs => gK π vs mz zs)
/-- C(.., k = v, ..), its __init__ keeping sp -/
structure MkK (P : Program) (w : World) (K : PySem.W.Frag) (mg : Str → Option Value) (base : Heap) (x : Str) (C : Addr) (ps : List Str) (n : Nat) (ks : List Str) (π : List (Bool × Nat)) (mz : List V) (k : Nat) (sp : Sp) : Prop where
  ex : ∃ f fd g, Mk K C f ∧ FnOk P w K mg base (L2N.CX P w) k f fd ps sp ∧ mg x = some (.ref C) ∧ KBn K fd ps (n + 1) ks g (fun vs zs => gK π vs mz zs)
/-- x(.., k = v ..): n places, the names ks; gK π puts them, and the defaults mz, in the parameters' order -/
structure DefN (P : Program) (w : World) (K : PySem.W.Frag) (mg : Str → Option Value) (base : Heap) (x : Str) (ps : List Str) (n : Nat) (ks : List Str) (π : List (Bool × Nat)) (mz : List V) (k : Nat) (sp : Sp) : Prop where
  ex : ∃ f fd g, FnOk P w K mg base (L2N.CX P w) k f fd ps sp ∧ mg x = some (.ref f) ∧ PySem.W.keepIn K (.ref f) = true ∧ KBn K fd ps n ks g (fun vs zs => gK π vs mz zs)
section
variable {P : Program} {w : World} {K : PySem.W.Frag} {mg : Str → Option Value} {base : Heap} {x m : Str} {C : Addr} {ps ks : List Str} {n k : Nat} {π : List (Bool × Nat)} {mz : List V} {sp : Sp}
theorem DefX.old (G : ZN.DefX P w K mg base x ps k sp) : Z.DefX P w K mg base x ps k sp := let ⟨f, fd, F, r⟩ := G.ex; ⟨f, fd, fn_old F, r⟩
theorem Mth.old (G : ZN.Mth P w K mg base C m ps k sp) : Z.Mth P w K mg base C m ps k sp := let ⟨f, fd, F, r⟩ := G.ex; ⟨f, fd, fn_old F, r⟩
theorem MthN.old (G : ZN.MthN P w K mg base C m ps n ks π mz k sp) : Z.MthN P w K mg base C m ps n ks π mz k sp := let ⟨f, fd, g, F, r⟩ := G.ex; ⟨f, fd, g, fn_old F, r⟩
theorem MkK.old (G : ZN.MkK P w K mg base x C ps n ks π mz k sp) : Z.MkK P w K mg base x C ps n ks π mz k sp := let ⟨f, fd, g, M, F, r⟩ := G.ex; ⟨f, fd, g, M, fn_old F, r⟩
theorem DefN.old (G : ZN.DefN P w K mg base x ps n ks π mz k sp) : Z.DefN P w K mg base x ps n ks π mz k sp := let ⟨f, fd, g, F, r⟩ := G.ex; ⟨f, fd, g, fn_old F, r⟩
end
section
variable {X : Cx} {CX : CXT} {k n : Nat} {f C : Addr} {fd : FuncData} {ps ks : List Str} {sp : Sp} {E : XK} {x m : Str} {p pos apos : Pos} {e o : Expr} {es : List Expr} {kws : List Keyword} {t tk : TA} {to : TE} {g : List Value → List Value → List Value} {gV : List V → List V → List V} {W : WX} {π : List (Bool × Nat)} {mz : List V}
theorem pe_mkKX (tkk : L2N.Takes X W) (G : ZN.MkK X.prog X.w X.K X.mg X.base x C ps n ks π mz k sp) (hr : Room (k + 1) X.A) (hg : Gl X x) (ha : PA X (e :: es) t) (hkw : PK X kws tk)
    (hall : (backToKw pos (keywordEach kws X.env)).all (·.1.isSome) = true := by rfl) (hks : (backToKw pos (keywordEach kws X.env)).filterMap (·.1) = ks := by rfl) (hdb : (x == ("__debug__" : Str)) = false := by decide)
    (he : starEach (e :: es) X.env = (false, eval e X.env) :: starEach es X.env := by rfl) (hpl : ((backTo pos (starEach (e :: es) X.env)).any (·.1) || (backToKw pos (keywordEach kws X.env)).any (·.1.isNone)) = false := by rfl) :
    PE X (.Call (.Name x p) (e :: es) kws pos) (tMakeKS C n ks.length sp (fun vs zs => gK π vs mz zs) (WE W) t tk) := by
  obtain ⟨f, fd, g, M, F, hm, hb⟩ := G.ex
  exact ⟨fun pins s σ H Q I h => wpAny_Call_Name_kw (ld_glob I hg hm (kw_call (own := []) I M.kp ha hkw hall hks he hpl h fun _ _ _ _ _ _ J r rz ⟨l1, l2, q⟩ => run_makeKS (E := WE W σ) M F hr hb (L2N.passAt tkk σ) J r rz l1 l2 q) hdb)⟩
end
section
variable {X : Cx} {C : Addr} {x f m : Str} {j : Nat} {p p2 pos : Pos} {e : Expr} {es : List Expr} {ta : TA}
theorem pmk_e0 (G : Exc0 X.K X.mg x C) (hg : Gl X x) (hdb : (x == ("__debug__" : Str)) = false := by decide) : L2N.PMk X (.Call (.Name x p) [.Constant (.str m) j p2] [] pos) (fun _ H Q => Q (.ref C) none H) := by
  obtain ⟨B, newId, initId, tl, F, q⟩ := G.ex
  exact L2N.pmk_own F q G.mg G.kp (raises_own G.r1 G.r2) hg hdb
end
end ZN
namespace Z
open PySem L2
end Z
namespace XO
open PySem PySem.Spec L2
/-- a base of the program's own stands ahead of a built-in one's line -/
theorem rT_more {tl l : List Value} {c : Addr} (h : rT tl l = true) : rT tl ([Value.ref c] ++ l) = true := by
  unfold rT at *
  rw [List.singleton_append, List.dropWhile_cons_of_pos rfl]
  exact h
end XO
namespace Z
open PySem L2
section
variable {K : PySem.W.Frag} {τ : T} {μ : M} {to te tk : TE} {Φ : D → M → Prop}
/-- an item of a list: data, or a list of data of its own that is not fo -/
inductive NstE (μ : M) (fo : Addr) : D → PyData → Prop
  | ok {d : D} : OkN 5 d → NstE μ fo d (D.py d)
  | lst {a : Addr} {ds : List D} : a ≠ fo → μ a = some (.lst ds) → (∀ x ∈ ds, OkN 5 x) → NstE μ fo (.ref a) (.list (D.pys ds))
inductive Nst (μ : M) (fo : Addr) : List D → List PyData → Prop
  | nil : Nst μ fo [] []
  | cons {d : D} {p : PyData} {ds : List D} {ps : List PyData} : NstE μ fo d p → Nst μ fo ds ps → Nst μ fo (d :: ds) (p :: ps)
theorem Nst.append {fo : Addr} : ∀ {xs ys : List D} {ps qs : List PyData}, Nst μ fo xs ps → Nst μ fo ys qs → Nst μ fo (xs ++ ys) (ps ++ qs)
  | _, _, _, _, .nil, h => h
  | _, _, _, _, .cons a b, h => .cons a (b.append h)
theorem NstE.mono {μ' : M} {fo : Addr} (h : ∀ a ds, a ≠ fo → μ a = some (.lst ds) → μ' a = some (.lst ds)) {d : D} {p : PyData} : NstE μ fo d p → NstE μ' fo d p
  | .ok k => .ok k
  | .lst n e k => .lst n (h _ _ n e) k
theorem Nst.mono {μ' : M} {fo : Addr} (h : ∀ a ds, a ≠ fo → μ a = some (.lst ds) → μ' a = some (.lst ds)) : ∀ {xs : List D} {ps : List PyData}, Nst μ fo xs ps → Nst μ' fo xs ps
  | _, _, .nil => .nil
  | _, _, .cons a b => .cons (a.mono h) (b.mono h)
theorem Nst.all {fo : Addr} : ∀ {xs : List D}, (∀ x ∈ xs, OkN 5 x) → Nst μ fo xs (xs.map D.py)
  | [], _ => .nil
  | x :: xs, h => .cons (.ok (h x List.mem_cons_self)) (Nst.all fun y hy => h y (List.mem_cons_of_mem _ hy))
theorem Nst.length {fo : Addr} : ∀ {xs : List D} {ps : List PyData}, Nst μ fo xs ps → xs.length = ps.length
  | _, _, .nil => rfl
  | _, _, .cons _ b => by rw [List.length_cons, List.length_cons, b.length]
end
end Z
namespace Z
open PySem L2
end Z
namespace HX
open PySem PySem.Spec PyProof.Rows L2 Z
theorem at_ {l : List Bool} (h : l.all id = true) (i : Nat) {b : Bool} (e : l[i]? = some b) : b = true := List.all_eq_true.mp h b (List.mem_of_getElem? e)
end HX
namespace ZA
open PySem PySem.Spec PyProof.Rows L2 Z LK LamX
end ZA
namespace Z
open PySem L2 LK LamX ZA
end Z
namespace Z
open PySem PySem.Spec PyProof.Rows L2 LK LamX
end Z
namespace ZLT
open PySem PySem.Spec PyProof.Rows L2 RZ
/-- pairs of what stands at a place of a list and of a tuple -/
def Ilt (K : PySem.W.Frag) (l t : Addr) (m n : Nat) : It where
  go := fun i H => ∃ xs ys : List V, SqL K H l xs ∧ SqT K H t ys ∧ xs.length = m ∧ ys.length = n ∧ i < m ∧ i < n
  yld := fun i H v H' => ∃ p x y, v = .ref p ∧ H p = none ∧ H' = upd H p (.tup [x, y]) ∧ (∀ xs, SqL K H l xs → xs[i]? = some x) ∧ ∀ ys, SqT K H t ys → ys[i]? = some y
  stop := fun i H => ∃ xs ys : List V, SqL K H l xs ∧ SqT K H t ys ∧ xs.length = m ∧ ys.length = n ∧ (m ≤ i ∨ n ≤ i)
/-- the zip's own five objects at its turn i -/
structure At (h : Heap) (z TI TO j k l t : Addr) (i : Nat) : Prop where
  zip_ : IsZip h z TI TO .none
  ins : IsPair h TI (.ref j) (.ref k)
  out : ∃ x y, IsPair h TO x y
  lst : h.IsListIter j l i
  tup : h.IsTupleIter k t i
theorem At.there {h : Heap} {z TI TO j k l t : Addr} {i : Nat} (a : At h z TI TO j k l t i) : ∀ d ∈ [z, TI, TO, j, k], ∃ o, h.get? d = some o ∧ ∀ v, o.data ≠ .cell v := by
  obtain ⟨rec, ins, ⟨x, y, out⟩, ⟨o1, e1, _, d1⟩, ⟨o2, e2, _, d2⟩⟩ := a
  intro d hd
  simp only [List.mem_cons, List.not_mem_nil, or_false] at hd
  rcases hd with rfl | rfl | rfl | rfl | rfl
  · exact ⟨_, rec, nofun⟩
  · exact ⟨_, ins, nofun⟩
  · exact ⟨_, out, nofun⟩
  · exact ⟨o1, e1, fun v q => nomatch d1.symm.trans q⟩
  · exact ⟨o2, e2, fun v q => nomatch d2.symm.trans q⟩
theorem sep {z TI TO j k l t : Addr} (D : ZipApart z TI TO j k l t) : ZipSep2 z TI TO j k [j, l] [k, t] := by
  have no : ∀ {x y u : Addr}, x ≠ y → x ≠ u → x ∉ [y, u] := fun h g e => (List.mem_cons.mp e).elim h fun e => g (List.mem_singleton.mp e)
  exact { TIz := D.TIz, TOz := D.TOz, TITO := D.TITO, TIi1 := D.TIi1, TIi2 := D.TIi2, mem1 := List.mem_cons_self, mem2 := List.mem_cons_self
          zf1 := no D.i1z.symm D.l1z.symm, zf2 := no D.i2z.symm D.l2z.symm, Tf1 := no D.TOi1 D.l1TO.symm, Tf2 := no D.TOi2 D.l2TO.symm
          sep1_2 := no D.i12 D.l2i1.symm, sep2_1 := no D.i12.symm D.l1i2.symm }
theorem turn {P : Program} {w : World} {K : PySem.W.Frag} {elts : List Expr} {kk : Nat} {tpos : Pos} {l t z TI TO j k : Addr} {m n : Nat} (D : ZipApart z TI TO j k l t) :
    Turn P w K (.Tuple elts kk tpos) (Ilt K l t m n) [z, TI, TO, j, k] z (fun i h => i ≤ m ∧ i ≤ n ∧ At h z TI TO j k l t i) where
  mem := List.mem_cons_self
  obj := fun i h ⟨_, _, a⟩ => a.there
  keep := fun i h h' ⟨m1, m2, a⟩ s => by
    obtain ⟨x, y, out⟩ := a.out
    exact ⟨m1, m2, s z (by simp) _ a.zip_, s TI (by simp) _ a.ins, ⟨x, y, s TO (by simp) _ out⟩, a.lst.at fun o q => s j (by simp) o q, a.tup.at fun o q => s k (by simp) o q⟩
  item := by
    rintro X rfl rfl rfl hc i pins s σ H E I hf ⟨_, _, a⟩ ⟨xs, ys, qx, qy, rfl, rfl, l1, l2⟩
    have old : ∀ d ∈ [z, TI, TO, j, k], d < s.heap.objs.size := fun d hd => let ⟨_, g, _⟩ := a.there d hd; Heap.lt_size g
    obtain ⟨us, ru, pu, _⟩ := I.list qx
    obtain ⟨vs, rv, pv, _⟩ := I.tuple qy
    have n1 := ru.length
    have n2 := rv.length
    obtain ⟨x0, y0, out⟩ := a.out
    have hh := I.ok.hd hc
    have fin : ∀ {L : List Value} {b : Value}, L.toArray[i]? = some b → L[i]? = some b := fun {L b} e => by rw [List.getElem?_toArray] at e; exact e
    refine wpAny_pyNext_zipD2_item (sep D) (Draws.list (A := X.A.in1) hh j l D.l1i1 us.toArray) (Draws.tuple (A := X.A.in1) hh k t D.l2i2 vs.toArray) a.zip_ a.ins out ⟨a.lst, pu.isList⟩ ⟨a.tup, pv⟩ (by rw [List.size_toArray]; omega) (by rw [List.size_toArray]; omega) fun u v ha tk gu gv za TOa sa sb Ta _ keep => ⟨_, rfl, wpAny_letOwnedTupleGo_zip (s := { s with heap := ha, toks := tk }) za fun hb zb but => ?_⟩
    have lz := old z List.mem_cons_self
    obtain ⟨x, hx⟩ : ∃ x, xs[i]? = some x := ⟨_, List.getElem?_eq_getElem l1⟩
    obtain ⟨y, hy⟩ : ∃ y, ys[i]? = some y := ⟨_, List.getElem?_eq_getElem l2⟩
    obtain ⟨u', hu, rx⟩ := ru.get hx
    obtain ⟨v', hv, ry⟩ := rv.get hy
    obtain rfl : u' = u := Option.some.inj (hu.symm.trans (fin gu))
    obtain rfl : v' = v := Option.some.inj (hv.symm.trans (fin gv))
    have I1 := I.turnedNew (t' := tk) (ob := .tup [x, y]) (ch := [z, TI, TO, j, k]) (fun c o nc g => by
      simp only [List.mem_cons, List.not_mem_nil, or_false, not_or] at nc
      exact (but.2 c nc.1).trans (keep c o nc.1 nc.2.2.1 nc.2.2.2.1 nc.2.2.2.2 g)) hf (Nat.le_refl _) ⟨by show 2 ≤ sizeLine; decide, [u', v'], .cons rx (.cons ry .nil), ⟨_, (but.2 _ (Nat.ne_of_gt lz)).trans Ta, rfl, _, rfl⟩⟩
    refine ⟨.ref s.heap.objs.size, _, I1, rfl, ⟨_, x, y, rfl, I.hok.fresh (Nat.le_refl _), rfl, fun l hl => I.list_inj qx hl ▸ hx, fun l hl => I.tuple_inj qy hl ▸ hy⟩, ⟨l1, l2, zb, ?_, ⟨u', v', (but.2 _ D.TOz).trans TOa⟩, sa.1.at fun o q => (but.2 _ D.i1z).trans q, sb.1.at fun o q => (but.2 _ D.i2z).trans q⟩, fun d hd => (upd_ne (Nat.ne_of_lt (old d hd))).trans (hf d hd).1⟩
    exact (but.2 _ D.TIz).trans (keep _ _ D.TIz D.TITO D.TIi1 D.TIi2 a.ins)
  done := by
    rintro X rfl rfl rfl hc i pins s σ H E I hf ⟨m1, m2, a⟩ ⟨xs, ys, qx, qy, rfl, rfl, hend⟩
    obtain ⟨us, ru, pu, _⟩ := I.list qx
    obtain ⟨vs, rv, pv, _⟩ := I.tuple qy
    have n1 := ru.length
    have n2 := rv.length
    obtain ⟨x0, y0, out⟩ := a.out
    have hh := I.ok.hd hc
    refine wpAny_pyNext_zipD2_end (sep D) (Draws.list (A := X.A.in1) hh j l D.l1i1 us.toArray) (Draws.tuple (A := X.A.in1) hh k t D.l2i2 vs.toArray) a.zip_ a.ins out ⟨a.lst, pu.isList⟩ ⟨a.tup, pv⟩ (by rw [List.size_toArray]; omega) (by rw [List.size_toArray]; omega) (by rw [List.size_toArray, List.size_toArray]; omega) fun ha tk keep => ⟨rfl, I.turnedL (t' := tk) (ch := [z, TI, TO, j, k]) (fun c o nc g => ?_) hf⟩
    simp only [List.mem_cons, List.not_mem_nil, or_false, not_or] at nc
    exact keep c o nc.1 nc.2.2.1 nc.2.2.2.1 nc.2.2.2.2 g
  self := fun A i s Q E st h => wpAny_pyIter_zip st.2.2.zip_ h
end ZLT
namespace Z
open PySem L2 PySem.W ZLT
section
variable {K : PySem.W.Frag} {τ : T} {μ : M} {Φ : D → M → Prop} {to te : TE} {Ψ : List D → M → (M → M) → Prop}
/-- a comprehension over a list that stays in the store -/
theorem a_lcS {tt : TT} {tl : TE} {g : TG} {js : List Nat} {dec : D → List D → Prop} (hg : TgOk K g js dec)
    (h : AE K tl τ μ fun d μ1 => ∃ (a : Addr) (ds : List D) (P : Nat → List D → M → Prop), d = .ref a ∧ P 0 [] μ1 ∧ (∀ i acc μ', P i acc μ' → μ' a = some (.lst ds)) ∧
      (∀ (i : Nat) x acc μ', ds[i]? = some x → P i acc μ' → LcTurn K τ tt te js dec x acc μ' (P (i + 1))) ∧ ∀ acc μ', P ds.length acc μ' → ∀ p, μ' p = none → Φ (.ref p) (μ'.set p (.lst acc))) :
    AE K (tLc (iList K tl) g tt te js) τ μ Φ := fun σ H s c Q k => by
  refine h σ H s c _ fun d μ1 v H1 f1 c1 r1 ⟨a, ds, P, e, p0, hk, hs, hd⟩ => ?_
  subst e
  cases r1
  obtain ⟨vs0, hv0, _⟩ := c1 a _ (hk _ _ _ p0)
  have s1 := s.mono (f1.tx c)
  refine ⟨a, rfl, ⟨vs0, SqL.of hv0⟩, fun Dl hD => ?_⟩
  refine ⟨fun i m H' => m = ds.length - i ∧ i ≤ ds.length ∧ ∃ acc μ', LcAt K Dl μ1 H1 acc μ' H' ∧ P i acc μ', ⟨ds.length, by omega, Nat.zero_le _, [], μ1, lc_start c1 hD, p0⟩, ?_⟩
  rintro i m H' ⟨rfl, hi, acc, μ', L, p⟩
  obtain ⟨vs, hv, hr⟩ := L.con a _ (hk _ _ _ p)
  by_cases hlt : i < ds.length
  · refine .inr ⟨⟨vs, vs[i]'(by rw [hr.length]; exact hlt), SqL.of hv, List.getElem?_eq_getElem _⟩, fun H2 => ∃ acc2 μ2, LcAt K Dl μ1 H1 acc2 μ2 H2 ∧ P (i + 1) acc2 μ2, fun H2 ⟨acc2, μ2, L2, p2⟩ => ⟨ds.length - (i + 1), by omega, rfl, hlt, acc2, μ2, L2, p2⟩, fun v H2 y => ?_⟩
    obtain ⟨e, q⟩ := y
    subst e
    obtain ⟨x, hx, rx⟩ := hr.getV (q vs (SqL.of hv))
    exact lc_step hD hg s1 c1 L rx (hs i x acc μ' hx p) fun acc2 μ2 H3 L3 p3 => ⟨acc2, μ2, L3, p3⟩
  · obtain rfl : i = ds.length := by omega
    obtain ⟨f2, c2⟩ := lc_end hD L
    exact .inl ⟨⟨vs, SqL.of hv, by rw [hr.length]; exact Nat.le_refl _⟩, k _ _ _ H' (fun b o n e => by
      obtain ⟨e1, n1⟩ := f1 b o n e
      exact f2 b o n1 e1) c2 (.ref Dl) (hd acc μ' p Dl L.no)⟩
end
end Z
namespace ZTL
open PySem PySem.Spec PyProof.Rows L2 RZ
/-- pairs of what stands at a place of a tuple and of a list -/
def Itl (K : PySem.W.Frag) (t l : Addr) (m n : Nat) : It where
  go := fun i H => ∃ xs ys : List V, SqT K H t xs ∧ SqL K H l ys ∧ xs.length = m ∧ ys.length = n ∧ i < m ∧ i < n
  yld := fun i H v H' => ∃ p x y, v = .ref p ∧ H p = none ∧ H' = upd H p (.tup [x, y]) ∧ (∀ xs, SqT K H t xs → xs[i]? = some x) ∧ ∀ ys, SqL K H l ys → ys[i]? = some y
  stop := fun i H => ∃ xs ys : List V, SqT K H t xs ∧ SqL K H l ys ∧ xs.length = m ∧ ys.length = n ∧ (m ≤ i ∨ n ≤ i)
/-- the zip's own five objects at its turn i -/
structure At (h : Heap) (z TI TO j k t l : Addr) (i : Nat) : Prop where
  zip_ : IsZip h z TI TO .none
  ins : IsPair h TI (.ref j) (.ref k)
  out : ∃ x y, IsPair h TO x y
  tup : h.IsTupleIter j t i
  lst : h.IsListIter k l i
theorem At.there {h : Heap} {z TI TO j k t l : Addr} {i : Nat} (a : At h z TI TO j k t l i) : ∀ d ∈ [z, TI, TO, j, k], ∃ o, h.get? d = some o ∧ ∀ v, o.data ≠ .cell v := by
  obtain ⟨rec, ins, ⟨x, y, out⟩, ⟨o1, e1, _, d1⟩, ⟨o2, e2, _, d2⟩⟩ := a
  intro d hd
  simp only [List.mem_cons, List.not_mem_nil, or_false] at hd
  rcases hd with rfl | rfl | rfl | rfl | rfl
  · exact ⟨_, rec, nofun⟩
  · exact ⟨_, ins, nofun⟩
  · exact ⟨_, out, nofun⟩
  · exact ⟨o1, e1, fun v q => nomatch d1.symm.trans q⟩
  · exact ⟨o2, e2, fun v q => nomatch d2.symm.trans q⟩
theorem sep {z TI TO j k t l : Addr} (D : ZipApart z TI TO j k t l) : ZipSep2 z TI TO j k [j, t] [k, l] := by
  have no : ∀ {x y u : Addr}, x ≠ y → x ≠ u → x ∉ [y, u] := fun h g e => (List.mem_cons.mp e).elim h fun e => g (List.mem_singleton.mp e)
  exact { TIz := D.TIz, TOz := D.TOz, TITO := D.TITO, TIi1 := D.TIi1, TIi2 := D.TIi2, mem1 := List.mem_cons_self, mem2 := List.mem_cons_self
          zf1 := no D.i1z.symm D.l1z.symm, zf2 := no D.i2z.symm D.l2z.symm, Tf1 := no D.TOi1 D.l1TO.symm, Tf2 := no D.TOi2 D.l2TO.symm
          sep1_2 := no D.i12 D.l2i1.symm, sep2_1 := no D.i12.symm D.l1i2.symm }
theorem turn {P : Program} {w : World} {K : PySem.W.Frag} {elts : List Expr} {kk : Nat} {tpos : Pos} {t l z TI TO j k : Addr} {m n : Nat} (D : ZipApart z TI TO j k t l) :
    Turn P w K (.Tuple elts kk tpos) (Itl K t l m n) [z, TI, TO, j, k] z (fun i h => i ≤ m ∧ i ≤ n ∧ At h z TI TO j k t l i) where
  mem := List.mem_cons_self
  obj := fun i h ⟨_, _, a⟩ => a.there
  keep := fun i h h' ⟨m1, m2, a⟩ s => by
    obtain ⟨x, y, out⟩ := a.out
    exact ⟨m1, m2, s z (by simp) _ a.zip_, s TI (by simp) _ a.ins, ⟨x, y, s TO (by simp) _ out⟩, a.tup.at fun o q => s j (by simp) o q, a.lst.at fun o q => s k (by simp) o q⟩
  item := by
    rintro X rfl rfl rfl hc i pins s σ H E I hf ⟨_, _, a⟩ ⟨xs, ys, qx, qy, rfl, rfl, l1, l2⟩
    have old : ∀ d ∈ [z, TI, TO, j, k], d < s.heap.objs.size := fun d hd => let ⟨_, g, _⟩ := a.there d hd; Heap.lt_size g
    obtain ⟨us, ru, pu, _⟩ := I.tuple qx
    obtain ⟨vs, rv, pv, _⟩ := I.list qy
    have n1 := ru.length
    have n2 := rv.length
    obtain ⟨x0, y0, out⟩ := a.out
    have hh := I.ok.hd hc
    have fin : ∀ {L : List Value} {b : Value}, L.toArray[i]? = some b → L[i]? = some b := fun {L b} e => by rw [List.getElem?_toArray] at e; exact e
    refine wpAny_pyNext_zipD2_item (sep D) (Draws.tuple (A := X.A.in1) hh j t D.l1i1 us.toArray) (Draws.list (A := X.A.in1) hh k l D.l2i2 vs.toArray) a.zip_ a.ins out ⟨a.tup, pu⟩ ⟨a.lst, pv.isList⟩ (by rw [List.size_toArray]; omega) (by rw [List.size_toArray]; omega) fun u v ha tk gu gv za TOa sa sb Ta _ keep => ⟨_, rfl, wpAny_letOwnedTupleGo_zip (s := { s with heap := ha, toks := tk }) za fun hb zb but => ?_⟩
    have lz := old z List.mem_cons_self
    obtain ⟨x, hx⟩ : ∃ x, xs[i]? = some x := ⟨_, List.getElem?_eq_getElem l1⟩
    obtain ⟨y, hy⟩ : ∃ y, ys[i]? = some y := ⟨_, List.getElem?_eq_getElem l2⟩
    obtain ⟨u', hu, rx⟩ := ru.get hx
    obtain ⟨v', hv, ry⟩ := rv.get hy
    obtain rfl : u' = u := Option.some.inj (hu.symm.trans (fin gu))
    obtain rfl : v' = v := Option.some.inj (hv.symm.trans (fin gv))
    have I1 := I.turnedNew (t' := tk) (ob := .tup [x, y]) (ch := [z, TI, TO, j, k]) (fun c o nc g => by
      simp only [List.mem_cons, List.not_mem_nil, or_false, not_or] at nc
      exact (but.2 c nc.1).trans (keep c o nc.1 nc.2.2.1 nc.2.2.2.1 nc.2.2.2.2 g)) hf (Nat.le_refl _) ⟨by show 2 ≤ sizeLine; decide, [u', v'], .cons rx (.cons ry .nil), ⟨_, (but.2 _ (Nat.ne_of_gt lz)).trans Ta, rfl, _, rfl⟩⟩
    refine ⟨.ref s.heap.objs.size, _, I1, rfl, ⟨_, x, y, rfl, I.hok.fresh (Nat.le_refl _), rfl, fun l hl => I.tuple_inj qx hl ▸ hx, fun l hl => I.list_inj qy hl ▸ hy⟩, ⟨l1, l2, zb, ?_, ⟨u', v', (but.2 _ D.TOz).trans TOa⟩, sa.1.at fun o q => (but.2 _ D.i1z).trans q, sb.1.at fun o q => (but.2 _ D.i2z).trans q⟩, fun d hd => (upd_ne (Nat.ne_of_lt (old d hd))).trans (hf d hd).1⟩
    exact (but.2 _ D.TIz).trans (keep _ _ D.TIz D.TITO D.TIi1 D.TIi2 a.ins)
  done := by
    rintro X rfl rfl rfl hc i pins s σ H E I hf ⟨m1, m2, a⟩ ⟨xs, ys, qx, qy, rfl, rfl, hend⟩
    obtain ⟨us, ru, pu, _⟩ := I.tuple qx
    obtain ⟨vs, rv, pv, _⟩ := I.list qy
    have n1 := ru.length
    have n2 := rv.length
    obtain ⟨x0, y0, out⟩ := a.out
    have hh := I.ok.hd hc
    refine wpAny_pyNext_zipD2_end (sep D) (Draws.tuple (A := X.A.in1) hh j t D.l1i1 us.toArray) (Draws.list (A := X.A.in1) hh k l D.l2i2 vs.toArray) a.zip_ a.ins out ⟨a.tup, pu⟩ ⟨a.lst, pv.isList⟩ (by rw [List.size_toArray]; omega) (by rw [List.size_toArray]; omega) (by rw [List.size_toArray, List.size_toArray]; omega) fun ha tk keep => ⟨rfl, I.turnedL (t' := tk) (ch := [z, TI, TO, j, k]) (fun c o nc g => ?_) hf⟩
    simp only [List.mem_cons, List.not_mem_nil, or_false, not_or] at nc
    exact keep c o nc.1 nc.2.2.1 nc.2.2.2.1 nc.2.2.2.2 g
  self := fun A i s Q E st h => wpAny_pyIter_zip st.2.2.zip_ h
end ZTL
namespace Z
open PySem L2 PySem.W ZTL
end Z
namespace ZQ
open PySem PySem.Spec PyProof.Rows L2
section
variable {X : Cx} {pins : List (Addr × Obj)} {σ : L2.St} {H : Hp} {s s' : Shared} {W : WX} {E : XK}
/-- what a call has let out, in the air of X, not yet noted here -/
def XF (X : Cx) (W : WX) (u : Value) (s' : Shared) : Prop :=
  ∃ (a : Addr) (B : Heap) (sI : Shared) (pins : List (Addr × Obj)) (σ : L2.St) (H : Hp) (cls : Value) (d : Option Addr),
    u = .ref a ∧ Inv X pins σ H sI ∧ (∀ b o, sI.heap.get? b = some o → b ∉ frs X.stack → B.get? b = some o) ∧ sI.heap.UpToSlots s'.heap ∧
      HandSPX.FlyingZ B X.stack a (Zc cls d) s'.heap ∧ H a = none ∧ s'.os = sI.os ∧ AllBare s'.gens ∧ W cls d σ H
theorem XF.of_call (I : Inv X pins σ H s) (hW : ∀ cls d H', E cls d H' → W cls d σ H') {u : Value} (c : L2.CX X.prog X.w X.stack H s E u s') : XF X W u s' := by
  refine Hold.out ?_
  simp (disch := (
  refine Hold.as ?_
  with_unfolding_all (
  obtain ⟨a, B, H', cls, d, rfl, fl, hok, ub, na, os, ag, hE⟩ := c
  obtain ⟨G, g1, g2⟩ := L2.restrict s'.heap fun b => (B.get? b).isSome || decide (b ∈ frs X.stack)
  have st : B.StaysIn s'.heap := fl.1
  have gB : ∀ b o, B.get? b = some o → G.get? b = some o := fun b o e => by
    rw [g1 b (by simp [e])]
    exact st b o e
  have gF : ∀ b, b ∈ frs X.stack → G.get? b = s'.heap.get? b := fun b hb => g1 b (by simp [hb])
  have og : ∀ b o, G.get? b = some o → s'.heap.get? b = some o ∧ ((B.get? b).isSome = true ∨ b ∈ frs X.stack) := fun b o e => by
    cases q : ((B.get? b).isSome || decide (b ∈ frs X.stack)) with
    | false => rw [g2 b q] at e; cases e
    | true =>
      rw [g1 b q] at e
      exact ⟨e, by simpa [Bool.or_eq_true] using q⟩
  refine ⟨a, B, { s with heap := G, gens := s'.gens, drawn := s'.drawn, toks := s'.toks }, pins, σ, H', cls, d, rfl, ?_, fun b o e hb => ?_, Heap.UpToSlots.of_keeps fun b o e => (og b o e).1, fl, na, os, ag, hW _ _ _ hE⟩
  · refine I.call (ch := []) ⟨fun b o e n hb _ => gB b o (ub.keep b o e n hb), fun b o e n hb _ => ?_, fun b o e n _ => ub.free b o e n, fun b o e _ => ?_, ub.tups, ub.frzs, ub.tbls⟩ (hok.kept gB) ag (fun _ z => nomatch z)
    · obtain ⟨sl, q⟩ := ub.slot b o e hb
      exact ⟨sl, by rw [gF b hb]; exact q⟩
    · by_cases hb : b ∈ frs X.stack
      · obtain ⟨sl, q⟩ := ub.slot b o e hb
        exact ⟨_, by rw [gF b hb]; exact q⟩
      · obtain ⟨o', q⟩ := ub.there b o e hb
        exact ⟨o', gB b o' q⟩
  · obtain ⟨e', h⟩ := og b o e
    rcases h with h | h
    · obtain ⟨o', q⟩ := Option.isSome_iff_exists.mp h
      have z := st b o' q
      rw [e'] at z; cases z
      exact q
    · exact absurd h hb))) only [↓Hold.on]
theorem fun_less {h B B' : Heap} (hb : ∀ b, B.get? b = none → B'.get? b = none) : ∀ {l : List Env}, h.FunFrames B l → h.FunFrames B' l
  | [], _ => trivial
  | _ :: _, ⟨hk, ⟨L', o, hf, hn, ho, hd⟩, hr⟩ => ⟨hk, ⟨L', o, hf, hb _ hn, ho, hd⟩, fun_less hb hr⟩
/-- out of the block, into the def's air -/
theorem fails {X : Cx} {W : WX} {xe : Value → Shared → Prop} {s3 : Shared} {H3 : Hp} {scope : Scope} {ce : Env} {fp : List Addr} {pins : List (Addr × Obj)} {σ : L2.St} {u : Value} {s' : Shared} (hs : X.stack = X.env :: X.outer) (hf : X.env.frame = some X.env.locals) (tk : L2.Takes X W)
    (hW : ∀ c d σ1 σ2 H, W c d σ1 H → W c d σ2 H) (I3 : Inv X pins σ H3 s3) (f3 : ∀ b ∈ fp, FpOk X pins H3 b) (cf : ce.frame = X.env.frame) (cL : ce.locals = s3.heap.objs.size)
    (x : XF ((X.blk s3 H3 scope ce fp).wish xe) W u s') : notedBy (model X.prog X.w) X.A ce (CompFails (model X.prog X.w) X.A X.xe ce) u s' := by
  refine Hold.out ?_
  simp (disch := (
  refine Hold.as ?_
  with_unfolding_all (
  obtain ⟨a, B, sI, pins', σ', H', cls, d, rfl, I, nb, up, fl, na, os, ag, w⟩ := x
  have nb : ∀ b o, sI.heap.get? b = some o → b ∉ frs X.stack → B.get? b = some o := nb
  have fl : HandSPX.FlyingZ B X.stack a (Zc cls d) s'.heap := fl
  show wpAny _ _ (noteFrame (.ref a) ce) _ _ _
  rw [noteFrame_env _ cf]
  rw [hs] at fl
  have hfr : X.A.frames = some (X.env :: X.outer) := by rw [I3.ok.frames, hs]
  refine HandSPX.looks_onZ Zc.steady hfr hf fl fun h1 hh up1 => ?_
  have J : Inv X pins σ H' sI := I3.call' (ch := fp) I.os I.base I.hok I.bare fun b hb => ⟨(f3 b hb).2.2.2.1, (f3 b hb).2.1, (f3 b hb).2.2.2.2.1, (f3 b hb).2.2.2.2.2⟩
  have nC : H' s3.heap.objs.size = none := by
    have z : H' ce.locals = none := I.free
    rw [cL] at z
    exact z
  obtain ⟨m, hn, _⟩ := I.loc
  have hn : sI.heap.Ns ce.locals m := hn
  rw [cL] at hn
  obtain ⟨f0, f1, f2, f4, f5, f6⟩ := I3.fpOk (Nat.le_refl _) nC
  show CompFails _ _ _ ce (.ref a) { s' with heap := h1 }
  unfold CompFails
  rw [cL]
  have hn1 : h1.Ns s3.heap.objs.size m := (up.trans up1).ns hn
  refine ⟨m, hn1, fun h2 m2 hn2 sb => ?_⟩
  have sb : Heap.SameBut s3.heap.objs.size h1 h2 := sb
  have hn2 : h2.Ns s3.heap.objs.size m2 := hn2
  generalize s3.heap.objs.size = C at *
  obtain ⟨k1, k0, kf, oe, vs, T, oT, ts, he, hz, hd, hv, hnT, hTe, hT, hdT, h3⟩ := hh
  obtain ⟨oC, es, ep, hoC, hdC, _⟩ := hn1
  have neE : a ≠ C := fun q => by
    rw [q, hoC] at he
    rw [← Option.some.inj he, hdC] at hd
    cases hd
  have neT : T ≠ C := fun q => by
    rw [q, hoC] at hT
    rw [← Option.some.inj hT, hdC] at hdT
    cases hdT
  have less : ∀ b, B.get? b = none → (PySem.W.hideAll B [C]).get? b = none := fun b e => by
    cases q : (PySem.W.hideAll B [C]).get? b with
    | none => rfl
    | some o => rw [PySem.W.of_hideAll _ q] at e; cases e
  have apart : ∀ {h : Heap} {b : Addr} {o : Obj}, (PySem.W.hideAll h [C]).get? b = some o → b ≠ C := fun {h b o} e z => by
    rw [z, PySem.W.hideAll_none [C] (List.mem_singleton.mpr rfl)] at e; cases e
  have held : HandSPX.HeldZ (PySem.W.hideAll B [C]) (X.env :: X.outer) a (Zc cls d) X.env.locals h2 := by
    refine ⟨fun b o e => (sb.2 b (apart e)).trans (k1 b o (PySem.W.of_hideAll _ e)), less _ k0, ?_, oe, vs, T, oT, ts, (sb.2 a neE).trans he, hz, hd, hv, less _ hnT, hTe, (sb.2 T neT).trans hT, hdT, h3⟩
    exact fun_less less (Heap.FunFrames.sameBut sb hn2 kf)
  unfold PySem.passOn
  refine wpAny_bind (wpAny_field ((sb.2 a neE).trans he) hd hv ?_)
  rw [if_neg (show ¬ ((Value.ref T == Value.none) = true) from by simp), cf, hf]
  refine wpAny_bind (HandSPX.setFlight_onZ held fun h4 hh4 up4 => wpAny_throw ?_)
  have K1 := J.turned (h' := PySem.W.hideAll sI.heap [C]) (t' := sI.toks) (it := C) (fun b o hb e => PySem.W.hideAll_get _ e (by simpa using hb)) nC f1 f4 f5 f6
  refine tk _ _ ⟨a, PySem.W.hideAll B [C], { sI with heap := PySem.W.hideAll sI.heap [C] }, pins, σ, H', cls, d, rfl, K1, fun b o e hb => ?_, ?_, ?_, na, os, ag, hW _ _ _ _ _ w⟩
  · exact PySem.W.hideAll_get _ (nb b o (PySem.W.of_hideAll _ e) hb) (by simpa using apart e)
  · intro b o e hnf
    obtain ⟨sl, e1⟩ := (up.trans up1) b o (PySem.W.of_hideAll _ e) hnf
    obtain ⟨sl2, e2⟩ := up4 b _ ((sb.2 b (apart e)).trans e1) hnf
    exact ⟨sl2, e2⟩
  · rw [hs]
    exact .inr (.inr hh4)))) only [↓Hold.on]
/-- [elt for target in iter if ..], elt a call that may raise -/
theorem pe_lcX {X : Cx} {W : WX} {elt tg iter : Expr} {ifs : List Expr} {scope : Scope} {own : List (PySem.Str × Nat)} {pos : Pos} {wi : TI} {g : TG} {tt : TT} {te : TE} (hc : X.calm = true) (hs : X.stack = X.env :: X.outer) (hf : X.env.frame = some X.env.locals) (tk : L2.Takes X W)
    (hW : ∀ c d σ1 σ2 H, W c d σ1 H → W c d σ2 H) (hN : X.N.Nodup) (hi : PI X tg iter wi) (ok : BlkOk X.N X.env.scope scope own)
    (hg : ∀ (s : Shared) (H : Hp) (C : Addr) (cl : List (PySem.Str × Addr)) (fp : List Addr), PG (X.blk s H scope (compEnvC scope cl C X.env) fp) tg g) (ht : ∀ (s : Shared) (H : Hp) (C : Addr) (cl : List (PySem.Str × Addr)) (fp : List Addr), PTs (X.blk s H scope (compEnvC scope cl C X.env) fp) ifs tt)
    (he : ∀ (s : Shared) (H : Hp) (C : Addr) (cl : List (PySem.Str × Addr)) (fp : List Addr) (xe : Value → Shared → Prop), (∀ σ, PassesAt (L2.CX X.prog X.w) ((X.blk s H scope (compEnvC scope cl C X.env) fp).wish xe) σ (WE W σ)) → PE ((X.blk s H scope (compEnvC scope cl C X.env) fp).wish xe) elt te)
    (hfs : ∀ x, foldedSetIterable iter X.env x = pure x := by intro _; rfl) :
    PE X (.ListComp elt [⟨tg, iter, ifs, 0⟩] scope pos) (tLc wi g tt te (own.map (·.2))) := by
  refine ⟨fun pins s σ H Q I h => ?_⟩
  rw [eval_ListComp]
  have hfree : ∀ y ∈ scope.names, y.2 = .free → ∃ c, X.env.cells.lookup y.1 = some c := fun y hy e => by
    rcases ok.free y hy e with k | k
    · exact I.ok.has _ (.inl k)
    · exact I.ok.has _ (.inr k)
  refine comprehension_at (use := none) rfl hfs (closure_ok hfree) ok.kind (fun y hy e => by rw [ok.uniq y hy, e])
    (thn (hi.run pins s σ H _ I h) fun xv s1 hx => thn hx fun itv s2 h2 => ?_)
  obtain ⟨it, fp, tn, J, H2, e, I2, T, st2, f2, q⟩ := h2
  subst e
  refine wpAny_newObj_type (newEnv_comp ?_) (by show 0 ≤ sizeLine; decide)
  generalize hD : s2.heap.objs.size = D
  have hDn : H2 D = none := I2.hok.fresh (Nat.le_of_eq hD)
  obtain ⟨W0, ⟨m0, w0⟩, turn⟩ := q D hDn
  generalize hs3 : ({ s2 with heap := s2.heap.push { cls := .type "list", data := .seq ([] : List Value).toArray } } : Shared) = s3
  have I3 : Inv X pins σ (upd H2 D (.lst [])) s3 := by
    rw [← hs3]
    refine I2.laid (t' := s2.toks) (fun b o e => Heap.get?_push_of_some _ e) (Nat.le_of_eq hD) ⟨Nat.zero_le _, [], 0, .nil, ?_⟩
    rw [← hD]
    exact Heap.get?_push_size _ rfl
  have h3 : s3.heap = s2.heap.push { cls := .type "list", data := .seq ([] : List Value).toArray } := by rw [← hs3]
  have sz : ∀ b ∈ fp, b < s2.heap.objs.size := fun b hb => by
    obtain ⟨o, e, _⟩ := T.obj _ _ st2 b hb
    exact Heap.lt_size e
  have f3 : ∀ b ∈ fp, FpOk X pins (upd H2 D (.lst [])) b ∧ b < s3.heap.objs.size := fun b hb => by
    have hlt := sz b hb
    refine ⟨⟨?_, (f2 b hb).2⟩, by rw [h3, Heap.size_push]; exact Nat.lt_succ_of_lt hlt⟩
    rw [upd_ne (by rw [← hD]; exact Nat.ne_of_lt hlt)]
    exact (f2 b hb).1
  have st3 : tn 0 s3.heap := T.keep _ _ _ st2 fun b _ o e => by rw [h3]; exact Heap.get?_push_of_some _ e
  have I4 := block_start I3 ok hN f3
  have pg := hg s3 (upd H2 D (.lst [])) s3.heap.objs.size (cellsFrom (s3.heap.objs.size + 1) scope.names (cloFrom X.env.cells scope.names [])) fp
  have pt := ht s3 (upd H2 D (.lst [])) s3.heap.objs.size (cellsFrom (s3.heap.objs.size + 1) scope.names (cloFrom X.env.cells scope.names [])) fp
  have pe := he s3 (upd H2 D (.lst [])) s3.heap.objs.size (cellsFrom (s3.heap.objs.size + 1) scope.names (cloFrom X.env.cells scope.names [])) fp
  show codeAny _ _ (.compStart (.ListComp elt [⟨tg, iter, ifs, 0⟩] scope pos) 0 (.ref it) (.ref D) (compEnvC scope (cellsFrom (s3.heap.objs.size + 1) scope.names (cloFrom X.env.cells scope.names [])) s3.heap.objs.size X.env)) (compEnds (model X.prog X.w) X.A X.xe none (EP X pins σ Q) (.ref D) (compEnvC scope (cellsFrom (s3.heap.objs.size + 1) scope.names (cloFrom X.env.cells scope.names [])) s3.heap.objs.size X.env)) { s3 with heap := pushCells (s3.heap.push { cls := .type "dict", data := .dict #[] }) scope.names }
  have nfp : ∀ b ∈ fp, (upd H2 D (.lst [])) b = none := fun b hb => (f3 b hb).1.1
  have cf0 : (compEnvC scope (cellsFrom (s3.heap.objs.size + 1) scope.names (cloFrom X.env.cells scope.names [])) s3.heap.objs.size X.env).frame = X.env.frame := rfl
  generalize hce : compEnvC scope (cellsFrom (s3.heap.objs.size + 1) scope.names (cloFrom X.env.cells scope.names [])) s3.heap.objs.size X.env = ce at I4 pg pt pe cf0 ⊢
  have cL : ce.locals = s3.heap.objs.size := by subst hce; rfl
  generalize hH3 : upd H2 D (.lst []) = H3 at I3 I4 pg pt pe w0 nfp f3
  generalize hs4 : ({ s3 with heap := pushCells (s3.heap.push { cls := .type "dict", data := .dict #[] }) scope.names } : Shared) = s4 at I4 ⊢
  have st4 : tn 0 s4.heap := T.keep _ _ _ st3 fun b _ o e => by rw [← hs4]; exact pushCells_keeps _ _ _ _ (Heap.get?_push_of_some _ e)
  have stat : ∀ {σ' : L2.St} {H' : Hp} {s' : Shared}, Inv (X.blk s3 H3 scope ce fp) [] σ' H' s' → (∀ b ∈ fp, H' b = none) → ∀ b ∈ fp, FpOk (X.blk s3 H3 scope ce fp) [] H' b := fun {σ' H' s'} I' hn b hb =>
    ⟨hn b hb, (I'.ok.exf b hb).1, I'.ok.exfs b hb, .inl hb, fun x c e => (I'.ok.exf b hb).2 x c e, fun p hp => absurd (show p ∈ ([] : List (Addr × Obj)) ++ [] from hp) (by simp)⟩
  have pe := pe (notedBy (model X.prog X.w) X.A ce (CompFails (model X.prog X.w) X.A X.xe ce)) fun σ' pins' H' s' e s'' I' c =>
    fails hs hf tk hW I3 (fun b hb => (f3 b hb).1) cf0 cL (XF.of_call I' (fun _ _ _ h => h) c)
  have loop : codeAny (model X.prog X.w) X.A (.compLoop (.ListComp elt [⟨tg, iter, ifs, 0⟩] scope pos) 0 (.ref it) (.ref D) ce) (compEnds (model X.prog X.w) X.A X.xe none (EP X pins σ Q) (.ref D) ce) s4 := by
    refine compLoop_any (fun n s' => ∃ i H', Inv (X.blk s3 H3 scope ce fp) [] (wipe σ (own.map (·.2))) H' s' ∧ tn i s'.heap ∧ (∀ b ∈ fp, H' b = none) ∧ W0 i n H') ?_ m0 ⟨0, H3, I4, st4, nfp, w0⟩
    rintro n s5 ⟨i, H5, I5, st5, n5, w5⟩
    rcases turn i n H5 w5 with ⟨stop, qq⟩ | ⟨go, Nx, hNx, step⟩
    · have td := T.done (X.blk s3 H3 scope ce fp) rfl rfl rfl hc i [] s5 _ H5 (fun _ _ => False) I5 (stat I5 n5) st5 stop
      refine thnF td fun r s6 ⟨hr, I6⟩ => ?_
      subst hr
      have I7 : Inv X pins σ H5 s6 := I3.call' (ch := fp) I6.os I6.base I6.hok I6.bare fun b hb => ⟨(f3 b hb).1.2.2.2.1, (f3 b hb).1.2.1, (f3 b hb).1.2.2.2.2.1, (f3 b hb).1.2.2.2.2.2⟩
      have nC : H5 s3.heap.objs.size = none := by
        have z : H5 ce.locals = none := I6.free
        rw [cL] at z
        exact z
      obtain ⟨m, hn, _⟩ := I6.loc
      have hn : s6.heap.Ns ce.locals m := hn
      obtain ⟨c0, c1, c2, c3, c4, c5⟩ := I3.fpOk (Nat.le_refl _) nC
      refine ⟨m, hn, fun h'' sb => ?_⟩
      rw [cL] at sb
      exact ⟨.ref D, H5, I7.turned (t' := s6.toks) (fun b o hb e => (sb.2 b hb).trans e) c0 c1 c3 c4 c5, rfl, qq⟩
    · have ti := T.item (X.blk s3 H3 scope ce fp) rfl rfl rfl hc i [] s5 _ H5 (fun _ _ => False) I5 (stat I5 n5) st5 go
      refine thnF ti fun r s6 ⟨u, hr, h6⟩ => ?_
      subst hr
      refine thnF h6 fun _ s7 ⟨x, H7, I7, r7, y7, st7, n7⟩ => ?_
      have I7' := I7.pinned (stat I7 n7) (T.obj _ _ st7)
      refine thnF (pg.run _ s7 _ H7 x u _ I7' r7 (step x H7 y7)) fun _ s8 ⟨σ8, H8, I8, hw8, q8⟩ => ?_
      refine thnF (pt.run _ s8 σ8 H8 _ I8 q8) fun b s9 ⟨H9, I9, q9⟩ => ?_
      have fin : ∀ {s' : Shared} {H' : Hp}, Inv (X.blk s3 H3 scope ce fp) ([] ++ pinsAt fp s7.heap) σ8 H' s' → Nx H' → ∃ m, m < n ∧ ∃ i H', Inv (X.blk s3 H3 scope ce fp) [] (wipe σ (own.map (·.2))) H' s' ∧ tn i s'.heap ∧ (∀ b ∈ fp, H' b = none) ∧ W0 i m H' := fun {s' H'} I' nx => by
        obtain ⟨m', hm, w'⟩ := hNx H' nx
        have pin' : ∀ b ∈ fp, ∀ o, s7.heap.get? b = some o → s'.heap.get? b = some o ∧ H' b = none := fun b hb o e =>
          let z := I'.pin (b, o) (List.mem_append_right _ (List.mem_append_right _ (mem_pinsAt hb e)))
          ⟨z.1, z.2.1⟩
        have hl : (wipe σ (own.map (·.2))).length = σ8.length := by rw [← hw8, wipe_length]
        refine ⟨m', hm, i + 1, H', (I'.unpinned (pins := [])).weak hl (fun j v e => ?_), T.keep _ _ _ st7 fun b hb o e => (pin' b hb o e).1, fun b hb => ?_, w'⟩
        · rw [← hw8] at e
          exact (wipe_some e).1
        · obtain ⟨o, e, _⟩ := T.obj _ _ st7 b hb
          exact (pin' b hb o e).2
      cases b with
      | false =>
        simp only [Bool.false_eq_true, if_false] at q9 ⊢
        exact fin I9 q9
      | true =>
        simp only [if_true] at q9 ⊢
        refine thn (pe.run _ s9 σ8 H9 _ (I9.wish _) q9) fun z s10 ⟨yv, H10, I10, r10, acc, hD10, hz10, nx⟩ => ?_
        exact app_ok (X := X.blk s3 H3 scope ce fp) I10.unwish hD10 hz10 r10 fun s11 I11 => fin I11 nx
  exact codeAny_compStart_list loop (T.self X.A 0 _ _ _ st4 loop)
/-- a def called there -/
theorem pe_callB {X : Cx} {W : WX} {x : Str} {ps : List Str} {k : Nat} {sp : Sp} {e : Expr} {es : List Expr} {t : TA} {p pos : Pos} (hp : ∀ σ, PassesAt (L2.CX X.prog X.w) X σ (WE W σ)) (G : Z.DefX X.prog X.w X.K X.mg X.base x ps k sp) (hr : Room k X.A) (hg : Gl X x)
    (ha : PA X (e :: es) t) (hdb : (x == ("__debug__" : Str)) = false := by decide) (he : starEach (e :: es) X.env = (false, eval e X.env) :: starEach es X.env := by rfl) (hpl : (backTo pos (starEach es X.env)).any (·.1) = false := by rfl) :
    PE X (.Call (.Name x p) (e :: es) [] pos) (tCallS sp (WE W) t) := by
  obtain ⟨f, fd, F, hm, hk, hb⟩ := G.ex
  exact pe_callS F hr hg hm hk hb hp ha hdb he hpl
end
end ZQ
namespace Z
open PySem L2
section
variable {K : PySem.W.Frag} {τ : T} {μ μ1 μ2 : M} {H H1 H2 H' : Hp} {σ : L2.St} {Φ : D → M → Prop} {te : TE} {tt : TT} {N : AEnds} {g : TG} {wi : TI} {x : D}
/-- what a turn of a comprehension must show, its element a call that may raise -/
def LcTurnX (K : PySem.W.Frag) (N : AEnds) (back : M → M) (τ : T) (tt : TT) (te : TE) (js : List Nat) (dec : D → List D → Prop) (x : D) (acc : List D) (μ : M) (P : List D → M → Prop) : Prop :=
  ∃ xs, dec x xs ∧ xs.length = js.length ∧ AT K tt (sets τ js xs) μ fun b μ1 => if b = true then AEX K te (sets τ js xs) μ1 { N with xs := fun x dx _ μ' => N.xs x dx τ (back μ') } fun y μ2 => acc.length < sizeLine ∧ P (acc ++ [y]) μ2 else P acc μ1
theorem lc_stepX {js : List Nat} {dec : D → List D → Prop} {back : M → M} {Dl : Addr} {μ0 μ' : M} {H0 : Hp} {acc : List D} {P : List D → M → Prop} {Nx : Hp → Prop} {v : V} (hD : H0 Dl = none) (hg : TgOk K g js dec) (s : Slots K H0 τ σ) (c0 : Z.Con K H0 μ0) (L : LcAt K Dl μ0 H0 acc μ' H') (rx : Rel K H' v x) (ht : LcTurnX K N back τ tt te js dec x acc μ' P)
    (kx : ∀ x dx μ' cls H' σb, N.cn x = some cls → Fr μ0 μ' H0 H' → Z.Con K H' μ' → N.xs x dx τ (back μ') → N.W cls dx σb H')
    (hn : ∀ acc2 μ2 H2, LcAt K Dl μ0 H0 acc2 μ2 H2 → P acc2 μ2 → Nx H2) :
    g v (wipe σ js) H' fun σ2 H2 => wipe σ2 js = wipe σ js ∧ tt σ2 H2 fun b H3 => if b = true then te σ2 H3 fun y H4 => ∃ acc, H4 Dl = some (.lst acc) ∧ acc.length < sizeLine ∧ Nx (upd H4 Dl (.lst (acc ++ [y]))) else Nx H3 := by
  obtain ⟨xs, hd, hl, ht⟩ := ht
  obtain ⟨vs0, hv0, hr0⟩ := L.at_
  refine hg x xs v _ H' hd rx _ fun vs hvs => ⟨by rw [wipe_sets (fun _ h => h), wipe_wipe], ?_⟩
  have s' : Slots K H' (sets τ js xs) (sets (wipe σ js) js vs) := slots_block (s.mono (L.fr.tx c0)) hvs hl
  refine ht _ H' s' L.con _ fun b μ1 H1 f1 c1 p => ?_
  have n1 : μ1 Dl = none := (f1 Dl _ L.no hv0).2
  have h1 : H1 Dl = some (.lst vs0) := (f1 Dl _ L.no hv0).1
  cases b with
  | false => exact hn acc μ1 H1 ⟨L.fr.trans f1, c1, n1, vs0, h1, Rels.mono (f1.tx L.con) _ _ hr0⟩ p
  | true =>
    refine (show AEX K te _ μ1 _ _ from p) _ H1 (s'.mono (f1.tx L.con)) c1 _ (fun y μ2 w H2 f2 c2 r2 ⟨hz, p2⟩ => ?_) fun x1 x2 x3 x4 x5 x6 x7 x8 x9 => kx x1 x2 x3 x4 x5 _ x6 ((L.fr.trans f1).trans x7) x8 x9
    have n2 : μ2 Dl = none := (f2 Dl _ n1 h1).2
    have h2 : H2 Dl = some (.lst vs0) := (f2 Dl _ n1 h1).1
    have hr2 : Rels K H2 vs0 acc := Rels.mono ((f1.trans f2).tx L.con) _ _ hr0
    obtain ⟨t3, c3⟩ := upd_out (o := .lst (vs0 ++ [w])) c2 n2 h2 (fun _ z => by cases z)
    refine ⟨vs0, h2, by rw [hr0.length]; exact hz, hn _ μ2 _ ⟨fun a o n e => ?_, c3, n2, _, upd_same, Rels.mono t3 _ _ (hr2.append (.cons r2 .nil))⟩ p2⟩
    have f := (L.fr.trans f1).trans f2
    obtain ⟨e2, m2⟩ := f a o n e
    exact ⟨by rw [upd_ne (ne_of_none e hD)]; exact e2, m2⟩
/-- the same over a list that stays in the store -/
theorem x_lcS {tl : TE} {js : List Nat} {dec : D → List D → Prop} (hg : TgOk K g js dec) (hW : ∀ c d σ1 σ2 H, N.W c d σ1 H → N.W c d σ2 H)
    (h : AE K tl τ μ fun d μ1 => ∃ (a : Addr) (ds : List D) (P : Nat → List D → M → Prop), d = .ref a ∧ P 0 [] μ1 ∧ (∀ i acc μ', P i acc μ' → μ' a = some (.lst ds)) ∧
      (∀ (i : Nat) x acc μ', ds[i]? = some x → P i acc μ' → LcTurnX K N id τ tt te js dec x acc μ' (P (i + 1))) ∧ ∀ acc μ', P ds.length acc μ' → ∀ p, μ' p = none → Φ (.ref p) (μ'.set p (.lst acc))) :
    AEX K (tLc (iList K tl) g tt te js) τ μ N Φ := fun σ H s c Q k kx => by
  refine h σ H s c _ fun d μ1 v H1 f1 c1 r1 ⟨a, ds, P, e, p0, hk, hs, hd⟩ => ?_
  subst e
  cases r1
  obtain ⟨vs0, hv0, _⟩ := c1 a _ (hk _ _ _ p0)
  have s1 := s.mono (f1.tx c)
  refine ⟨a, rfl, ⟨vs0, SqL.of hv0⟩, fun Dl hD => ?_⟩
  refine ⟨fun i m H' => m = ds.length - i ∧ i ≤ ds.length ∧ ∃ acc μ', LcAt K Dl μ1 H1 acc μ' H' ∧ P i acc μ', ⟨ds.length, by omega, Nat.zero_le _, [], μ1, lc_start c1 hD, p0⟩, ?_⟩
  rintro i m H' ⟨rfl, hi, acc, μ', L, p⟩
  obtain ⟨vs, hv, hr⟩ := L.con a _ (hk _ _ _ p)
  by_cases hlt : i < ds.length
  · refine .inr ⟨⟨vs, vs[i]'(by rw [hr.length]; exact hlt), SqL.of hv, List.getElem?_eq_getElem _⟩, fun H2 => ∃ acc2 μ2, LcAt K Dl μ1 H1 acc2 μ2 H2 ∧ P (i + 1) acc2 μ2, fun H2 ⟨acc2, μ2, L2, p2⟩ => ⟨ds.length - (i + 1), by omega, rfl, hlt, acc2, μ2, L2, p2⟩, fun v H2 y => ?_⟩
    obtain ⟨e, q⟩ := y
    subst e
    obtain ⟨x, hx, rx⟩ := hr.getV (q vs (SqL.of hv))
    exact lc_stepX hD hg s1 c1 L rx (hs i x acc μ' hx p) (fun x1 x2 x3 x4 x5 x6 x7 x8 x9 x10 => hW _ _ _ _ _ (kx x1 x2 x3 x4 x5 x7 (f1.trans x8) x9 x10)) fun acc2 μ2 H3 L3 p3 => ⟨acc2, μ2, L3, p3⟩
  · obtain rfl : i = ds.length := by omega
    obtain ⟨f2, c2⟩ := lc_end hD L
    exact .inl ⟨⟨vs, SqL.of hv, by rw [hr.length]; exact Nat.le_refl _⟩, k _ _ _ H' (fun b o n e => by
      obtain ⟨e1, n1⟩ := f1 b o n e
      exact f2 b o n1 e1) c2 (.ref Dl) (hd acc μ' p Dl L.no)⟩
end
end Z
namespace ZQ
open PySem PySem.Spec PyProof.Rows L2 PpSet ST
/-- len of a set of tuples; its values are all unlike -/
def rLenSN (P : Program) (w : World) : List V → Hp → VK → Prop := fun xs H Q => ∃ (a : Addr) (L : List (Addr × List Int)), xs = [.ref a] ∧ H a = some (SetTO P w a L) ∧ ((L.map (·.2)).Nodup → Q (.int L.length) H)
theorem cr_lenSN {X : Cx} {P : Program} {w : World} (h2 : X.prog = P) (h3 : X.w = w) : CallR X (.builtin "len") (rLenSN P w) := by
  subst h2 h3
  intro pins s σ H xs us Q I r h
  obtain ⟨a, L, e, ha, q⟩ := h
  have sT : SetT0 X.prog X.w s.heap a L := (I.hok a _ ha).1
  obtain ⟨es, ep, t, _, _, _, nd, _⟩ := sT.ex
  exact ST.cr_lenST pins s σ H xs us Q I r ⟨a, L, e, ha, q nd⟩
end ZQ
namespace Z
open PySem L2 ST PySem.W ZQ
theorem rels_tups {K : PySem.W.Frag} {H : Hp} : ∀ {vs : List V} {gs : List (List Int)}, Rels K H vs (gs.map fun g => D.tup (g.map D.int)) → ∃ ks : List (Addr × List Int), vs = ks.map (fun p => V.ref p.1) ∧ (∀ p ∈ ks, H p.1 = some (.tup (p.2.map V.int))) ∧ ks.map (·.2) = gs
  | [], [], .nil => ⟨[], rfl, by simp, rfl⟩
  | v :: vs, g :: gs, .cons r rr => by
    obtain ⟨ks, e1, e2, e3⟩ := rels_tups rr
    obtain ⟨a, rfl, ha⟩ := rel_tupI r
    refine ⟨(a, g) :: ks, by rw [e1]; rfl, fun p hp => ?_, by rw [List.map_cons, e3]⟩
    rcases List.mem_cons.mp hp with e | e
    · rw [e]; exact ha
    · exact e2 p e
section
variable {K : PySem.W.Frag} {τ : T} {μ μ1 μ2 : M} {te : TE} {Φ : D → M → Prop} {P : Program} {w : World}
theorem a_lenSetT {gs : List (List Int)} (h : AE K te τ μ fun o μ1 => ∃ a, o = .ref a ∧ μ1 a = some (.lst (gs.map fun g => D.tup (g.map D.int))) ∧ gs.length < 64 ∧ ∀ n, NumOf gs n → Φ (.int (n : Int)) μ1) :
    AE K (tCB (rLenSN P w) (tCons (tCB (rSetOfT K P w) (tCons te tNil)) tNil)) τ μ Φ := fun σ H s c Q k =>
  h σ H s c _ fun o μ1 v H1 f1 c1 r1 ⟨a, e, hl, hz, q⟩ => by
    subst e
    cases r1
    obtain ⟨vs, hv, hr⟩ := c1 a _ hl
    obtain ⟨ks, e1, e2, e3⟩ := rels_tups hr
    subst e1
    have kl : ks.length = gs.length := by
      have := congrArg List.length e3
      rwa [List.length_map] at this
    refine ⟨a, ks, rfl, SqL.of hv, fun p hp => .inl (.inl (e2 p hp)), by omega, fun sa L hn sub all => ?_⟩
    refine ⟨sa, L, rfl, upd_same, fun nd => ?_⟩
    refine k _ _ _ _ (f1.trans (fr_new hn)) (con_new hn c1) (.int _) (q L.length ⟨L.map (·.2), nd, fun k => ⟨fun hk => ?_, fun hk => ?_⟩, by rw [List.length_map]⟩)
    · obtain ⟨p, hp, rfl⟩ := List.mem_map.mp hk
      rw [← e3]
      exact List.mem_map.mpr ⟨p, sub p hp, rfl⟩
    · rw [← e3] at hk
      obtain ⟨p, hp, rfl⟩ := List.mem_map.mp hk
      exact all p hp
end
end Z
namespace Z
open PySem L2 PyProof.Rows
section
variable {X : Cx} {a b c e : Expr} {ta tb tc te : TE} {pos : Pos}
/-- a op1 b op2 c op3 e, as a test -/
theorem pt_chain3 {o1 o2 o3 : CmpOp} {r1 r2 r3 : R2} (h1 : OpR X (compareOp o1) r1) (h2 : OpR X (compareOp o2) r2) (h3 : OpR X (compareOp o3) r3) (ha : PE X a ta) (hb : PE X b tb) (hc : PE X c tc) (he : PE X e te)
    (hm : lastMarks [o1, o2, o3] [b, c, e] = false := by with_unfolding_all rfl) : PT X (.Compare a [o1, o2, o3] [b, c, e] pos) (tTest (tChain3 r1 r2 r3 ta tb tc te)) := by
  refine ⟨fun pins s σ H Q I h => ?_⟩
  refine isTrue_chain (thn (ha.run pins s σ H _ I h) fun v s1 ⟨x, H1, I1, k1, q1⟩ => test_link (thn (hb.run pins s1 σ H1 _ I1 q1) fun u s2 ⟨y, H2, I2, k2, q2⟩ =>
    thn (h1 pins s2 σ H2 x y v u _ I2 k1 k2 q2) fun d s3 ⟨z, H3, I3, k3, b1, eb, q3⟩ => ?_)) hm
  subst eb
  cases k3
  refine wpAny_truthy_bool ?_
  cases b1 with
  | false =>
    obtain ⟨k', e', q'⟩ := q3
    cases e'
    exact ite_ff ⟨H3, I3, q'⟩
  | true =>
    refine ite_tt (test_link (thn (hc.run pins s3 σ H3 _ I3 q3) fun w s4 ⟨z', H4, I4, k4, q4⟩ => thn (h2 pins s4 σ H4 y z' u w _ I4 k2 k4 q4) fun d2 s5 ⟨z2, H5, I5, k5, b2, eb2, q5⟩ => ?_))
    subst eb2
    cases k5
    refine wpAny_truthy_bool ?_
    cases b2 with
    | false =>
      obtain ⟨k', e', q'⟩ := q5
      cases e'
      exact ite_ff ⟨H5, I5, q'⟩
    | true =>
      refine ite_tt (test_last (thn (he.run pins s5 σ H5 _ I5 q5) fun w' s6 ⟨z6, H6, I6, k6, q6⟩ => thn (h3 pins s6 σ H6 z' z6 w w' _ I6 k4 k6 q6) fun d7 s7 ⟨z7, H7, I7, k7, b3, eb3, q7⟩ => ?_))
      subst eb3
      cases k7
      exact wpAny_truthy_bool ⟨H7, I7, q7⟩
end
end Z
namespace Z
open PySem PySem.Spec PyProof.Rows L2
def mulS (a : Str) (n : Int) : Str := ⟨(List.replicate n.toNat a.cps).foldl (· ++ ·) #[]⟩
theorem fold_size (x : Array Nat) : ∀ (k : Nat) (acc : Array Nat), ((List.replicate k x).foldl (· ++ ·) acc).size = acc.size + k * x.size
  | 0, acc => by simp
  | k + 1, acc => by
    rw [List.replicate_succ, List.foldl_cons, fold_size x k, Array.size_append, Nat.succ_mul]
    omega
theorem mulS_len (a : Str) (n : Int) : (mulS a n).length = n.toNat * a.length := by
  show ((List.replicate n.toNat a.cps).foldl (· ++ ·) #[]).size = _
  rw [fold_size]
  show 0 + _ = _
  rw [Nat.zero_add]
  rfl
def rMulSN : R2 := fun x y H Q => ∃ (a : Str) (n : Int), x = .str a ∧ y = .int n ∧ 2 ≤ n ∧ n ≤ 1000 ∧ 1 ≤ a.length ∧ a.length ≤ 1000 ∧ Q (.str (mulS a n)) H
theorem op_mul_sN {X : Cx} : OpR X (binaryOp .Mult) rMulSN := by
  intro pins s σ H x y v u Q I rx ry h
  obtain ⟨a, n, rfl, rfl, h1, h2, h3, h4, q⟩ := h
  obtain ⟨t, rfl⟩ := rx
  obtain ⟨t', rfl⟩ := ry
  refine PySem.P.mul_str (by simp; omega) (fun _ _ => ?_) (fun _ _ => ?_) ?_
  · have := (Int.le_ediv_iff_mul_le (a := 2000) (b := 2 ^ 63 - 1) (c := n) (by omega)).mpr (by omega)
    omega
  · have : a.length * n.toNat ≤ 1000 * 1000 := Nat.mul_le_mul h4 (by omega)
    unfold Builtin.Str.tooLong
    exact decide_eq_false (by unfold sizeLine; omega)
  · have z : ¬ ((n == 1 || a.length == 0) = true) := by simp; omega
    rw [if_neg (by omega), if_neg z]
    have l := mulS_len a n
    have b : n.toNat * a.length ≤ 1000 * 1000 := Nat.mul_le_mul (by omega) h4
    refine ⟨?_, .str (mulS a n), H, I.tok _, ⟨_, rfl⟩, q⟩
    show (mulS a n).length ≤ sizeLine
    rw [l]
    exact Nat.le_trans b (by decide)
section
variable {K : PySem.W.Frag} {μ : M} {Φ : D → M → Prop}
theorem ro_mul_sN {s : Str} {n : Int} (h1 : 2 ≤ n) (h2 : n ≤ 1000) (h3 : 1 ≤ s.length) (h4 : s.length ≤ 1000) (q : Φ (.str (mulS s n)) μ) : RO K rMulSN (.str s) (.int n) μ Φ := fun H x y c r1 r2 Q k => by
  cases r1; cases r2
  exact ⟨s, n, rfl, rfl, h1, h2, h3, h4, k _ μ _ H Fr.refl c (.str _) q⟩
end
end Z
namespace Z
open PySem L2
def wh : D → Bool
  | .int _ => true
  | _ => false
/-- of a kind that can be asked for -/
def Kd (μ : M) (d : D) : Prop := ∃ n, tyn μ d = some n
theorem kd_int {μ : M} {i : Int} : Kd μ (.int i) := ⟨_, rfl⟩
theorem kd_tup {μ : M} {ds : List D} : Kd μ (.tup ds) := ⟨_, rfl⟩
def wi (d : D) (lo hi : Int) : Bool := match d with
  | .int i => decide (lo ≤ i) && decide (i ≤ hi)
  | _ => false
def ir (d : D) (lo hi : Int) : Bool := match d with
  | .tup xs => decide (lo ≤ xs.length) && decide ((xs.length : Int) ≤ hi)
  | _ => false
def aw (d : D) (m : Int) : Bool := match d with
  | .tup xs => decide ((xs.length : Int) = m) && xs.all wh
  | _ => false
def pr (d : D) (w h l : Int) : Bool := match d with
  | .tup [.int x, .int y, .int f, .int g] => (decide (0 < x) && decide (x < w)) && (decide (0 < y) && decide (y < h)) && (decide (0 ≤ f) && decide (f ≤ g) && decide (g < l))
  | _ => false
/-- the room of two pins -/
def rm (s : Int) (a b : Int × Int) : Int := max 0 ((max (b.1 - a.1).natAbs (b.2 - a.2).natAbs : Nat) / s - 1)
/-- where a row of a pin stands -/
def spot : D → List Int
  | .tup (.int x :: .int y :: _) => [x, y]
  | _ => []
def ab (w h p l s : D) : Bool := wi w 2 1000000 && wi h 2 1000000 && wi l 1 3 && wi s 1 1000000 && (match w, h, p, l with
  | .int w, .int h, .tup rows, .int l => decide (rows.length ≤ 16) && rows.all (fun r => pr r w h l) && decide (rows.map spot).Nodup
  | _, _, _, _ => false)
theorem wh_int {d : D} (h : wh d = true) : ∃ i, d = .int i := by
  cases d <;> first | exact ⟨_, rfl⟩ | cases h
theorem wi_int {d : D} {lo hi : Int} (h : wi d lo hi = true) : ∃ i, d = .int i ∧ lo ≤ i ∧ i ≤ hi := by
  cases d <;> first | cases h | skip
  rename_i i
  simp only [wi, Bool.and_eq_true, decide_eq_true_eq] at h
  exact ⟨i, rfl, h⟩
theorem pr_int {d : D} {w h l : Int} (k : pr d w h l = true) : ∃ x y f g : Int, d = .tup [.int x, .int y, .int f, .int g] ∧ (0 < x ∧ x < w) ∧ (0 < y ∧ y < h) ∧ (0 ≤ f ∧ f ≤ g) ∧ g < l := by
  unfold pr at k
  split at k
  · simp only [Bool.and_eq_true, decide_eq_true_eq] at k
    exact ⟨_, _, _, _, rfl, k.1.1, k.1.2, k.2.1, k.2.2⟩
  · cases k
theorem aw_four {d : D} (h : aw d 4 = true) : ∃ x y f g : Int, d = .tup [.int x, .int y, .int f, .int g] := by
  unfold aw at h
  split at h
  · rename_i xs
    simp only [Bool.and_eq_true, decide_eq_true_eq, List.all_eq_true] at h
    obtain ⟨hl, ha⟩ := h
    match xs, hl with
    | [a, b, c, e], _ =>
      obtain ⟨x, rfl⟩ := wh_int (ha a (by simp))
      obtain ⟨y, rfl⟩ := wh_int (ha b (by simp))
      obtain ⟨f, rfl⟩ := wh_int (ha c (by simp))
      obtain ⟨g, rfl⟩ := wh_int (ha e (by simp))
      exact ⟨x, y, f, g, rfl⟩
    | [], e => simp at e
    | [_], e => simp at e
    | [_, _], e => simp at e
    | [_, _, _], e => simp at e
    | _ :: _ :: _ :: _ :: _ :: _, e => simp at e; omega
  · cases h
theorem aw_pr {d : D} {w h l : Int} (k : aw d 4 = false) : pr d w h l = false := by
  cases e : pr d w h l with
  | false => rfl
  | true =>
    obtain ⟨x, y, f, g, rfl, _⟩ := pr_int e
    simp [aw, wh] at k
end Z
namespace Tch
def ar (a b c : Int × Int) : Int := (b.1 - a.1) * (c.2 - a.2) - (b.2 - a.2) * (c.1 - a.1)
end Tch
namespace Z
open Tch
abbrev Pt := Int × Int
def spAt (sp : List Pt) (p : Int) : Pt := sp.getD p.toNat (0, 0)
/-- whether c lies on the piece from a to b -/
def btw (a b c : Pt) : Bool := decide (ar a b c = 0) && (decide (min a.1 b.1 ≤ c.1) && decide (c.1 ≤ max a.1 b.1)) && (decide (min a.2 b.2 ≤ c.2) && decide (c.2 ≤ max a.2 b.2))
/-- whether two pieces cross properly -/
def crs (a b c d : Pt) : Bool := decide (sgn (ar a b c) * sgn (ar a b d) < 0) && decide (sgn (ar c d a) * sgn (ar c d b) < 0)
def dist (sp : List Pt) (g : Pt) : Int := ((spAt sp g.2).1 - (spAt sp g.1).1) ^ 2 + ((spAt sp g.2).2 - (spAt sp g.1).2) ^ 2
def gkey (sp : List Pt) (g : Pt) : Int × Int × Int := (dist sp g, g.1, g.2)
def hits (sp : List Pt) (pins : List Int) (g : Pt) : Bool := pins.any fun r => !(decide (r = g.1) || decide (r = g.2)) && btw (spAt sp g.1) (spAt sp g.2) (spAt sp r)
def crsG (sp : List Pt) (g g' : Pt) : Bool := crs (spAt sp g.1) (spAt sp g.2) (spAt sp g'.1) (spAt sp g'.2)
def stepG (sp : List Pt) (pins : List Int) (found : List Pt) (g : Pt) : List Pt := if !hits sp pins g && !found.any (fun g' => crsG sp g g') then found ++ [g] else found
def pairsOf (pins : List Int) : List Pt := pins.flatMap fun p => (pins.filter fun q => decide (p < q)).map fun q => (p, q)
def srtG (sp : List Pt) (l : List Pt) : List Pt := l.mergeSort fun a b => !lt3 (gkey sp b) (gkey sp a)
def foundG (sp : List Pt) (pins : List Int) (l : List Pt) : List Pt := l.foldl (stepG sp pins) []
def gatesOf (sp : List Pt) (pins : List Int) : List Pt := (foundG sp pins (srtG sp (pairsOf pins))).mergeSort leP
abbrev encG (g : Pt) : D := pt g.1 g.2
abbrev R4 := Int × Int × Int × Int
abbrev encR (r : R4) : D := .tup [.int r.1, .int r.2.1, .int r.2.2.1, .int r.2.2.2]
/-- where the pins of a board are -/
def spots (w h : Int) (rows : List R4) : List (Int × Int) := [(0, 0), (w, 0), (w, h), (0, h)] ++ rows.map fun r => (r.1, r.2.1)
abbrev encS (p : Int × Int) : D := pt p.1 p.2
/-- whether a row of a pin is on a layer -/
def onL (lv : Int) (r : R4) : Bool := decide (r.2.2.1 ≤ lv) && decide (lv ≤ r.2.2.2)
def pinsFrom (lv : Int) : Int → List R4 → List Int
  | _, [] => []
  | k, r :: rs => if onL lv r = true then k :: pinsFrom lv (k + 1) rs else pinsFrom lv (k + 1) rs
/-- the pins of a layer -/
def pinsOf (rows : List R4) (lv : Int) : List Int := [0, 1, 2, 3] ++ pinsFrom lv 4 rows
/-- whether a three is not in line and no pin lies within -/
def emptyT (sp : List Pt) (pins : List Int) (t : Int × Int × Int) : Bool :=
  let s := sgn (ar (spAt sp t.1) (spAt sp t.2.1) (spAt sp t.2.2))
  !decide (s = 0) && pins.all fun r => !(decide (sgn (ar (spAt sp t.1) (spAt sp t.2.1) (spAt sp r)) = s) && (decide (sgn (ar (spAt sp t.2.1) (spAt sp t.2.2) (spAt sp r)) = s) && decide (sgn (ar (spAt sp t.2.2) (spAt sp t.1) (spAt sp r)) = s)))
def trisOf (sp : List Pt) (pins : List Int) (gates : List Pt) : List (Int × Int × Int) :=
  gates.flatMap fun g => ((pins.filter fun r => decide (g.2 < r) && (decide ((g.1, r) ∈ gates) && decide ((g.2, r) ∈ gates))).map fun r => (g.1, g.2, r)).filter (emptyT sp pins)
abbrev encT (t : Int × Int × Int) : D := t3 t.1 t.2.1 t.2.2
abbrev gOf (w h : Int) (rows : List R4) (lv : Int) : List Pt := gatesOf (spots w h rows) (pinsOf rows lv)
abbrev gatesD (w h : Int) (rows : List R4) (lv : Int) : D := .tup ((gOf w h rows lv).map encG)
abbrev trisD (w h : Int) (rows : List R4) (lv : Int) : D := .tup ((trisOf (spots w h rows) (pinsOf rows lv) (gOf w h rows lv)).map encT)
theorem eqv_dec {d e : D} (h : D.it d = true) (k : D.it e = true) : D.eqv d e = true ↔ d = e := eqv_it d e h k
/-- layers that are kept -/
def Lvs (l : Int) (gl : List Int) : Prop := gl.Nodup ∧ ∀ v ∈ gl, 0 ≤ v ∧ v < l
theorem lvs_nil {l : Int} : Lvs l [] := ⟨List.nodup_nil, fun _ h => (by cases h)⟩
end Z
namespace MT
open PySem L2 Z TL
abbrev AD := NumText.AllDigits
abbrev dV := NumText.digitsVal
/-- one of the ten figures -/
def digB (c : Nat) : Bool := decide (48 ≤ c ∧ c ≤ 57)
theorem digs_iff {l : List Nat} : l.all digB = true ↔ AD l := by
  show _ ↔ ∀ c ∈ l, 48 ≤ c ∧ c ≤ 57
  unfold digB
  simp
/-- the number that a word of at most k figures writes -/
def numIn (k : Nat) (w : Str) : Option Int :=
  if w.length = 0 ∨ k < w.length ∨ ¬ (tl w).all digB = true then none
  else if w = "0" ∨ (tl w).head? ≠ some 48 then some ((dV (tl w) : Nat) : Int) else none
def oD : Option Int → D
  | none => .non
  | some i => .int i
def words (w : Str) : List Str := Txt.split w " "
abbrev triD (t : Int × Int × Int) : D := .tup [.int t.1, .int t.2.1, .int t.2.2]
def tD : Option (Int × Int × Int) → D
  | none => .non
  | some t => triD t
theorem eqv_non (o : Option Int) : D.eqv (oD o) .non = o.isNone := by
  cases o <;> simp [oD, D.eqv, D.py, PyData.eqv]
theorem inD_non (ns : List (Option Int)) : inD .non (ns.map oD) = decide (none ∈ ns) := by
  unfold inD
  rw [List.any_map]
  induction ns with
  | nil => rfl
  | cons a r ih =>
    rw [List.any_cons, ih]
    show (D.eqv (oD a) .non || _) = _
    rw [eqv_non]
    cases a <;> simp
theorem okn_o (o : Option Int) : OkN 0 (oD o) := by
  cases o with
  | none => exact ⟨by simp only [oD, D.plain], by simp only [oD, D.py, PyData.canLay0], by simp only [oD, D.py, PyData.depth]; exact Nat.le_refl _⟩
  | some i => exact okn_int
theorem spl_le (S : List Nat) : ∀ (l : List Nat) (k : Nat) (acc p : List Nat), p ∈ spl S k acc l → p.length ≤ acc.length + l.length
  | [], k, acc, p, h => by
    rw [spl_nil, List.mem_singleton] at h
    rw [h]
    simp
  | c :: r, k + 1, acc, p, h => by
    have i := spl_le S r k acc p (show p ∈ spl S k acc r from h)
    rw [List.length_cons]
    omega
  | c :: r, 0, acc, p, h => by
    have e : spl S 0 acc (c :: r) = if pre S (c :: r) = true then acc :: spl S (S.length - 1) [] r else spl S 0 (acc ++ [c]) r := rfl
    rw [e] at h
    split at h
    · rcases List.mem_cons.mp h with z | z
      · rw [z]; omega
      · have i := spl_le S r _ [] p z
        rw [List.length_nil] at i
        rw [List.length_cons]
        omega
    · have i := spl_le S r _ _ p h
      rw [List.length_append, List.length_singleton] at i
      rw [List.length_cons]
      omega
theorem spl_ne (S : List Nat) : ∀ (l : List Nat) (k : Nat) (acc : List Nat), spl S k acc l ≠ []
  | [], k, acc => by rw [spl_nil]; simp
  | c :: r, k + 1, acc => spl_ne S r k acc
  | c :: r, 0, acc => by
    have e : spl S 0 acc (c :: r) = if pre S (c :: r) = true then acc :: spl S (S.length - 1) [] r else spl S 0 (acc ++ [c]) r := rfl
    rw [e]
    split
    · simp
    · exact spl_ne S r 0 (acc ++ [c])
/-- together they are no longer than the whole -/
theorem spl_sum (S : List Nat) : ∀ (l : List Nat) (k : Nat) (acc : List Nat), ((spl S k acc l).map List.length).sum ≤ acc.length + l.length
  | [], k, acc => by
    rw [spl_nil]
    simp
  | c :: r, k + 1, acc => by
    have i := spl_sum S r k acc
    show ((spl S k acc r).map List.length).sum ≤ _
    rw [List.length_cons]
    omega
  | c :: r, 0, acc => by
    have e : spl S 0 acc (c :: r) = if pre S (c :: r) = true then acc :: spl S (S.length - 1) [] r else spl S 0 (acc ++ [c]) r := rfl
    rw [e]
    split
    · have i := spl_sum S r (S.length - 1) []
      rw [List.length_nil] at i
      rw [List.map_cons, List.sum_cons, List.length_cons]
      omega
    · have i := spl_sum S r 0 (acc ++ [c])
      rw [List.length_append, List.length_singleton] at i
      rw [List.length_cons]
      omega
theorem words_sum (s : Str) : ((words s).map (·.length)).sum ≤ s.length := by
  have e := split_spl s " " (by decide +kernel) (kind_ok (by decide +kernel))
  have i := spl_sum (tl " ") (tl s) 0 []
  rw [← e, List.map_map, ← len_tl, List.length_nil, Nat.zero_add] at i
  refine Nat.le_trans (Nat.le_of_eq ?_) i
  exact congrArg List.sum (List.map_congr_left fun p _ => len_tl p)
theorem part_le {x y p : Str} (hy : tl y ≠ []) (hk : y.cps.all (· < 256) = true) (h : p ∈ Txt.split x y) : p.length ≤ x.length := by
  have m : tl p ∈ spl (tl y) 0 [] (tl x) := by
    rw [← split_spl x y hy (kind_ok hk)]
    exact List.mem_map.mpr ⟨p, h, rfl⟩
  have i := spl_le _ _ _ _ _ m
  rw [len_tl, len_tl]
  simpa using i
theorem words_le {w p : Str} (h : p ∈ words w) : p.length ≤ w.length := part_le (by decide +kernel) (by decide +kernel) h
theorem words_few (w : Str) : (words w).length ≤ w.length + 2 := PyProof.Rows.split_le w _
theorem words_ne (s : Str) : words s ≠ [] := fun e => by
  have i := split_spl s " " (by decide +kernel) (kind_ok (by decide +kernel))
  rw [show Txt.split s " " = [] from e] at i
  exact spl_ne _ _ _ _ i.symm
abbrev numS (n : Int) : Str := Str.ofString (toString n)
theorem tl_numS {n : Int} (h : 0 ≤ n) : tl (numS n) = numL n.toNat := by
  obtain ⟨m, rfl⟩ := Int.eq_ofNat_of_zero_le h
  exact tl_num m
theorem free {n : Int} (h0 : 0 ≤ n) {s : Nat} (h : s < 48 ∨ 57 < s) : s ∉ tl (numS n) := by
  rw [tl_numS h0]
  exact numL_free h
theorem tl_cut (z : Str) (lo hi : Option Int) : tl (cutS z lo hi) = ((tl z).drop (HT.sIx z.length 0 lo)).take (HT.sIx z.length z.length hi - HT.sIx z.length 0 lo) := rfl
theorem cut_le (z : Str) (lo hi : Option Int) : (cutS z lo hi).length ≤ z.length := by
  rw [len_tl, len_tl, tl_cut, List.length_take, List.length_drop]
  omega
end MT
namespace MT
open PySem L2 Z TL
theorem num_len {n : Int} (h : n.natAbs < 10 ^ 30) : (numS n).length ≤ 31 := by
  rw [show numS n = Str.ofString (toString n) from rfl, ofString_length]
  exact int_text_length_le10 (k := 30) (by decide) h
theorem num_ne {v : Str} {n : Int} (h : numIn 4 (cutS v none (some (-1))) = some n) : v.length ≠ 0 := fun z => by
  have := cut_le v none (some (-1))
  unfold numIn at h
  rw [if_pos (.inl (by omega))] at h
  cases h
end MT
namespace MT
open PySem L2 Z TL
abbrev Q4 := Int × Int × Int × Int
abbrev q4D (r : Q4) : D := .tup [.int r.1, .int r.2.1, .int r.2.2.1, .int r.2.2.2]
def wholeIn (w : Str) : Option Int :=
  if cutS w none (some 1) = "-" then (match numIn 30 (cutS w (some 1) none) with
    | none => none
    | some n => if n = 0 then none else some (0 - n))
  else numIn 30 w
def fourOf : List (Option Int) → Option Q4
  | [some a, some b, some c, some d] => some (a, b, c, d)
  | _ => none
theorem fourOf_len {ns : List (Option Int)} (h : ns.length ≠ 4) : fourOf ns = none := by
  unfold fourOf
  split
  · exact absurd rfl h
  · rfl
theorem fourOf_non {ns : List (Option Int)} (h : none ∈ ns) : fourOf ns = none := by
  unfold fourOf
  split
  · simp at h
  · rfl
theorem fourOf_some {ns : List (Option Int)} (h : ns.length = 4) (h2 : none ∉ ns) : ∃ q, fourOf ns = some q ∧ ns = [some q.1, some q.2.1, some q.2.2.1, some q.2.2.2] := by
  match ns, h with
  | [some a, some b, some c, some d], _ => exact ⟨(a, b, c, d), rfl, rfl⟩
  | [none, _, _, _], _ => simp at h2
  | [some _, none, _, _], _ => simp at h2
  | [some _, some _, none, _], _ => simp at h2
  | [some _, some _, some _, none], _ => simp at h2
def fourIn (p : Str) : Option Q4 := fourOf ((words p).map wholeIn)
def bparts (s : Str) : List Str := Txt.split s " ; "
def madeOk (q : Q4) (rows : List Q4) : Bool := ab (.int q.1) (.int q.2.1) (.tup (rows.map q4D)) (.int q.2.2.1) (.int q.2.2.2)
def boardRes (s : Str) : Option (Q4 × List Q4) := match (bparts s).map fourIn with
  | some q :: r => if (r.all fun x => x.isSome) = true ∧ madeOk q (r.filterMap id) = true then some (q, r.filterMap id) else none
  | _ => none
def q4S (q : Q4) : Str := Txt.join " " [numS q.1, numS q.2.1, numS q.2.2.1, numS q.2.2.2]
def brdS (q : Q4) (rows : List Q4) : Str := Txt.join " ; " (q4S q :: rows.map q4S)
theorem numL_backR : ∀ (r : List Nat), AD r.reverse → r.reverse ≠ [] → (r.reverse = [48] ∨ r.reverse.head? ≠ some 48) → numL (dV r.reverse) = r.reverse := by
  refine Hold.out ?_
  simp (disch := (
  refine Hold.as ?_
  with_unfolding_all (
  intro r
  induction r with
  | nil => intro _ h; exact absurd rfl h
  | cons c r ih =>
    rw [List.reverse_cons]
    generalize r.reverse = l at ih ⊢
    intro ad _ hd
    have hc : 48 ≤ c ∧ c ≤ 57 := ad c (by simp)
    have e : dV (l ++ [c]) = dV l * 10 + (c - 48) := by
      show NumText.digitsVal (l ++ [c]) = _
      simp [NumText.digitsVal, dV, List.foldl_append]
    by_cases hl : l = []
    · subst hl
      rw [e, show dV [] = 0 from rfl, numL_lt (by omega)]
      show [48 + (0 * 10 + (c - 48))] = [] ++ [c]
      rw [show 48 + (0 * 10 + (c - 48)) = c by omega]
      rfl
    · have hd2 : (l ++ [c]).head? ≠ some 48 := by
        rcases hd with z | z
        · exfalso
          have := congrArg List.length z
          rw [List.length_append] at this
          exact hl (List.length_eq_zero_iff.mp (Nat.succ.inj this))
        · exact z
      have hd3 : l.head? ≠ some 48 := by
        cases l with
        | nil => exact absurd rfl hl
        | cons a r => exact hd2
      have adl : AD l := fun x hx => ad x (by simp [hx])
      have i := ih adl hl (.inr hd3)
      have pos : 0 < dV l := by
        rcases Nat.eq_zero_or_pos (dV l) with z | z
        · exfalso
          rw [z, numL_lt (by decide)] at i
          rw [← i] at hd3
          exact hd3 rfl
        · exact z
      have step : ∀ v d : Nat, 0 < v → d ≤ 9 → numL (v * 10 + d) = numL v ++ [48 + d] := fun v d h1 h2 => by
        rw [numL_step (by omega), show (v * 10 + d) / 10 = v by omega, show (v * 10 + d) % 10 = d by omega]
      rw [e, step _ _ pos (by omega), i, show 48 + (c - 48) = c by omega]))) only [↓Hold.on]
theorem numL_back (l : List Nat) (h1 : AD l) (h2 : l ≠ []) (h3 : l = [48] ∨ l.head? ≠ some 48) : numL (dV l) = l := by
  have := numL_backR l.reverse
  rw [List.reverse_reverse] at this
  exact this h1 h2 h3
theorem num_back {k : Nat} {w : Str} {n : Int} (h : numIn k w = some n) : 0 ≤ n ∧ numS n = w := by
  unfold numIn at h
  split at h
  · cases h
  · rename_i h1
    split at h
    · rename_i h2
      cases h
      refine ⟨Int.natCast_nonneg _, ext_tl ?_⟩
      rw [tl_numS (Int.natCast_nonneg _), Int.toNat_natCast]
      have ad : AD (tl w) := digs_iff.mp (Classical.byContradiction fun z => h1 (.inr (.inr z)))
      have ne : tl w ≠ [] := fun z => h1 (.inl (by rw [len_tl, z]; rfl))
      refine numL_back _ ad ne ?_
      rcases h2 with z | z
      · left; rw [z]; rfl
      · exact .inr z
    · cases h
theorem num_neg {n : Int} (h : 0 < n) : numS (0 - n) = "-" ++ numS n := by
  obtain ⟨m, rfl⟩ := Int.eq_ofNat_of_zero_le (Int.le_of_lt h)
  obtain ⟨k, rfl⟩ : ∃ k, m = k + 1 := ⟨m - 1, by omega⟩
  have e : (0 : Int) - ((k + 1 : Nat) : Int) = Int.negSucc k := by omega
  rw [e]
  apply ext_tl
  rw [tl_append]
  show tl (Str.ofString (toString (Int.negSucc k))) = tl (Str.ofString "-") ++ tl (Str.ofString (toString ((k + 1 : Nat) : Int)))
  rw [tl_ofString, tl_ofString, tl_ofString]
  show ("-" ++ toString (Nat.succ k)).toList.map Char.toNat = _
  rw [String.toList_append, List.map_append]
  rfl
theorem cut_dash {w : Str} (h : cutS w none (some 1) = "-") : w = "-" ++ cutS w (some 1) none := by
  have e := congrArg tl h
  rw [tl_cut] at e
  apply ext_tl
  rw [tl_append, tl_cut]
  have e1 : HT.sIx w.length 0 none = 0 := rfl
  have e2 : ∀ d, HT.sIx w.length d (some 1) = min 1 w.length := fun d => by
    show (if (1 : Int) < 0 then (1 + (w.length : Int)).toNat else min (1 : Int).toNat w.length) = _
    rw [if_neg (by decide)]
    rfl
  have e3 : HT.sIx w.length w.length none = w.length := rfl
  rw [e1, e2] at e
  rw [e2, e3]
  rw [len_tl] at e ⊢
  cases hw : tl w with
  | nil => rw [hw] at e; exact absurd e (by decide)
  | cons c r =>
    rw [hw] at e
    have l1 : min 1 (c :: r).length = 1 := by simp
    rw [l1] at e ⊢
    rw [← e]
    simp
theorem whole_back {w : Str} {i : Int} (h : wholeIn w = some i) : numS i = w := by
  unfold wholeIn at h
  split at h
  · rename_i hd
    have hw := cut_dash hd
    split at h
    · cases h
    · rename_i n hn
      split at h
      · cases h
      · cases h
        have b := num_back hn
        rw [num_neg (by omega), b.2]
        exact hw.symm
  · exact (num_back h).2
theorem back_words {p : Str} : Txt.join " " (words p) = p := by
  rw [join_eq]
  exact PySem.StrLaws.join_split p " "
theorem back_parts {s : Str} : Txt.join " ; " (bparts s) = s := by
  rw [join_eq]
  exact PySem.StrLaws.join_split s " ; "
theorem four_back {p : Str} {q : Q4} (h : fourIn p = some q) : q4S q = p := by
  unfold fourIn at h
  have hl : ((words p).map wholeIn).length = 4 := Classical.byContradiction fun z => by rw [fourOf_len z] at h; cases h
  have hn : none ∉ (words p).map wholeIn := fun z => by rw [fourOf_non z] at h; cases h
  obtain ⟨q2, e1, e2⟩ := fourOf_some hl hn
  rw [e1] at h
  cases h
  have b := back_words (p := p)
  match hw : words p, (by rw [List.length_map] at hl; exact hl : (words p).length = 4) with
  | [a, b1, c, d], _ =>
    rw [hw] at e2 b
    simp only [List.map_cons, List.map_nil, List.cons.injEq, and_true] at e2
    unfold q4S
    rw [whole_back e2.1, whole_back e2.2.1, whole_back e2.2.2.1, whole_back e2.2.2.2]
    exact b
theorem all_back : ∀ {ps : List Str}, ((ps.map fourIn).all fun x => x.isSome) = true → ((ps.map fourIn).filterMap id).map q4S = ps
  | [], _ => rfl
  | p :: ps, h => by
    rw [List.map_cons, List.all_cons, Bool.and_eq_true] at h
    obtain ⟨q, hq⟩ := Option.isSome_iff_exists.mp h.1
    rw [List.map_cons, hq, List.filterMap_cons]
    show q4S q :: _ = _
    rw [four_back hq, all_back h.2]
theorem board_back {s : Str} {q : Q4} {rows : List Q4} (h : boardRes s = some (q, rows)) : brdS q rows = s ∧ madeOk q rows = true := by
  unfold boardRes at h
  split at h
  · rename_i q2 r e
    split at h
    · rename_i hk
      cases h
      cases hp : bparts s with
      | nil => rw [hp] at e; cases e
      | cons p ps =>
        rw [hp, List.map_cons] at e
        obtain ⟨e1, e2⟩ := List.cons.inj e
        subst e2
        refine ⟨?_, hk.2⟩
        unfold brdS
        rw [all_back hk.1, four_back e1, ← hp]
        exact back_parts
    · cases h
  · cases h
/-- four numbers, put together -/
theorem q4S_app (q : Q4) : q4S q = numS q.1 ++ " " ++ numS q.2.1 ++ " " ++ numS q.2.2.1 ++ " " ++ numS q.2.2.2 := by
  apply ext_tl
  unfold q4S
  rw [join_eq, tl_join]
  simp only [tl_append, List.map_cons, List.map_nil, joinL, List.append_assoc]
end MT
namespace W
open PySem L2 Z
local macro_rules | `(tactic| walk_at "z1") => `(tactic| (refine ⟨Nat.le_of_ble_eq_true rfl, ?_⟩))
local macro_rules | `(tactic| walk_at "z1") => `(tactic| ((with_reducible refine ⟨_, _, _, rfl, ?_⟩); walk_at "nf"))
local macro_rules | `(tactic| walk_at "z1") => `(tactic| ((with_reducible refine ⟨_, _, rfl, ?_⟩); walk_at "nf"))
local macro_rules | `(tactic| walk_at "z1") => `(tactic| (with_reducible refine ⟨_, rfl, ?_⟩))
local macro_rules | `(tactic| walk_at "z1") => `(tactic| ((with_reducible refine rc_isi (n := ?zn) (b := ?zb) ?zs ?zk ?_); (case zs => rfl); (case zk => first | rfl | decide +kernel)))
local macro_rules | `(tactic| walk_at "z1") => `(tactic| ((with_reducible refine rc_len (ds := ?zd) ?zs ?_); (case zs => walk_at "seq")))
local macro_rules | `(tactic| walk_at "z1") => `(tactic| (with_reducible refine rc_max ?_))
local macro_rules | `(tactic| walk_at "z1") => `(tactic| (with_reducible refine rc_min ?_))
local macro_rules | `(tactic| walk_at "z1") => `(tactic| (with_reducible refine rc_abs ?_))
local macro_rules | `(tactic| walk_at "z1") => `(tactic| (with_reducible refine rc_intI ?_))
local macro_rules | `(tactic| walk_at "z1") => `(tactic| (with_reducible refine rc_intB ?_))
local macro_rules | `(tactic| walk_at "z1") => `(tactic| (with_reducible refine ro_neB ?_))
local macro_rules | `(tactic| walk_at "z1") => `(tactic| (with_reducible refine ro_eqB ?_))
local macro_rules | `(tactic| walk_at "z1") => `(tactic| (with_reducible refine ro_neI ?_))
local macro_rules | `(tactic| walk_at "z1") => `(tactic| (with_reducible refine ro_eqI ?_))
local macro_rules | `(tactic| walk_at "z1") => `(tactic| (with_reducible refine ro_notB ?_))
local macro_rules | `(tactic| walk_at "z1") => `(tactic| (with_reducible refine ro_notN ?_))
local macro_rules | `(tactic| walk_at "z1") => `(tactic| (with_reducible refine ro_isN ?_))
local macro_rules | `(tactic| walk_at "z1") => `(tactic| (with_reducible refine ro_isB ?_))
local macro_rules | `(tactic| walk_at "z1") => `(tactic| ((with_reducible refine ro_inS (ds := ?zd) ?zs ?h1 ?h2 ?_); (case zs => walk_at "seq"); (case h1 => rfl); (case h2 => rfl); (try simp only [if_true, if_false, Bool.false_eq_true])))
local macro_rules | `(tactic| walk_at "z1") => `(tactic| ((with_reducible refine ro_neD ?h1 ?h2 ?_); (case h1 => rfl); (case h2 => rfl)))
local macro_rules | `(tactic| walk_at "z1") => `(tactic| ((with_reducible refine ro_eqD ?h1 ?h2 ?_); (case h1 => rfl); (case h2 => rfl)))
local macro_rules | `(tactic| walk_at "z1") => `(tactic| (with_reducible refine iteNF ?_))
local macro_rules | `(tactic| walk_at "z1") => `(tactic| (with_reducible refine iteNT ?_))
local macro_rules | `(tactic| walk_at "z1") => `(tactic| (with_reducible refine iteF ?_))
local macro_rules | `(tactic| walk_at "z1") => `(tactic| (with_reducible refine iteT ?_))
local macro_rules | `(tactic| walk_at "z1") => `(tactic| ((with_reducible refine ro_cat (ds := ?zd) (es := ?ze) ?zs ?zt ?zl ?_); (case zs => walk_at "mu"); (case zt => walk_at "mu"); (case zl => exact Nat.le_of_ble_eq_true rfl)))
local macro_rules | `(tactic| walk_at "z1") => `(tactic| ((with_reducible refine ro_catA ?zl ?_); (case zl => exact Nat.le_of_ble_eq_true rfl)))
local macro_rules | `(tactic| walk_at "z1") => `(tactic| (with_reducible refine rs_tupA ?_))
local macro_rules | `(tactic| walk_at "z1") => `(tactic| (with_reducible refine rs_rol ?_))
local macro_rules | `(tactic| walk_at "z1") => `(tactic| ((with_reducible refine rs_ref (ds := ?zd) ?zs ?_); (case zs => walk_at "mu")))
local macro_rules | `(tactic| walk_at "z1") => `(tactic| (with_reducible refine ao_pt ?_))
local macro_rules | `(tactic| walk_at "z1") => `(tactic| (with_reducible refine ao_no ?_))
local macro_rules | `(tactic| walk_at "z1") => `(tactic| (with_reducible refine a_sl ?_))
local macro_rules | `(tactic| walk_at "z1") => `(tactic| ((with_reducible refine set_lst (ds := ?zd) (j := ?zj) ?zs ?zi ?_); (case zs => walk_at "mu"); (case zi => rfl); walk_at "nf"))
local macro_rules | `(tactic| walk_at "z1") => `(tactic| ((with_reducible refine ro_ix (ds := ?zd) (e := ?ze) ?zs ?zi ?_); (case zs => walk_at "seq"); (case zi => rfl)))
local macro_rules | `(tactic| walk_at "z1") => `(tactic| ((with_reducible refine ro_c ?zc ?_); (case zc => walk_at "cond")))
local macro_rules | `(tactic| walk_at "z1") => `(tactic| ((with_reducible refine ro_c (C := CPow) ?zc ?_); (case zc => walk_at "cond"); walk_at "nf"))
local macro_rules | `(tactic| walk_at "z1") => `(tactic| (with_reducible refine ro_b ?_))
local macro_rules | `(tactic| walk_at "z1") => `(tactic| (with_reducible refine ru_i ?_))
local macro_rules | `(tactic| walk_at "z1") => `(tactic| (with_reducible refine ro_i ?_))
local macro_rules | `(tactic| walk_at "z1") => `(tactic| (with_reducible refine g_sub ?_))
local macro_rules | `(tactic| walk_at "z1") => `(tactic| (with_reducible refine s_if ?_))
local macro_rules | `(tactic| walk_at "z1") => `(tactic| (with_reducible refine a_chain3 ?_))
local macro_rules | `(tactic| walk_at "z1") => `(tactic| (with_reducible refine a_chain ?_))
local macro_rules | `(tactic| walk_at "z1") => `(tactic| (with_reducible refine at_yes ?_))
local macro_rules | `(tactic| walk_at "z1") => `(tactic| (with_reducible refine at_not ?_))
local macro_rules | `(tactic| walk_at "z1") => `(tactic| (with_reducible refine at_or ?_))
local macro_rules | `(tactic| walk_at "z1") => `(tactic| (with_reducible refine at_and ?_))
local macro_rules | `(tactic| walk_at "z1") => `(tactic| (with_reducible refine at_B ?_))
local macro_rules | `(tactic| walk_at "z1") => `(tactic| (with_reducible refine at_test ?_))
local macro_rules | `(tactic| walk_at "z1") => `(tactic| (with_reducible refine a_notV ?_))
local macro_rules | `(tactic| walk_at "z1") => `(tactic| (with_reducible refine a_orV ?_))
local macro_rules | `(tactic| walk_at "z1") => `(tactic| (with_reducible refine a_andV ?_))
local macro_rules | `(tactic| walk_at "z1") => `(tactic| (with_reducible refine a_if ?_))
local macro_rules | `(tactic| walk_at "z1") => `(tactic| (with_reducible refine rc_max3 ?_))
local macro_rules | `(tactic| walk_at "z1") => `(tactic| (with_reducible refine a_methI ?_))
local macro_rules | `(tactic| walk_at "z1") => `(tactic| (with_reducible refine a_methX ?_))
local macro_rules | `(tactic| walk_at "z1") => `(tactic| (with_reducible refine a_callX ?_))
local macro_rules | `(tactic| walk_at "z1") => `(tactic| (with_reducible refine a_call ?_))
local macro_rules | `(tactic| walk_at "z1") => `(tactic| (with_reducible refine a_cb ?_))
local macro_rules | `(tactic| walk_at "z1") => `(tactic| ((with_reducible refine a_lenSc (dec := ?zd) ?zt ?_); (case zt => first | exact tg_4 | exact tg_2 | exact tg_3 | exact tg_name)))
local macro_rules | `(tactic| walk_at "z1") => `(tactic| ((with_reducible refine a_lst ?_)))
local macro_rules | `(tactic| walk_at "z1") => `(tactic| ((with_reducible refine a_tup ?_)))
local macro_rules | `(tactic| walk_at "z1") => `(tactic| (with_reducible refine aa_nil ?_))
local macro_rules | `(tactic| walk_at "z1") => `(tactic| (with_reducible refine aa_cons ?_))
local macro_rules | `(tactic| walk_at "z1") => `(tactic| (with_reducible refine a_un ?_))
local macro_rules | `(tactic| walk_at "z1") => `(tactic| (with_reducible refine a_op ?_))
local macro_rules | `(tactic| walk_at "z1") => `(tactic| (with_reducible refine ro_neS ?_))
local macro_rules | `(tactic| walk_at "z1") => `(tactic| (with_reducible refine a_revT ?_))
local macro_rules | `(tactic| walk_at "z1") => `(tactic| (with_reducible refine a_cref ?_))
local macro_rules | `(tactic| walk_at "z1") => `(tactic| (with_reducible refine a_ty ?_))
local macro_rules | `(tactic| walk_at "z1") => `(tactic| (with_reducible refine a_non ?_))
local macro_rules | `(tactic| walk_at "z1") => `(tactic| (with_reducible refine a_str ?_))
local macro_rules | `(tactic| walk_at "z1") => `(tactic| (with_reducible refine a_bl ?_))
local macro_rules | `(tactic| walk_at "z1") => `(tactic| (with_reducible refine a_int ?_))
local macro_rules | `(tactic| walk_at "z1") => `(tactic| ((with_reducible refine a_var (d := ?zd) ?zh ?_); (case zh => rfl)))
local macro_rules | `(tactic| walk_at "z1") => `(tactic| ((with_reducible refine s_aug (d := ?zd) ?zh ?_); (case zh => rfl)))
local macro_rules | `(tactic| walk_at "z1") => `(tactic| ((with_reducible refine gs_nil ?_); (try dsimp only)))
local macro_rules | `(tactic| walk_at "z1") => `(tactic| (with_reducible refine gs_cons ?_))
local macro_rules | `(tactic| walk_at "z1") => `(tactic| ((with_reducible refine g_tup ?zn ?_); (case zn => rfl)))
local macro_rules | `(tactic| walk_at "z1") => `(tactic| ((with_reducible refine g_name ?_); walk_at "nf"))
local macro_rules | `(tactic| walk_at "z1") => `(tactic| (with_reducible refine s_par3 ?_))
local macro_rules | `(tactic| walk_at "z1") => `(tactic| (with_reducible refine s_par ?_))
local macro_rules | `(tactic| walk_at "z1") => `(tactic| ((with_reducible refine s_retN ?_); (try dsimp only)))
local macro_rules | `(tactic| walk_at "z1") => `(tactic| (with_reducible refine s_drop ?_))
local macro_rules | `(tactic| walk_at "z1") => `(tactic| ((with_reducible refine s_dropX ?_); (first | refine x_meth ?_ | refine x_call ?_)))
local macro_rules | `(tactic| walk_at "z1") => `(tactic| ((with_reducible refine s_next ?_); (try dsimp only)))
local macro_rules | `(tactic| walk_at "z1") => `(tactic| ((with_reducible refine s_ret ?_); (try dsimp only)))
local macro_rules | `(tactic| walk_at "z1") => `(tactic| (with_reducible refine s_asg ?_))
local macro_rules | `(tactic| walk_at "z1") => `(tactic| ((with_reducible refine s_asgX ?_); (first | refine x_meth ?_ | refine x_call ?_)))
local macro_rules | `(tactic| walk_at "z1") => `(tactic| (with_reducible refine s_seq ?_))
local macro_rules | `(tactic| walk_at "z1") => `(tactic| (with_reducible refine aj_nil ?_))
local macro_rules | `(tactic| walk_at "z1") => `(tactic| (with_reducible refine a_js ?_))
local macro_rules | `(tactic| walk_at "z1") => `(tactic| ((with_reducible refine ro_addS ?zh ?_); (case zh => walk_at "txt")))
local macro_rules | `(tactic| walk_at "z1") => `(tactic| ((with_reducible refine rs_str ?zh ?_); (case zh => walk_at "txt")))
local macro_rules | `(tactic| walk_at "z1") => `(tactic| ((with_reducible refine a_revS ?zh ?_); (case zh => walk_at "txt")))
local macro_rules | `(tactic| walk_at "z1") => `(tactic| (with_reducible refine ro_inSg ?_))
local macro_rules | `(tactic| walk_at "z1") => `(tactic| ((with_reducible refine rc_lenS ?zh ?_); (case zh => walk_at "txt")))
local macro_rules | `(tactic| walk_at "z1") => `(tactic| (with_reducible refine ro_eqS ?_))
local macro_rules | `(tactic| walk_at "mu") => `(tactic| first
  | assumption
  | exact set_same
  | (refine Eq.trans (set_ne ?_) ?_; (first | assumption | (apply Ne.symm; assumption) | (intro h; subst h; simp_all)); walk_at "mu"))
local macro_rules | `(tactic| walk_at "seq") => `(tactic| first
  | rfl
  | (refine seq_ref ?_; walk_at "mu"))
local macro_rules | `(tactic| walk_at "sz") => `(tactic| first
  | assumption
  | (refine sz_2 ?_; decide)
  | (refine sz_8 ?_; decide)
  | (refine sz_32 ?_; decide)
  | (refine sz_128 ?_; decide +kernel)
  | ((with_reducible refine sz_add (a := ?a) (b := ?b) ?h ?k); (case h => walk_at "sz"); (case k => walk_at "sz"))
  | ((with_reducible refine sz_sub (a := ?a) (b := ?b) ?h ?k); (case h => walk_at "sz"); (case k => walk_at "sz"))
  | ((with_reducible refine sz_mul (a := ?a) (b := ?b) ?h ?k); (case h => walk_at "sz"); (case k => walk_at "sz"))
  | ((with_reducible refine sz_neg ?_) <;> walk_at "sz")
  | with_reducible exact sz_b
  | ((with_reducible refine sz_mod ?h1 ?h2); (case h1 => omega); (case h2 => walk_at "sz")))
local macro_rules | `(tactic| walk_at "szN") => `(tactic| first
  | assumption
  | (refine sz_mono (a := ?a) ?h ?l; (case h => walk_at "sz"); (case l => first | decide | omega)))
local macro_rules | `(tactic| walk_at "cond") => `(tactic| first
  | assumption
  | (refine mulw_of (a := ?a) (b := ?b) ?h ?k ?l; (case h => walk_at "sz"); (case k => walk_at "sz"); (case l => first | decide | omega))
  | (refine divw_of (b := ?b) ?h ?k ?l; (case h => omega); (case k => walk_at "sz"); (case l => first | decide | omega))
  | (show (0 : Int) < _; first | assumption | omega | decide)
  | (refine ⟨?_, ?_, ?_⟩ <;> first | assumption | decide | omega))
local macro_rules | `(tactic| walk_at "nf") => `(tactic| ((try simp only [List.set_cons_zero, List.set_cons_succ, Int.reduceToNat, Int.reducePow]); (try dsimp only)))
local macro_rules | `(tactic| walk_at "go") => `(tactic| repeat (walk_at "z1"))
local macro_rules | `(tactic| walk_at "txt") => `(tactic| first
  | assumption
  | (exact lng_line (by assumption))
  | (exact Nat.le_of_ble_eq_true rfl))
def top (i : Nat) : Stmt := PySem.Challenge.pw_rubberroutes_k69_texts_of_boards.main.body.getD i (.Pass ⟨0, 0, 0, 0⟩)
abbrev s_is_whole : Stmt := top 21
abbrev N_is_whole : List Str := ["thing"]
theorem sc_is_whole : FnScope N_is_whole ["thing"] (defScope s_is_whole) := ⟨rfl, rfl, rfl, by decide +kernel, rfl, by decide +kernel, by decide +kernel⟩
abbrev s_is_within : Stmt := top 22
abbrev N_is_within : List Str := ["thing", "least", "most"]
theorem sc_is_within : FnScope N_is_within ["thing", "least", "most"] (defScope s_is_within) := ⟨rfl, rfl, rfl, by decide +kernel, rfl, by decide +kernel, by decide +kernel⟩
abbrev s_is_row : Stmt := top 23
abbrev N_is_row : List Str := ["thing", "least", "most"]
theorem sc_is_row : FnScope N_is_row ["thing", "least", "most"] (defScope s_is_row) := ⟨rfl, rfl, rfl, by decide +kernel, rfl, by decide +kernel, by decide +kernel⟩
abbrev s_are_whole : Stmt := top 24
abbrev N_are_whole : List Str := ["thing", "many", "one"]
theorem sc_are_whole : FnScope N_are_whole ["thing", "many"] (defScope s_are_whole) := ⟨rfl, rfl, rfl, by decide +kernel, rfl, by decide +kernel, by decide +kernel⟩
abbrev s_is_pin_row : Stmt := top 36
abbrev N_is_pin_row : List Str := ["thing", "width", "height", "layers", "x", "y", "first", "last"]
theorem sc_is_pin_row : FnScope N_is_pin_row ["thing", "width", "height", "layers"] (defScope s_is_pin_row) := ⟨rfl, rfl, rfl, by decide +kernel, rfl, by decide +kernel, by decide +kernel⟩
abbrev s_are_board : Stmt := top 37
abbrev N_are_board : List Str := ["width", "height", "pins", "layers", "spacing", "row", "x", "y", "first", "last"]
theorem sc_are_board : FnScope N_are_board ["width", "height", "pins", "layers", "spacing"] (defScope s_are_board) := ⟨rfl, rfl, rfl, by decide +kernel, rfl, by decide +kernel, by decide +kernel⟩
abbrev s_board_init : Stmt := inClass (top 38) 0
abbrev N_board_init : List Str := ["self", "width", "height", "pins", "layers", "spacing", "row"]
theorem sc_board_init : FnScope N_board_init ["self", "width", "height", "pins", "layers", "spacing"] (defScope s_board_init) := ⟨rfl, rfl, rfl, by decide +kernel, rfl, by decide +kernel, by decide +kernel⟩
abbrev s_board_look_pin : Stmt := inClass (top 38) 6
abbrev N_board_look_pin : List Str := ["self", "number"]
theorem sc_board_look_pin : FnScope N_board_look_pin ["self", "number"] (defScope s_board_look_pin) := ⟨rfl, rfl, rfl, by decide +kernel, rfl, by decide +kernel, by decide +kernel⟩
abbrev s_l_bag : Stmt := top 49
abbrev N_l_bag : List Str := ["_law_script", "_law_at", "_law_cell", "_law_great", "_law_primes"]
theorem sc_l_bag : FnScope N_l_bag ["_law_script", "_law_at"] (defScope s_l_bag) := ⟨rfl, rfl, rfl, by decide +kernel, rfl, by decide +kernel, by decide +kernel⟩
abbrev s_l_take : Stmt := top 50
abbrev N_l_take : List Str := ["_law_bag_here", "_law_many", "_law_digit"]
theorem sc_l_take : FnScope N_l_take ["_law_bag_here", "_law_many"] (defScope s_l_take) := ⟨rfl, rfl, rfl, by decide +kernel, rfl, by decide +kernel, by decide +kernel⟩
abbrev s_l_made_of : Stmt := top 51
abbrev N_l_made_of : List Str := ["_law_bag_here", "_law_most", "_law_far", "_law_wide", "_law_high", "_law_many", "_law_pins", "_law_met", "_law_k", "_law_point", "_law_first", "_law_last"]
theorem sc_l_made_of : FnScope N_l_made_of ["_law_bag_here", "_law_most"] (defScope s_l_made_of) := ⟨rfl, rfl, rfl, by decide +kernel, rfl, by decide +kernel, by decide +kernel⟩
abbrev s_l_board : Stmt := top 52
abbrev N_l_board : List Str := ["_law_made"]
theorem sc_l_board : FnScope N_l_board ["_law_made"] (defScope s_l_board) := ⟨rfl, rfl, rfl, by decide +kernel, rfl, by decide +kernel, by decide +kernel⟩
abbrev s_board_made_of : Stmt := inClass (top 38) 5
abbrev N_board_made_of : List Str := ["self"]
theorem sc_board_made_of : FnScope N_board_made_of ["self"] (defScope s_board_made_of) := ⟨rfl, rfl, rfl, by decide +kernel, rfl, by decide +kernel, by decide +kernel⟩
abbrev s_board_eq : Stmt := inClass (top 38) 1
abbrev N_board_eq : List Str := ["self", "other"]
theorem sc_board_eq : FnScope N_board_eq ["self", "other"] (defScope s_board_eq) := ⟨rfl, rfl, rfl, by decide +kernel, rfl, by decide +kernel, by decide +kernel⟩
abbrev s_board_len : Stmt := inClass (top 38) 2
abbrev N_board_len : List Str := ["self"]
theorem sc_board_len : FnScope N_board_len ["self"] (defScope s_board_len) := ⟨rfl, rfl, rfl, by decide +kernel, rfl, by decide +kernel, by decide +kernel⟩
abbrev s_board_str : Stmt := inClass (top 38) 3
abbrev N_board_str : List Str := ["self", "rows", "x", "y", "first", "last"]
theorem sc_board_str : FnScope N_board_str ["self"] (defScope s_board_str) := ⟨rfl, rfl, rfl, by decide +kernel, rfl, by decide +kernel, by decide +kernel⟩
abbrev s_number_in : Stmt := top 43
abbrev N_number_in : List Str := ["word", "figures", "sign"]
theorem sc_number_in : FnScope N_number_in ["word", "figures"] (defScope s_number_in) := ⟨rfl, rfl, rfl, by decide +kernel, rfl, by decide +kernel, by decide +kernel⟩
abbrev s_whole_in : Stmt := top 44
abbrev N_whole_in : List Str := ["word", "found"]
theorem sc_whole_in : FnScope N_whole_in ["word"] (defScope s_whole_in) := ⟨rfl, rfl, rfl, by decide +kernel, rfl, by decide +kernel, by decide +kernel⟩
abbrev s_four_in : Stmt := top 46
abbrev N_four_in : List Str := ["text", "found", "word"]
theorem sc_four_in : FnScope N_four_in ["text"] (defScope s_four_in) := ⟨rfl, rfl, rfl, by decide +kernel, rfl, by decide +kernel, by decide +kernel⟩
abbrev s_show_board : Stmt := top 45
abbrev N_show_board : List Str := ["board"]
theorem sc_show_board : FnScope N_show_board ["board"] (defScope s_show_board) := ⟨rfl, rfl, rfl, by decide +kernel, rfl, by decide +kernel, by decide +kernel⟩
abbrev s_read_board : Stmt := top 47
abbrev N_read_board : List Str := ["text", "width", "height", "layers", "spacing", "rows", "e", "part", "row"]
theorem sc_read_board : FnScope N_read_board ["text"] (defScope s_read_board) := ⟨rfl, rfl, rfl, by decide +kernel, rfl, by decide +kernel, by decide +kernel⟩
abbrev s_l_sign : Stmt := top 53
abbrev N_l_sign : List Str := ["_law_bag_here", "_law_most", "_law_signs"]
theorem sc_l_sign : FnScope N_l_sign ["_law_bag_here", "_law_most"] (defScope s_l_sign) := ⟨rfl, rfl, rfl, by decide +kernel, rfl, by decide +kernel, by decide +kernel⟩
abbrev s_l_bent : Stmt := top 54
abbrev N_l_bent : List Str := ["_law_bag_here", "_law_text_here", "_law_turn", "_law_way", "_law_spot", "_law_sign_here", "_law_far", "_law_behind"]
theorem sc_l_bent : FnScope N_l_bent ["_law_bag_here", "_law_text_here"] (defScope s_l_bent) := ⟨rfl, rfl, rfl, by decide +kernel, rfl, by decide +kernel, by decide +kernel⟩
abbrev s_l_word_bent : Stmt := top 55
abbrev N_l_word_bent : List Str := ["_law_bag_here", "_law_text_here", "_law_words", "_law_at", "_law_far", "_law_way", "_law_word"]
theorem sc_l_word_bent : FnScope N_l_word_bent ["_law_bag_here", "_law_text_here"] (defScope s_l_word_bent) := ⟨rfl, rfl, rfl, by decide +kernel, rfl, by decide +kernel, by decide +kernel⟩
abbrev s_l_number : Stmt := top 56
abbrev N_l_number : List Str := ["_law_word", "_law_most", "_law_sign_here"]
theorem sc_l_number : FnScope N_l_number ["_law_word", "_law_most"] (defScope s_l_number) := ⟨rfl, rfl, rfl, by decide +kernel, rfl, by decide +kernel, by decide +kernel⟩
abbrev s_l_alone : Stmt := top 57
abbrev N_l_alone : List Str := ["_law_e"]
theorem sc_l_alone : FnScope N_l_alone ["_law_e"] (defScope s_l_alone) := ⟨rfl, rfl, rfl, by decide +kernel, rfl, by decide +kernel, by decide +kernel⟩
abbrev s_l_text : Stmt := top 61
abbrev N_l_text : List Str := ["_law_made", "_law_rows", "_law_row", "_law_one"]
theorem sc_l_text : FnScope N_l_text ["_law_made"] (defScope s_l_text) := ⟨rfl, rfl, rfl, by decide +kernel, rfl, by decide +kernel, by decide +kernel⟩
abbrev s_l_read : Stmt := top 58
abbrev N_l_read : List Str := ["_law_reader", "_law_text_here", "_law_e"]
theorem sc_l_read : FnScope N_l_read ["_law_reader", "_law_text_here"] (defScope s_l_read) := ⟨rfl, rfl, rfl, by decide +kernel, rfl, by decide +kernel, by decide +kernel⟩
abbrev s_l_whole : Stmt := top 59
abbrev N_l_whole : List Str := ["_law_word"]
theorem sc_l_whole : FnScope N_l_whole ["_law_word"] (defScope s_l_whole) := ⟨rfl, rfl, rfl, by decide +kernel, rfl, by decide +kernel, by decide +kernel⟩
abbrev s_l_board_in : Stmt := top 60
abbrev N_l_board_in : List Str := ["_law_text_here", "_law_rows", "_law_wide", "_law_high", "_law_many", "_law_apart_by", "_law_pins", "_law_x", "_law_y", "_law_first", "_law_last", "_law_part", "_law_word", "_law_row", "_law_one", "_law_pin"]
theorem sc_l_board_in : FnScope N_l_board_in ["_law_text_here"] (defScope s_l_board_in) := ⟨rfl, rfl, rfl, by decide +kernel, rfl, by decide +kernel, by decide +kernel⟩
abbrev s_l_right : Stmt := top 62
abbrev N_l_right : List Str := ["_law_text_here", "_law_due", "_law_told"]
theorem sc_l_right : FnScope N_l_right ["_law_text_here"] (defScope s_l_right) := ⟨rfl, rfl, rfl, by decide +kernel, rfl, by decide +kernel, by decide +kernel⟩
abbrev s_law : Stmt := top 63
abbrev N_law : List Str := ["_law_script", "_law_k", "_law_bag_here", "_law_made", "_law_text_here", "_law_board_here", "_law_texts", "_law_some", "_law_thing", "_law_told", "_law_turn", "_law_one"]
theorem sc_law : FnScope N_law ["_law_script"] (defScope s_law) := ⟨rfl, rfl, rfl, by decide +kernel, rfl, by decide +kernel, by decide +kernel⟩
abbrev s_nopin_init : Stmt := inClass (top 11) 0
abbrev N_nopin_init : List Str := ["self", "pin"]
theorem sc_nopin_init : FnScope N_nopin_init ["self", "pin"] (defScope s_nopin_init) := ⟨rfl, rfl, rfl, by decide +kernel, rfl, by decide +kernel, by decide +kernel⟩
structure Bs (mg : Str → Option Value) : Prop where
  b_ValueError : mg "ValueError" = none
  b_abs : mg "abs" = none
  b_all : mg "all" = none
  b_bool : mg "bool" = none
  b_int : mg "int" = none
  b_isinstance : mg "isinstance" = none
  b_len : mg "len" = none
  b_list : mg "list" = none
  b_max : mg "max" = none
  b_min : mg "min" = none
  b_range : mg "range" = none
  b_set : mg "set" = none
  b_str : mg "str" = none
  b_tuple : mg "tuple" = none
structure Cl_Board (K : PySem.W.Frag) (C : Addr) : Prop where
  cls : Cls K C
  n_wide : NoAttr K C "wide"
  n_high : NoAttr K C "high"
  n_pin_rows : NoAttr K C "pin_rows"
  n_layer_count : NoAttr K C "layer_count"
  n_apart_by : NoAttr K C "apart_by"
  n_spots : NoAttr K C "spots"
  n_kept_gates : NoAttr K C "kept_gates"
  n_kept_triangles : NoAttr K C "kept_triangles"
abbrev xn (mg : Str → Option Value) : Str → Option Value := fun x => if x ∈ (["NoText", "NoBoard", "NoPin"] : List Str) then mg x else none
theorem xn_at {mg : Str → Option Value} {x : Str} {v : Value} (m : mg x = some v) (h : x ∈ (["NoText", "NoBoard", "NoPin"] : List Str) := by decide) : xn mg x = some v := by
  unfold xn
  rw [if_pos h]
  exact m
theorem xn_or {mg : Str → Option Value} {x : Str} {c : Value} (h : xn mg x = some c) : (x = "NoText" ∧ mg "NoText" = some c) ∨ (x = "NoBoard" ∧ mg "NoBoard" = some c) ∨ (x = "NoPin" ∧ mg "NoPin" = some c) := by
  unfold xn at h
  split at h
  · rename_i hm
    simp only [List.mem_cons, List.not_mem_nil, or_false] at hm
    rcases hm with rfl | rfl | rfl <;> simp [h]
  · cases h
section
variable {P : Program} {w : World} {K : PySem.W.Frag} {mg : Str → Option Value} {base : Heap}
theorem xi_NoPin {f : Addr} {fd : FuncData} (F : Fun K "__init__" "NoPin.__init__" s_nopin_init f fd) : FnOk P w K mg base CX0 1 f fd ["self", "pin"] (XO.spI1 K "IndexError.__new__" XO.tlIE "pin") :=
  F.ok sc_nopin_init (fun vs H Q E h => by obtain ⟨_, _, _, e, _⟩ := h; rw [e]; rfl) fun cdv A outer s H vs Q E hr h => ⟨XO.tOs1 K "IndexError.__new__" XO.tlIE "pin" (tVar 0) (tVar 1), pss_one (XO.ps_os1 (pv 0) (pv 1)), XO.init_ok (P := P) (w := w) (D := ⟨fun _ _ => False, fun _ _ => False, fun _ _ => False, fun _ _ => False⟩) h⟩
def P_is_whole : PT3 := fun ds μ Φ => ∃ d, ds = [d] ∧ Kd μ d ∧ Φ (.bl (wh d)) μ
theorem len_is_whole (ds : List D) (μ : M) (Φ : D → M → Prop) (h : P_is_whole ds μ Φ) : ds.length = 1 := by
  obtain ⟨_, rfl, _⟩ := h
  rfl
def P_is_within : PT3 := fun ds μ Φ => ∃ d lo hi, ds = [d, .int lo, .int hi] ∧ Kd μ d ∧ Φ (.bl (wi d lo hi)) μ
theorem len_is_within (ds : List D) (μ : M) (Φ : D → M → Prop) (h : P_is_within ds μ Φ) : ds.length = 3 := by
  obtain ⟨_, _, _, rfl, _⟩ := h
  rfl
def P_is_row : PT3 := fun ds μ Φ => ∃ d lo hi, ds = [d, .int lo, .int hi] ∧ Kd μ d ∧ Φ (.bl (ir d lo hi)) μ
theorem len_is_row (ds : List D) (μ : M) (Φ : D → M → Prop) (h : P_is_row ds μ Φ) : ds.length = 3 := by
  obtain ⟨_, _, _, rfl, _⟩ := h
  rfl
def P_are_whole : PT3 := fun ds μ Φ => ∃ d m, ds = [d, .int m] ∧ Kd μ d ∧ (∀ xs, d = .tup xs → xs.length ≤ 1000 ∧ ∀ x ∈ xs, Kd μ x) ∧ Φ (.bl (aw d m)) μ
theorem len_are_whole (ds : List D) (μ : M) (Φ : D → M → Prop) (h : P_are_whole ds μ Φ) : ds.length = 2 := by
  obtain ⟨_, _, rfl, _⟩ := h
  rfl
theorem ok_is_whole {f : Addr} {fd : FuncData} (F : Fun K "is_whole" "is_whole" s_is_whole f fd) (B : Bs mg) : FnOk P w K mg base CX0 1 f fd ["thing"] (spI K P_is_whole) := by
  refine Hold.out ?_
  simp (disch := (
  refine Hold.as ?_
  with_unfolding_all (
  refine F.ok sc_is_whole (fun vs H Q E h => spI_len h len_is_whole) (fun cdv A outer s H vs Q E hr h => ?_)
  have hu65 := hu65_of hr
  refine ⟨_, (pss_one (ps_ret (pe_and (pe_callB (call_isiK1 (K := K) rfl) (by rfl) B.b_isinstance (by decide +kernel) (pa_cons (pv 0) (pa_cons (pe_bltn (v := .ty "int") (by rfl) B.b_int (by decide +kernel) rfl) pa_nil))) (pe_one (pe_not (pe_callB (call_isiK1 (K := K) rfl) (by rfl) B.b_isinstance (by decide +kernel) (pa_cons (pv 0) (pa_cons (pe_bltn (v := .ty "bool") (by rfl) B.b_bool (by decide +kernel) rfl) pa_nil)))))))), body_ok h (fun ds μ Φ p => ?_)⟩
  (try dsimp only [cxOf, Cx.nox, Cx.wish, List.map_cons, List.map_nil])
  obtain ⟨d, rfl, ⟨n, hn⟩, q⟩ := p
  show AS K _ [some _] _ _
  cases d with
  | non => walk_at "go"; exact q
  | bl b =>
    walk_at "go"
    rw [if_pos (by decide +kernel)]
    walk_at "go"
    exact q
  | int i => walk_at "go"; exact q
  | str s => walk_at "go"; exact q
  | ty n => cases hn
  | tup xs => walk_at "go"; exact q
  | rol xs => walk_at "go"; exact q
  | ref a =>
    have hk : n = "list" ∨ n = "dict" := by
      unfold tyn at hn
      simp only at hn
      split at hn <;> first | (cases hn; first | exact .inl rfl | exact .inr rfl) | cases hn
    rcases hk with rfl | rfl
    · walk_at "go"
      refine rc_isi hn (b := false) (by decide +kernel) ?_
      walk_at "go"
      exact q
    · walk_at "go"
      refine rc_isi hn (b := false) (by decide +kernel) ?_
      walk_at "go"
      exact q))) only [↓Hold.on]
theorem ok_is_within {f : Addr} {fd : FuncData} (F : Fun K "is_within" "is_within" s_is_within f fd) (B : Bs mg) (G_is_whole : Def P w K mg base "is_whole" ["thing"] 1 (spI K P_is_whole)) : FnOk P w K mg base CX0 2 f fd ["thing", "least", "most"] (spI K P_is_within) := by
  refine Hold.out ?_
  simp (disch := (
  refine Hold.as ?_
  with_unfolding_all (
  refine F.ok sc_is_within (fun vs H Q E h => spI_len h len_is_within) (fun cdv A outer s H vs Q E hr h => ?_)
  have hu65 := hu65_of hr
  refine ⟨_, (pss_one (ps_ret (pe_and (pe_def G_is_whole (hr.mono (by decide)) (by rfl) (pa_cons (pv 0) pa_nil)) (pe_one (pe_chain op_le op_le (pv 1) (pv 0) (pv 2)))))), body_ok h (fun ds μ Φ p => ?_)⟩
  (try dsimp only [cxOf, Cx.nox, Cx.wish, List.map_cons, List.map_nil])
  obtain ⟨d, lo, hi, rfl, hk, q⟩ := p
  show AS K _ [some _, some _, some _] _ _
  walk_at "go"
  refine ⟨d, rfl, hk, ?_⟩
  cases d with
  | int i =>
    walk_at "go"
    simp only [wi] at q
    by_cases h : lo ≤ i
    · simp only [h, decide_true, Bool.true_and] at q
      simp only [wh, if_true]
      walk_at "go"
      simp only [h, decide_true, if_true]
      walk_at "go"
      exact q
    · simp only [h, decide_false, Bool.false_and] at q
      simp only [wh, if_true]
      walk_at "go"
      simp only [h, decide_false, Bool.false_eq_true, if_false]
      exact q
  | non => walk_at "go"; exact q
  | bl b => walk_at "go"; exact q
  | str s => walk_at "go"; exact q
  | ty n => walk_at "go"; exact q
  | tup xs => walk_at "go"; exact q
  | rol xs => walk_at "go"; exact q
  | ref a => walk_at "go"; exact q))) only [↓Hold.on]
theorem ok_is_row {f : Addr} {fd : FuncData} (F : Fun K "is_row" "is_row" s_is_row f fd) (B : Bs mg) : FnOk P w K mg base CX0 1 f fd ["thing", "least", "most"] (spI K P_is_row) := by
  refine Hold.out ?_
  simp (disch := (
  refine Hold.as ?_
  with_unfolding_all (
  refine F.ok sc_is_row (fun vs H Q E h => spI_len h len_is_row) (fun cdv A outer s H vs Q E hr h => ?_)
  have hu65 := hu65_of hr
  refine ⟨_, (pss_one (ps_ret (pe_and (pe_callB (call_isiK1 (K := K) rfl) (by rfl) B.b_isinstance (by decide +kernel) (pa_cons (pv 0) (pa_cons (pe_bltn (v := .ty "tuple") (by rfl) B.b_tuple (by decide +kernel) rfl) pa_nil))) (pe_one (pe_chain op_le op_le (pv 1) (pe_callB (call_lenK (K := K) rfl) (by rfl) B.b_len (by decide +kernel) (pa_cons (pv 0) pa_nil)) (pv 2)))))), body_ok h (fun ds μ Φ p => ?_)⟩
  (try dsimp only [cxOf, Cx.nox, Cx.wish, List.map_cons, List.map_nil])
  obtain ⟨d, lo, hi, rfl, ⟨n, hn⟩, q⟩ := p
  show AS K _ [some _, some _, some _] _ _
  cases d with
  | non => walk_at "go"; exact q
  | bl b => walk_at "go"; exact q
  | int i => walk_at "go"; exact q
  | str s => walk_at "go"; exact q
  | ty n => cases hn
  | rol xs => walk_at "go"; exact q
  | tup xs =>
    walk_at "go"
    simp only [ir] at q
    by_cases h : lo ≤ (xs.length : Int)
    · simp only [h, decide_true, Bool.true_and] at q
      simp only [h, decide_true, if_true]
      walk_at "go"
      exact q
    · simp only [h, decide_false, Bool.false_and] at q
      simp only [h, decide_false, Bool.false_eq_true, if_false]
      exact q
  | ref a =>
    have hk : n = "list" ∨ n = "dict" := by
      unfold tyn at hn
      simp only at hn
      split at hn <;> first | (cases hn; first | exact .inl rfl | exact .inr rfl) | cases hn
    rcases hk with rfl | rfl
    · walk_at "go"
      refine rc_isi hn (b := false) (by decide +kernel) ?_
      walk_at "go"
      exact q
    · walk_at "go"
      refine rc_isi hn (b := false) (by decide +kernel) ?_
      walk_at "go"
      exact q))) only [↓Hold.on]
theorem ok_are_whole {f : Addr} {fd : FuncData} (F : Fun K "are_whole" "are_whole" s_are_whole f fd) (B : Bs mg) (G_is_row : Def P w K mg base "is_row" ["thing", "least", "most"] 1 (spI K P_is_row)) (G_is_whole : Def P w K mg base "is_whole" ["thing"] 1 (spI K P_is_whole)) : FnOk P w K mg base CX0 2 f fd ["thing", "many"] (spI K P_are_whole) := by
  refine Hold.out ?_
  simp (disch := (
  refine Hold.as ?_
  with_unfolding_all (
  refine F.ok sc_are_whole (fun vs H Q E h => spI_len h len_are_whole) (fun cdv A outer s H vs Q E hr h => ?_)
  have hu65 := hu65_of hr
  refine ⟨_, (pss_one (ps_ret (pe_and (pe_def G_is_row (hr.mono (by decide)) (by rfl) (pa_cons (pv 0) (pa_cons (pv 1) (pa_cons (pv 1) pa_nil)))) (pe_one (pe_callB (cr_allK (K := K) rfl rfl) (by rfl) B.b_all (by decide +kernel) (pa_cons (pe_lc (own := [("one", 2)]) (g := gName 2) (tt := tYes) rfl sc_are_whole.nd (pi_tupK (K := K) rfl (pv 0)) (blkOk_by (own := [("one", 2)]) (N := N_are_whole) (sc := defScope s_are_whole) (by decide +kernel)) (fun _ _ _ _ _ => (pg_name (i := 2) sc_are_whole.nd rfl (by first | exact Or.inl rfl | exact Or.inr rfl))) (fun _ _ _ _ _ => pts_nil) (fun _ _ _ _ _ => (pe_def G_is_whole (hr.mono (by decide)) (by rfl) (pa_cons (pv 2) pa_nil)))) pa_nil)))))), body_okU h (fun ds μ Φ p => ?_)⟩
  (try dsimp only [cxOf, Cx.nox, Cx.wish, List.map_cons, List.map_nil])
  obtain ⟨d, m, rfl, hk, hx, q⟩ := p
  show AS K _ [some _, some _, none] _ _
  walk_at "go"
  refine ⟨d, m, m, rfl, hk, ?_⟩
  by_cases hr : ir d m m = true
  · cases d with
    | tup xs =>
      obtain ⟨h1, h2⟩ := hx xs rfl
      have hl : (xs.length : Int) = m := by
        simp only [ir, Bool.and_eq_true, decide_eq_true_eq] at hr
        omega
      rw [hr]
      walk_at "go"
      refine a_lc1 (fun x => .bl (wh x)) (fun _ => true) (ai_T ?_)
      walk_at "go"
      refine ⟨by have := sizeLine_eq; omega, fun x hx => at_yes ⟨rfl, rfl⟩, fun x hx _ => ?_, fun l hl2 => ?_⟩
      · walk_at "nf"
        walk_at "go"
        exact ⟨x, rfl, h2 x hx, rfl, rfl⟩
      · walk_at "go"
        have e : List.map (fun x => D.bl (wh x)) (List.filter (fun _ => true) xs) = (xs.map wh).map D.bl := by
          rw [List.filter_eq_self.mpr (fun _ _ => rfl), List.map_map]; rfl
        rw [e]
        refine rc_all set_same ?_
        refine up_of (sub_new Sub.refl hl2) ?_
        have e2 : (xs.map wh).all id = xs.all wh := by rw [List.all_map]; rfl
        rw [e2]
        simp only [aw, hl, decide_true, Bool.true_and] at q
        exact q
    | non => cases hr
    | bl b => cases hr
    | int i => cases hr
    | str s => cases hr
    | ty n => cases hr
    | rol xs => cases hr
    | ref a => cases hr
  · have hf : ir d m m = false := by simpa using hr
    rw [hf]
    walk_at "go"
    refine up ?_
    have e : aw d m = false := by
      cases d <;> first | rfl | skip
      rename_i xs
      simp only [ir, aw] at hf ⊢
      rw [Bool.and_eq_false_iff] at hf ⊢
      left
      rcases hf with h | h <;> (simp only [decide_eq_false_iff_not] at h ⊢; omega)
    rw [e] at q
    exact q))) only [↓Hold.on]
def Kx (μ : M) (d : D) : Prop := Kd μ d ∧ ∀ xs, d = .tup xs → xs.length ≤ 1000 ∧ ∀ x ∈ xs, Kd μ x
def P_is_pin_row : PT3 := fun ds μ Φ => ∃ d w h l, ds = [d, .int w, .int h, .int l] ∧ Kx μ d ∧ Φ (.bl (pr d w h l)) μ
theorem len_is_pin_row (ds : List D) (μ : M) (Φ : D → M → Prop) (h : P_is_pin_row ds μ Φ) : ds.length = 4 := by
  obtain ⟨_, _, _, _, rfl, _⟩ := h
  rfl
def P_are_board : PT3 := fun ds μ Φ => ∃ w h p l s, ds = [w, h, p, l, s] ∧ Kd μ w ∧ Kd μ h ∧ Kd μ p ∧ Kd μ l ∧ Kd μ s ∧ (∀ rows, p = .tup rows → rows.length ≤ 1000 ∧ ∀ r ∈ rows, Kx μ r) ∧ Φ (.bl (ab w h p l s)) μ
theorem len_are_board (ds : List D) (μ : M) (Φ : D → M → Prop) (h : P_are_board ds μ Φ) : ds.length = 5 := by
  obtain ⟨_, _, _, _, _, rfl, _⟩ := h
  rfl
theorem ok_is_pin_row {f : Addr} {fd : FuncData} (F : Fun K "is_pin_row" "is_pin_row" s_is_pin_row f fd) (B : Bs mg) (G_are_whole : Def P w K mg base "are_whole" ["thing", "many"] 2 (spI K P_are_whole)) : FnOk P w K mg base CX0 3 f fd ["thing", "width", "height", "layers"] (spI K P_is_pin_row) := by
  refine Hold.out ?_
  simp (disch := (
  refine Hold.as ?_
  with_unfolding_all (
  refine F.ok sc_is_pin_row (fun vs H Q E h => spI_len h len_is_pin_row) (fun cdv A outer s H vs Q E hr h => ?_)
  have hu65 := hu65_of hr
  refine ⟨_, (pss_cons (ps_if (pt_not (pt_val (pe_def G_are_whole (hr.mono (by decide)) (by rfl) (pa_cons (pv 0) (pa_cons pe_int pa_nil))))) (pss_one (ps_ret pe_bl)) pss_nil)
      (pss_cons (ps_asg (pv 0) (pg_tup (by rfl) (pgs_cons (pg_name (i := 4) sc_is_pin_row.nd rfl (by first | exact Or.inl rfl | exact Or.inr rfl)) (pgs_cons (pg_name (i := 5) sc_is_pin_row.nd rfl (by first | exact Or.inl rfl | exact Or.inr rfl)) (pgs_cons (pg_name (i := 6) sc_is_pin_row.nd rfl (by first | exact Or.inl rfl | exact Or.inr rfl)) (pgs_cons (pg_name (i := 7) sc_is_pin_row.nd rfl (by first | exact Or.inl rfl | exact Or.inr rfl)) pgs_nil))))))
      (pss_one (ps_ret (pe_and (pe_chain op_lt op_lt pe_int (pv 4) (pv 1)) (pe_and (pe_chain op_lt op_lt pe_int (pv 5) (pv 2)) (pe_one (pe_chain3 op_le op_le op_lt pe_int (pv 6) (pv 7) (pv 3))))))))), body_ok h (fun ds μ Φ p => ?_)⟩
  (try dsimp only [cxOf, Cx.nox, Cx.wish, List.map_cons, List.map_nil])
  obtain ⟨d, w, h, l, rfl, ⟨hk, hx⟩, q⟩ := p
  show AS K _ [some _, some _, some _, some _, none, none, none, none] _ _
  walk_at "go"
  refine ⟨d, 4, rfl, hk, hx, ?_⟩
  by_cases hw : aw d 4 = true
  · obtain ⟨x, y, f, g, rfl⟩ := aw_four hw
    rw [hw]
    have fin : ∀ b, pr (.tup [.int x, .int y, .int f, .int g]) w h l = b → Φ (.bl b) μ := fun b e => e ▸ q
    walk_at "go"
    refine ite_d (fun h1 => ?_) (fun h1 => ?_)
    rotate_left
    · walk_at "go"
      exact fin _ (by simp [pr, h1])
    walk_at "go"
    refine ite_d (fun h2 => ?_) (fun h2 => ?_)
    rotate_left
    · exact fin _ (by simp [pr, h2])
    walk_at "go"
    refine ite_d (fun h3 => ?_) (fun h3 => ?_)
    rotate_left
    · walk_at "go"
      exact fin _ (by simp [pr, h3])
    walk_at "go"
    refine ite_d (fun h4 => ?_) (fun h4 => ?_)
    rotate_left
    · exact fin _ (by simp [pr, h4])
    walk_at "go"
    refine ite_d (fun h5 => ?_) (fun h5 => ?_)
    rotate_left
    · exact fin _ (by simp [pr, h5])
    walk_at "go"
    refine ite_d (fun h6 => ?_) (fun h6 => ?_)
    rotate_left
    · exact fin _ (by simp [pr, h6])
    walk_at "go"
    exact fin _ (by simp [pr, h1, h2, h3, h4, h5, h6])
  · have hf : aw d 4 = false := by simpa using hw
    rw [hf]
    walk_at "go"
    rw [aw_pr hf] at q
    exact q))) only [↓Hold.on]
theorem ok_are_board {f : Addr} {fd : FuncData} (F : Fun K "are_board" "are_board" s_are_board f fd) (B : Bs mg) (V_MOST : Cst mg "MOST" (.int 1000000)) (V_MOST_LAYERS : Cst mg "MOST_LAYERS" (.int 3)) (V_MOST_PINS : Cst mg "MOST_PINS" (.int 16)) (G_is_pin_row : Def P w K mg base "is_pin_row" ["thing", "width", "height", "layers"] 3 (spI K P_is_pin_row)) (G_is_row : Def P w K mg base "is_row" ["thing", "least", "most"] 1 (spI K P_is_row)) (G_is_within : Def P w K mg base "is_within" ["thing", "least", "most"] 2 (spI K P_is_within)) : FnOk P w K mg base CX0 4 f fd ["width", "height", "pins", "layers", "spacing"] (spI K P_are_board) := by
  refine Hold.out ?_
  simp (disch := (
  refine Hold.as ?_
  with_unfolding_all (
  refine F.ok sc_are_board (fun vs H Q E h => spI_len h len_are_board) (fun cdv A outer s H vs Q E hr h => ?_)
  have hu65 := hu65_of hr
  refine ⟨_, (pss_cons (ps_if (PW.pt (pw_or (pt_not (pt_val (pe_def G_is_within (hr.mono (by decide)) (by rfl) (pa_cons (pv 0) (pa_cons pe_int (pa_cons (pe_cst V_MOST (by rfl)) pa_nil)))))) (pw_or (pt_not (pt_val (pe_def G_is_within (hr.mono (by decide)) (by rfl) (pa_cons (pv 1) (pa_cons pe_int (pa_cons (pe_cst V_MOST (by rfl)) pa_nil)))))) (pw_or1 (pt_not (pt_val (pe_def G_is_within (hr.mono (by decide)) (by rfl) (pa_cons (pv 3) (pa_cons pe_int (pa_cons (pe_cst V_MOST_LAYERS (by rfl)) pa_nil)))))))))) (pss_one (ps_ret pe_bl)) pss_nil)
      (pss_cons (ps_if (PW.pt (pw_or (pt_not (pt_val (pe_def G_is_within (hr.mono (by decide)) (by rfl) (pa_cons (pv 4) (pa_cons pe_int (pa_cons (pe_cst V_MOST (by rfl)) pa_nil)))))) (pw_or1 (pt_not (pt_val (pe_def G_is_row (hr.mono (by decide)) (by rfl) (pa_cons (pv 2) (pa_cons pe_int (pa_cons (pe_cst V_MOST_PINS (by rfl)) pa_nil))))))))) (pss_one (ps_ret pe_bl)) pss_nil)
      (pss_cons (ps_if (pt_not (pt_val (pe_callB (cr_allK (K := K) rfl rfl) (by rfl) B.b_all (by decide +kernel) (pa_cons (pe_lc (own := [("row", 5)]) (g := gName 5) (tt := tYes) rfl sc_are_board.nd (pi_tupK (K := K) rfl (pv 2)) (blkOk_by (own := [("row", 5)]) (N := N_are_board) (sc := defScope s_are_board) (by decide +kernel)) (fun _ _ _ _ _ => (pg_name (i := 5) sc_are_board.nd rfl (by first | exact Or.inl rfl | exact Or.inr rfl))) (fun _ _ _ _ _ => pts_nil) (fun _ _ _ _ _ => (pe_def G_is_pin_row (hr.mono (by decide)) (by rfl) (pa_cons (pv 5) (pa_cons (pv 0) (pa_cons (pv 1) (pa_cons (pv 3) pa_nil))))))) pa_nil)))) (pss_one (ps_ret pe_bl)) pss_nil)
      (pss_one (ps_ret (pe_cmpR op_eq (pe_callB ST.cr_lenST (by rfl) B.b_len (by decide +kernel) (pa_cons (ST.pe_scT (own := [("x", 6), ("y", 7), ("first", 8), ("last", 9)]) (g := gTup K 4 (gCons (gName 6) (gCons (gName 7) (gCons (gName 8) (gCons (gName 9) gNil))))) (tt := tYes) (hu_of hr) rfl sc_are_board.nd (pi_tupK (K := K) rfl (pv 2)) (blkOk_by (own := [("x", 6), ("y", 7), ("first", 8), ("last", 9)]) (N := N_are_board) (sc := defScope s_are_board) (by decide +kernel)) (fun _ _ _ _ _ => (pg_tup (by rfl) (pgs_cons (pg_name (i := 6) sc_are_board.nd rfl (by first | exact Or.inl rfl | exact Or.inr rfl)) (pgs_cons (pg_name (i := 7) sc_are_board.nd rfl (by first | exact Or.inl rfl | exact Or.inr rfl)) (pgs_cons (pg_name (i := 8) sc_are_board.nd rfl (by first | exact Or.inl rfl | exact Or.inr rfl)) (pgs_cons (pg_name (i := 9) sc_are_board.nd rfl (by first | exact Or.inl rfl | exact Or.inr rfl)) pgs_nil)))))) (fun _ _ _ _ _ => pts_nil) (fun _ _ _ _ _ => (pe_tup (pa_cons (pv 6) (pa_cons (pv 7) pa_nil))))) pa_nil)) (pe_callB (call_lenK (K := K) rfl) (by rfl) B.b_len (by decide +kernel) (pa_cons (pv 2) pa_nil)) (by first | exact nomark _ | rfl))))))), body_okU h (fun ds μ Φ p => ?_)⟩
  (try dsimp only [cxOf, Cx.nox, Cx.wish, List.map_cons, List.map_nil])
  obtain ⟨w, h, p, l, s, rfl, kw, kh, kp, kl, ks, kr, q⟩ := p
  show AS K _ [some _, some _, some _, some _, some _, none, none, none, none, none] _ _
  have fin : ∀ b, ab w h p l s = b → Φ (.bl b) μ := fun b e => e ▸ q
  walk_at "go"
  refine ⟨w, 2, 1000000, rfl, kw, _, rfl, ?_⟩
  by_cases h1 : wi w 2 1000000 = true
  rotate_left
  · have f1 : wi w 2 1000000 = false := by simpa using h1
    rw [f1]
    walk_at "go"
    exact up (fin _ (by simp [ab, f1]))
  rw [h1]
  walk_at "go"
  refine ⟨h, 2, 1000000, rfl, kh, _, rfl, ?_⟩
  by_cases h2 : wi h 2 1000000 = true
  rotate_left
  · have f1 : wi h 2 1000000 = false := by simpa using h2
    rw [f1]
    walk_at "go"
    exact up (fin _ (by simp [ab, f1]))
  rw [h2]
  walk_at "go"
  refine ⟨l, 1, 3, rfl, kl, _, rfl, ?_⟩
  by_cases h3 : wi l 1 3 = true
  rotate_left
  · have f1 : wi l 1 3 = false := by simpa using h3
    rw [f1]
    walk_at "go"
    exact up (fin _ (by simp [ab, f1]))
  rw [h3]
  walk_at "go"
  refine ⟨s, 1, 1000000, rfl, ks, _, rfl, ?_⟩
  by_cases h4 : wi s 1 1000000 = true
  rotate_left
  · have f1 : wi s 1 1000000 = false := by simpa using h4
    rw [f1]
    walk_at "go"
    exact up (fin _ (by simp [ab, f1]))
  rw [h4]
  walk_at "go"
  obtain ⟨wn, rfl, _⟩ := wi_int h1
  obtain ⟨hn, rfl, _⟩ := wi_int h2
  obtain ⟨ln, rfl, _⟩ := wi_int h3
  refine ⟨p, 0, 16, rfl, kp, _, rfl, ?_⟩
  by_cases h5 : ir p 0 16 = true
  rotate_left
  · have f1 : ir p 0 16 = false := by simpa using h5
    rw [f1]
    walk_at "go"
    refine up (fin _ ?_)
    cases p <;> first | (simp [ab]; done) | skip
    rename_i rows
    simp only [ir] at f1
    have : ¬ rows.length ≤ 16 := by
      intro hh
      simp at f1
      omega
    simp [ab, this]
  rw [h5]
  walk_at "go"
  obtain ⟨rows, rfl, hl⟩ : ∃ rows, p = .tup rows ∧ rows.length ≤ 16 := by
    cases p <;> first | (simp [ir] at h5; done) | skip
    rename_i rows
    refine ⟨rows, rfl, ?_⟩
    simp [ir] at h5
    omega
  obtain ⟨_, kr⟩ := kr rows rfl
  have hz : rows.length < 63 := by omega
  refine a_lc1 (fun r => .bl (pr r wn hn ln)) (fun _ => true) (ai_T ?_)
  walk_at "go"
  refine ⟨by have := sizeLine_eq; omega, fun x hx => at_yes ⟨rfl, rfl⟩, fun x hx _ => ?_, fun l2 hl2 => ?_⟩
  · walk_at "nf"
    walk_at "go"
    exact ⟨x, wn, hn, ln, rfl, kr x hx, rfl, rfl⟩
  walk_at "go"
  have e1 : List.map (fun r => D.bl (pr r wn hn ln)) (List.filter (fun _ => true) rows) = (rows.map fun r => pr r wn hn ln).map D.bl := by
    rw [List.filter_eq_self.mpr (fun _ _ => rfl), List.map_map]; rfl
  rw [e1]
  refine rc_all set_same ?_
  have e2 : (rows.map fun r => pr r wn hn ln).all id = rows.all fun r => pr r wn hn ln := by rw [List.all_map]; rfl
  rw [e2]
  by_cases h6 : (rows.all fun r => pr r wn hn ln) = true
  rotate_left
  · have f1 : (rows.all fun r => pr r wn hn ln) = false := by simpa using h6
    rw [f1]
    refine ⟨_, rfl, ?_⟩
    walk_at "go"
    exact up_of (sub_new Sub.refl hl2) (fin _ (by simp only [ab, f1, Bool.and_false, Bool.false_and]))
  rw [h6]
  refine ⟨_, rfl, ?_⟩
  walk_at "go"
  have hs : ∀ r ∈ rows, ∃ x y f g : Int, r = .tup [.int x, .int y, .int f, .int g] := fun r hr => by
    obtain ⟨x, y, f, g, e, _⟩ := pr_int (List.all_eq_true.mp h6 r hr)
    exact ⟨x, y, f, g, e⟩
  refine ai_T ?_
  walk_at "go"
  refine ⟨spot, hz, fun r hr => ?_, fun n hn2 => ?_⟩
  · obtain ⟨x, y, f, g, rfl⟩ := hs r hr
    refine ⟨_, ⟨rfl, rfl⟩, rfl, ?_⟩
    walk_at "nf"
    walk_at "go"
    exact ⟨rfl, rfl⟩
  walk_at "go"
  refine up_of (sub_new Sub.refl hl2) (fin _ ?_)
  by_cases h7 : (rows.map spot).Nodup
  · have e := num_all h7 hn2
    rw [List.length_map] at e
    simp only [ab, h1, h2, h3, h4, h6, h7, hl, decide_true, Bool.and_true, e]
  · have e := num_some h7 hn2
    rw [List.length_map] at e
    have e8 : ¬ ((n : Int) = rows.length) := by omega
    simp only [ab, h1, h2, h3, h4, h6, h7, hl, decide_true, Bool.and_true, decide_false, Bool.and_false, e8]))) only [↓Hold.on]
/-- a board stands at b -/
def Brd (C : Addr) (μ : M) (b : Addr) (w h : Int) (rows : List R4) (l s : Int) (sp kg kt : Addr) : Prop := ∃ (dx : Addr) (gl tl : List Int), (Lvs l gl ∧ Lvs l tl ∧ kg ≠ kt) ∧
  μ b = some (.ins C dx [("wide", .int w), ("high", .int h), ("pin_rows", .tup (rows.map encR)), ("layer_count", .int l), ("apart_by", .int s), ("spots", .ref sp), ("kept_gates", .ref kg), ("kept_triangles", .ref kt)]) ∧
  μ sp = some (.lst ((spots w h rows).map encS)) ∧ μ kg = some (.dK (gl.map fun lv => (Sum.inl lv, gatesD w h rows lv))) ∧ μ kt = some (.dK (tl.map fun lv => (Sum.inl lv, trisD w h rows lv)))
def P_board_init (C : Addr) : PT4 := fun ds μ Φ Ξ => ∃ b dx w h p l s, ds = [.ref b, w, h, p, l, s] ∧ μ b = some (.ins C dx []) ∧ Kd μ w ∧ Kd μ h ∧ Kd μ p ∧ Kd μ l ∧ Kd μ s ∧ (∀ rows, p = .tup rows → rows.length ≤ 1000 ∧ ∀ r ∈ rows, Kx μ r) ∧
  (∀ wn hn rows ln sn, ab w h p l s = true → w = .int wn → h = .int hn → p = .tup (rows.map encR) → l = .int ln → s = .int sn → ∀ μ' sp kg kt, SubB b μ μ' → μ sp = none → μ kg = none → μ kt = none → Brd C μ' b wn hn rows ln sn sp kg kt → Φ .non μ') ∧ (ab w h p l s = false → Ξ "NoBoard" none μ)
theorem len_board_init (C : Addr) (ds : List D) (μ : M) (Φ : D → M → Prop) (Ξ : XW) (h : P_board_init C ds μ Φ Ξ) : ds.length = 6 := by
  obtain ⟨_, _, _, _, _, _, _, rfl, _⟩ := h
  rfl
theorem rows_of {w h l : Int} : ∀ {ds : List D}, (ds.all fun r => pr r w h l) = true → ∃ rows : List R4, ds = rows.map encR
  | [], _ => ⟨[], rfl⟩
  | d :: ds, h => by
    rw [List.all_cons, Bool.and_eq_true] at h
    obtain ⟨x, y, f, g, e, _⟩ := pr_int h.1
    obtain ⟨rows, e2⟩ := rows_of h.2
    exact ⟨(x, y, f, g) :: rows, by rw [e, e2]; rfl⟩
theorem ab_of {w h p l s : D} (k : ab w h p l s = true) : ∃ (wn hn ln sn : Int) (rows : List R4), w = .int wn ∧ h = .int hn ∧ p = .tup (rows.map encR) ∧ l = .int ln ∧ s = .int sn ∧ rows.length ≤ 16 := by
  simp only [ab, Bool.and_eq_true] at k
  obtain ⟨⟨⟨⟨h1, h2⟩, h3⟩, h4⟩, h5⟩ := k
  obtain ⟨wn, rfl, _⟩ := wi_int h1
  obtain ⟨hn, rfl, _⟩ := wi_int h2
  obtain ⟨ln, rfl, _⟩ := wi_int h3
  obtain ⟨sn, rfl, _⟩ := wi_int h4
  cases p <;> first | (simp at h5; done) | skip
  rename_i ds
  simp only [Bool.and_eq_true, decide_eq_true_eq] at h5
  obtain ⟨rows, e⟩ := rows_of h5.1.2
  exact ⟨wn, hn, ln, sn, rows, rfl, rfl, by rw [e], rfl, rfl, by rw [e, List.length_map] at h5; exact h5.1.1⟩
def xyOf : D → D
  | .tup (x :: y :: _) => .tup [x, y]
  | _ => .non
theorem ok_board_init {f : Addr} {fd : FuncData} {kws : List (Str × V)} (F : FunD K "__init__" "Board.__init__" (defArgs s_board_init) (defBody s_board_init) (defScope s_board_init) [] kws f fd) (B : Bs mg) {C_Board : Addr} (K_Board : Cl_Board K C_Board) {C_NoBoard : Addr} (E_NoBoard : Exc0 K mg "NoBoard" C_NoBoard) (G_are_board : Def P w K mg base "are_board" ["width", "height", "pins", "layers", "spacing"] 4 (spI K P_are_board)) : FnOk P w K mg base (L2N.CX P w) 6 f fd ["self", "width", "height", "pins", "layers", "spacing"] (spX K (xn mg) (P_board_init C_Board)) := by
  refine Hold.out ?_
  simp (disch := (
  refine Hold.as ?_
  with_unfolding_all (
  refine F.ok (CX := L2N.CX P w) sc_board_init (fun vs H Q E h => spX_len h (len_board_init C_Board)) (fun cdv A outer s H vs Q E hr h => ?_)
  have hu65 := hu65_of hr
  refine ⟨_, (pss_cons (ps_if (pt_not (pt_val (pe_def G_are_board (hr.mono (by decide)) (by rfl) (pa_cons (pv 1) (pa_cons (pv 2) (pa_cons (pv 3) (pa_cons (pv 4) (pa_cons (pv 5) pa_nil)))))))) (pss_one (L2N.ps_raise rfl (L2N.takes_of rfl rfl rfl rfl) (ZN.pmk_e0 E_NoBoard (by rfl)))) pss_nil)
      (pss_cons (ps_asg (pe_tup (pa_cons (pv 1) (pa_cons (pv 2) pa_nil))) (pg_tup (by rfl) (pgs_cons (pg_fldK (K := K) rfl (pv 0)) (pgs_cons (pg_fldK (K := K) rfl (pv 0)) pgs_nil))))
      (pss_cons (ps_fldK (K := K) rfl (pv 0) (pv 3) rfl)
      (pss_cons (ps_fldK (K := K) rfl (pv 0) (pv 4) rfl)
      (pss_cons (ps_fldK (K := K) rfl (pv 0) (pv 5) rfl)
      (pss_cons (ps_fldK (K := K) rfl (pv 0) (pe_op op_cat (pe_lst (pa_cons (pe_tup (pa_cons pe_int (pa_cons pe_int pa_nil))) (pa_cons (pe_tup (pa_cons (pv 1) (pa_cons pe_int pa_nil))) (pa_cons (pe_tup (pa_cons (pv 1) (pa_cons (pv 2) pa_nil))) (pa_cons (pe_tup (pa_cons pe_int (pa_cons (pv 2) pa_nil))) pa_nil))))) (pe_lc (own := [("row", 6)]) (g := gName 6) (tt := tYes) rfl sc_board_init.nd (pi_tupK (K := K) rfl (pv 3)) (blkOk_by (own := [("row", 6)]) (N := N_board_init) (sc := defScope s_board_init) (by decide +kernel)) (fun _ _ _ _ _ => (pg_name (i := 6) sc_board_init.nd rfl (by first | exact Or.inl rfl | exact Or.inr rfl))) (fun _ _ _ _ _ => pts_nil) (fun _ _ _ _ _ => (pe_tup (pa_cons (pe_ix (ix_seqK (K := K) rfl) (pv 6) pe_int (fun _ _ => rfl)) (pa_cons (pe_ix (ix_seqK (K := K) rfl) (pv 6) pe_int (fun _ _ => rfl)) pa_nil)))))) rfl)
      (pss_cons (ps_fldK (K := K) rfl (pv 0) pe_dnewK rfl)
      (pss_one (ps_fldK (K := K) rfl (pv 0) pe_dnewK rfl))))))))), body_okX h (fun ds μ Φ Ξ p => ?_)⟩
  (try dsimp only [cxOf, Cx.nox, Cx.wish, List.map_cons, List.map_nil])
  obtain ⟨b, dx, w, h, p, l, s, rfl, hb, kw, kh, kp, kl, ks, kr, qy, qn⟩ := p
  show AS K _ [some _, some _, some _, some _, some _, some _, none] _ _
  walk_at "go"
  refine ⟨w, h, p, l, s, rfl, kw, kh, kp, kl, ks, kr, _, rfl, ?_⟩
  by_cases ha : ab w h p l s = true
  rotate_left
  · have hf : ab w h p l s = false := by simpa using ha
    rw [hf]
    walk_at "go"
    exact s_raise0 (x := "NoBoard") (xn_at E_NoBoard.mg) (qn hf)
  obtain ⟨wn, hn, ln, sn, rows, rfl, rfl, rfl, rfl, rfl, hlen⟩ := ab_of ha
  rw [ha]
  walk_at "go"
  refine g_fld ?_
  walk_at "go"
  refine ⟨b, C_Board, dx, _, rfl, hb, K_Board.cls, K_Board.n_wide, Nat.le_of_ble_eq_true rfl, ?_⟩
  walk_at "go"
  refine g_fld ?_
  walk_at "go"
  refine ⟨b, C_Board, dx, _, rfl, set_same, K_Board.cls, K_Board.n_high, Nat.le_of_ble_eq_true rfl, ?_⟩
  rw [set_set]
  walk_at "go"
  refine s_fld ?_
  walk_at "go"
  refine ⟨b, C_Board, dx, _, rfl, set_same, K_Board.cls, K_Board.n_pin_rows, Nat.le_of_ble_eq_true rfl, ?_⟩
  rw [set_set]
  walk_at "go"
  refine s_fld ?_
  walk_at "go"
  refine ⟨b, C_Board, dx, _, rfl, set_same, K_Board.cls, K_Board.n_layer_count, Nat.le_of_ble_eq_true rfl, ?_⟩
  rw [set_set]
  walk_at "go"
  refine s_fld ?_
  walk_at "go"
  refine ⟨b, C_Board, dx, _, rfl, set_same, K_Board.cls, K_Board.n_apart_by, Nat.le_of_ble_eq_true rfl, ?_⟩
  rw [set_set]
  walk_at "go"
  refine s_fld ?_
  walk_at "go"
  intro l1 hl1
  have ne1 := none_ne hl1
  walk_at "go"
  refine a_lc1 xyOf (fun _ => true) (ai_T ?_)
  walk_at "go"
  refine ⟨by rw [List.length_map]; have := sizeLine_eq; omega, fun x hx => at_yes ⟨rfl, rfl⟩, fun x hx _ => ?_, fun l2 hl2 => ?_⟩
  · obtain ⟨r, _, rfl⟩ := List.mem_map.mp hx
    walk_at "nf"
    walk_at "go"
    exact ⟨rfl, rfl⟩
  walk_at "go"
  have e2 : List.map xyOf (List.filter (fun _ => true) (rows.map encR)) = rows.map fun r => pt r.1 r.2.1 := by
    rw [List.filter_eq_self.mpr (fun _ _ => rfl), List.map_map]; rfl
  rw [e2]
  have ne2 := none_ne hl2
  have ne3 := none_ne (none_back hl2)
  refine ro_cat (by walk_at "mu") (by walk_at "mu") (by rw [List.length_map]; have := sizeLine_eq; simp only [List.length_cons, List.length_nil]; omega) fun l3 hl3 => ?_
  have ne4 := none_ne hl3
  have ne5 := none_ne (none_back hl3)
  have ne6 := none_ne (none_back (none_back hl3))
  walk_at "go"
  refine ⟨b, C_Board, dx, _, rfl, by walk_at "mu", K_Board.cls, K_Board.n_spots, Nat.le_of_ble_eq_true rfl, ?_⟩
  walk_at "go"
  refine s_fld ?_
  refine a_dnewK fun kg hkg => ?_
  walk_at "go"
  have nk1 := none_ne hkg
  have nk2 := none_ne (none_back hkg)
  have nk3 := none_ne (none_back (none_back hkg))
  have nk4 := none_ne (none_back (none_back (none_back hkg)))
  refine ⟨b, C_Board, dx, _, rfl, by walk_at "mu", K_Board.cls, K_Board.n_kept_gates, Nat.le_of_ble_eq_true rfl, ?_⟩
  walk_at "go"
  refine s_fld ?_
  refine a_dnewK fun kt hkt => ?_
  walk_at "go"
  have nt1 := none_ne hkt
  have nt2 := none_ne (none_back hkt)
  have nt3 := none_ne (none_back (none_back hkt))
  have nt4 := none_ne (none_back (none_back (none_back hkt)))
  have nt5 := none_ne (none_back (none_back (none_back (none_back hkt))))
  refine ⟨b, C_Board, dx, _, rfl, by walk_at "mu", K_Board.cls, K_Board.n_kept_triangles, Nat.le_of_ble_eq_true rfl, ?_⟩
  have e3 : (spots wn hn rows).map encS = [D.tup [D.int 0, D.int 0], D.tup [D.int wn, D.int 0], D.tup [D.int wn, D.int hn], D.tup [D.int 0, D.int hn]] ++ List.map (fun r => pt r.1 r.2.1) rows := by
    unfold spots; rw [List.map_append, List.map_map]; rfl
  refine qy wn hn rows ln sn ha rfl rfl rfl rfl rfl _ l3 kg kt ?_ ?_ ?_ ?_ ⟨dx, [], [], ⟨lvs_nil, lvs_nil, Ne.symm nt2⟩, ?_, ?_, ?_, ?_⟩
  · exact sb_self (sb_new (sb_self (sb_new (sb_self (sb_new (sb_new (sb_new (sb_self sb_refl) hl1) hl2) hl3)) hkg)) hkt)
  · exact none_back (none_back (none_back hl3))
  · exact none_back (none_back (none_back (none_back (none_back hkg))))
  · exact none_back (none_back (none_back (none_back (none_back (none_back (none_back hkt))))))
  · exact set_same
  · rw [e3]
    have n1 : l3 ≠ b := by assumption
    walk_at "mu"
  · walk_at "mu"
  · walk_at "mu"))) only [↓Hold.on]
def P_board_look_pin (C : Addr) : PT4 := fun ds μ Φ Ξ => ∃ b d w h rows l s sp kg kt, ds = [.ref b, d] ∧ Brd C μ b w h rows l s sp kg kt ∧ Kd μ d ∧ (wi d 0 (rows.length + 3) = true → Φ .non μ) ∧
  (wi d 0 (rows.length + 3) = false → ∀ dx, μ dx = none → Ξ "NoPin" (some dx) (μ.set dx (.xd [("pin", d)])))
theorem len_board_look_pin (C : Addr) (ds : List D) (μ : M) (Φ : D → M → Prop) (Ξ : XW) (h : P_board_look_pin C ds μ Φ Ξ) : ds.length = 2 := by
  obtain ⟨_, _, _, _, _, _, _, _, _, _, rfl, _⟩ := h
  rfl
theorem ok_board_look_pin {f : Addr} {fd : FuncData} (F : Fun K "look_pin" "Board.look_pin" s_board_look_pin f fd) (B : Bs mg) {C_Board : Addr} (K_Board : Cl_Board K C_Board) {C_NoPin : Addr} (E_NoPin : Exc1 P w K mg base "NoPin" "pin" C_NoPin) (G_is_within : Def P w K mg base "is_within" ["thing", "least", "most"] 2 (spI K P_is_within)) : FnOk P w K mg base (L2.CX P w) 4 f fd ["self", "number"] (spX K (xn mg) (P_board_look_pin C_Board)) := by
  refine Hold.out ?_
  simp (disch := (
  refine Hold.as ?_
  with_unfolding_all (
  refine F.okX sc_board_look_pin (fun vs H Q E h => spX_len h (len_board_look_pin C_Board)) (fun cdv A outer s H vs Q E hr h => ?_)
  have hu65 := hu65_of hr
  refine ⟨_, (pss_one (ps_if (pt_not (pt_val (pe_def G_is_within (hr.mono (by decide)) (by rfl) (pa_cons (pv 1) (pa_cons pe_int (pa_cons (pe_op op_sub (pe_callB (call_lenK (K := K) rfl) (by rfl) B.b_len (by decide +kernel) (pa_cons (pe_fldK (K := K) rfl (pv 0) rfl) pa_nil)) pe_int) pa_nil)))))) (pss_one (ps_raise rfl (takes_of rfl rfl rfl rfl) (pmk_e1 E_NoPin (hr.mono (by decide)) (by rfl) (pa_cons (pv 1) pa_nil)))) pss_nil)), body_okX h (fun ds μ Φ Ξ p => ?_)⟩
  (try dsimp only [cxOf, Cx.nox, Cx.wish, List.map_cons, List.map_nil])
  obtain ⟨b, d, w, h, rows, l, s, sp, kg, kt, rfl, ⟨dx, gl, tl, lvs, hb, hsp, hkg, hkt⟩, kd, qy, qn⟩ := p
  show AS K _ [some _, some _] _ _
  walk_at "go"
  refine a_fld ?_
  walk_at "go"
  refine ⟨b, C_Board, dx, _, rfl, hb, K_Board.cls, K_Board.n_spots, _, rfl, ?_⟩
  walk_at "go"
  have el : ((List.map encS (spots w h rows)).length : Int) - 1 = rows.length + 3 := by
    unfold spots
    simp only [List.length_map, List.length_append, List.length_cons, List.length_nil]
    omega
  rw [el]
  refine ⟨d, _, _, rfl, kd, _, rfl, ?_⟩
  by_cases hd : wi d 0 (rows.length + 3) = true
  · rw [hd]
    walk_at "go"
    exact qy hd
  · have hf : wi d 0 (rows.length + 3) = false := by simpa using hd
    rw [hf]
    walk_at "go"
    refine s_raise1 (x := "NoPin") (xn_at E_NoPin.mg) ?_
    walk_at "go"
    exact fun dx hdx => qn hf dx hdx))) only [↓Hold.on]
theorem use_take {μ : M} {Φ : D → M → Prop} {b : Addr} {n c m : Int} (h : μ b = some (.lst [.int c, .int m])) (hm : BgOk m) (hn : 0 < n) (hz : Sz 4000 n) (q : ∀ d c' m', 0 ≤ d → d < n → Sz 4000 d → BgOk m' → Φ (.int d) (μ.set b (.lst [.int c', .int m']))) : P_l_take [.ref b, .int n] μ Φ := ⟨b, n, c, m, rfl, h, hm, hn, hz, q⟩
theorem use_bag {μ : M} {Φ : D → M → Prop} {ns : List Int} {k : Int} (h0 : 0 ≤ k) (h1 : k ≤ 1000) (q : ∀ p c m, μ p = none → BgOk m → Φ (.ref p) (μ.set p (.lst [.int c, .int m]))) : P_l_bag [.rol (ns.map D.int), .int k] μ Φ := ⟨ns, k, rfl, h0, h1, q⟩
theorem prime8 {k : Int} (h0 : 0 ≤ k) (h1 : k < 8) : ∃ p : Int, atI [D.int 2147483629, D.int 2147483587, D.int 2147483579, D.int 2147483563, D.int 2147483549, D.int 2147483543, D.int 2147483497, D.int 2147483489] k = some (.int p) ∧ 0 < p ∧ p < 2147483648 := by
  have h : k = 0 ∨ k = 1 ∨ k = 2 ∨ k = 3 ∨ k = 4 ∨ k = 5 ∨ k = 6 ∨ k = 7 := by omega
  rcases h with h | h | h | h | h | h | h | h <;> subst h <;> exact ⟨_, rfl, by decide, by decide⟩
theorem ok_l_bag {f : Addr} {fd : FuncData} (F : Fun K "_law_bag" "_law_bag" s_l_bag f fd) (B : Bs mg) : FnOk P w K mg base CX0 2 f fd ["_law_script", "_law_at"] (spI K P_l_bag) := by
  refine Hold.out ?_
  simp (disch := (
  refine Hold.as ?_
  with_unfolding_all (
  refine F.ok sc_l_bag (fun vs H Q E h => spI_len h len_l_bag) (fun cdv A outer s H vs Q E hr h => ?_)
  have hu65 := hu65_of hr
  refine ⟨_, (pss_cons (ps_set (i := 2) sc_l_bag.nd rfl (by first | exact Or.inl rfl | exact Or.inr rfl) pe_int)
      (pss_cons (ps_if (pt_cmpR op_lt (pv 1) (pe_callB (call_lenK (K := K) rfl) (by rfl) B.b_len (by decide +kernel) (pa_cons (pv 0) pa_nil)) (by first | exact nomark _ | rfl)) (pss_one (ps_set (i := 2) sc_l_bag.nd rfl (by first | exact Or.inl rfl | exact Or.inr rfl) (pe_ix (ix_seqK (K := K) rfl) (pv 0) (pv 1) (fun _ _ => rfl)))) pss_nil)
      (pss_cons (ps_set (i := 3) sc_l_bag.nd rfl (by first | exact Or.inl rfl | exact Or.inr rfl) pe_int)
      (pss_cons (ps_if (pt_cmpR op_ge (pe_callB call_abs (by rfl) B.b_abs (by decide +kernel) (pa_cons (pv 2) pa_nil)) (pe_op op_pow pe_int pe_int) (by first | exact nomark _ | rfl)) (pss_one (ps_set (i := 3) sc_l_bag.nd rfl (by first | exact Or.inl rfl | exact Or.inr rfl) (pe_callB call_abs (by rfl) B.b_abs (by decide +kernel) (pa_cons (pv 2) pa_nil)))) pss_nil)
      (pss_cons (ps_set (i := 4) sc_l_bag.nd rfl (by first | exact Or.inl rfl | exact Or.inr rfl) (pe_lst (pa_cons pe_int (pa_cons pe_int (pa_cons pe_int (pa_cons pe_int (pa_cons pe_int (pa_cons pe_int (pa_cons pe_int (pa_cons pe_int pa_nil))))))))))
      (pss_one (ps_ret (pe_lst (pa_cons (pv 3) (pa_cons (pe_op op_mod (pe_op op_pow (pe_op op_add (pe_op op_add (pe_op op_mod (pv 2) pe_int) (pe_op op_mulW pe_int (pv 1))) pe_int) pe_int) (pe_ix (ix_seqK (K := K) rfl) (pv 4) (pe_op op_mod (pv 1) pe_int) (fun _ _ => rfl))) pa_nil)))))))))), body_okU h (fun ds μ Φ p => ?_)⟩
  (try dsimp only [cxOf, Cx.nox, Cx.wish, List.map_cons, List.map_nil])
  obtain ⟨ns, k, rfl, h0, h1, q⟩ := p
  show AS K _ [some _, some _, none, none, none] _ _
  have sk : Sz 31 k := by unfold Sz; omega
  walk_at "go"
  refine if_cut (fun τ' μ' => μ' = μ ∧ ∃ c : Int, τ' = [some (.rol (ns.map D.int)), some (.int k), some (.int c), none, none]) (fun h => ?_) (fun h => ?_) ?_
  · obtain ⟨z, hz⟩ := map_get (ns := ns) h0 (by simpa using h)
    walk_at "go"
    refine ro_ix rfl hz ?_
    walk_at "go"
    exact ⟨by trivial, _, rfl⟩
  · walk_at "go"
    exact ⟨by trivial, _, rfl⟩
  rintro τ' μ' ⟨rfl, c, rfl⟩
  walk_at "go"
  refine if_cut (fun τ' μ2 => μ2 = μ' ∧ ∃ g : Int, τ' = [some (.rol (ns.map D.int)), some (.int k), some (.int c), some (.int g), none]) (fun h => ?_) (fun h => ?_) ?_
  · walk_at "go"
    exact ⟨by trivial, _, rfl⟩
  · walk_at "go"
    exact ⟨by trivial, _, rfl⟩
  rintro τ' μ2 ⟨rfl, g, rfl⟩
  walk_at "go"
  intro l hl
  obtain ⟨pr, hp, p0, p1⟩ := prime8 (k := k % 8) (Int.emod_nonneg _ (by decide)) (Int.emod_lt_of_pos _ (by decide))
  have hb : (c % 2147483647 + 104729 * k + 7).natAbs < 2 ^ 64 := by
    have := Int.emod_nonneg c (by decide : (2147483647 : Int) ≠ 0)
    have := Int.emod_lt_of_pos c (by decide : (0 : Int) < 2147483647)
    omega
  have cp : CPow (c % 2147483647 + 104729 * k + 7) 5 := ⟨by decide, by decide, hb⟩
  walk_at "go"
  refine ro_ix (seq_ref (by walk_at "mu")) hp ?_
  walk_at "go"
  intro r hr
  have hr' := none_back hr
  refine up_of (sb_sub (sb_new sb_refl hl)) (q r _ _ hr' ⟨Int.emod_nonneg _ (by omega), ?_⟩)
  have := Int.emod_lt_of_pos ((c % 2147483647 + 104729 * k + 7) ^ 5) p0
  omega))) only [↓Hold.on]
theorem ok_l_take {f : Addr} {fd : FuncData} (F : Fun K "_law_take" "_law_take" s_l_take f fd) (B : Bs mg) : FnOk P w K mg base CX0 1 f fd ["_law_bag_here", "_law_many"] (spI K P_l_take) := by
  refine F.ok sc_l_take (fun vs H Q E h => spI_len h len_l_take) (fun cdv A outer s H vs Q E hr h => ?_)
  have hu65 := hu65_of hr
  refine ⟨_, (pss_cons (ps_if (pt_cmpR op_gt (pe_ix (ix_seqK (K := K) rfl) (pv 0) pe_int (fun _ _ => rfl)) pe_int (by first | exact nomark _ | rfl)) (pss_cons (ps_set (i := 2) sc_l_take.nd rfl (by first | exact Or.inl rfl | exact Or.inr rfl) (pe_op op_mod (pe_ix (ix_seqK (K := K) rfl) (pv 0) pe_int (fun _ _ => rfl)) (pv 1)))
      (pss_cons (ps_asg (pe_op op_fdivW (pe_ix (ix_seqK (K := K) rfl) (pv 0) pe_int (fun _ _ => rfl)) (pv 1)) (pg_sub (pv 0) pe_int set_list))
      (pss_one (ps_ret (pv 2))))) pss_nil)
      (pss_cons (ps_asg (pe_op op_mod (pe_op op_add (pe_op op_mulW (pe_ix (ix_seqK (K := K) rfl) (pv 0) pe_int (fun _ _ => rfl)) pe_int) pe_int) pe_int) (pg_sub (pv 0) pe_int set_list))
      (pss_one (ps_ret (pe_op op_mod (pe_op op_mod (pe_op op_pow (pe_op op_fdivW (pe_ix (ix_seqK (K := K) rfl) (pv 0) pe_int (fun _ _ => rfl)) pe_int) pe_int) pe_int) (pv 1)))))), body_ok h (fun ds μ Φ p => ?_)⟩
  (try dsimp only [cxOf, Cx.nox, Cx.wish, List.map_cons, List.map_nil])
  obtain ⟨b, n, c, m, rfl, hb, hm, hn, hz, q⟩ := p
  show AS K _ [some _, some _, none] _ _
  have sm : Sz 31 m := by unfold Sz; have := hm.1; have := hm.2; omega
  walk_at "go"
  refine ite_d (fun h => ?_) (fun h => ?_)
  · walk_at "go"
    exact q _ _ _ (Int.emod_nonneg _ (by omega)) (Int.emod_lt_of_pos _ hn) (sz_mod hn hz) hm
  · walk_at "go"
    exact q _ _ _ (Int.emod_nonneg _ (by omega)) (Int.emod_lt_of_pos _ hn) (sz_mod hn hz) ⟨Int.emod_nonneg _ (by decide), by have := Int.emod_lt_of_pos (m * 48271 + 11) (show (0 : Int) < 2147483647 by decide); omega⟩
/-- what a law has drawn for a board -/
structure Made (w h : Int) (rows : List R4) (fl gap : Int) : Prop where
  ok : ab (.int w) (.int h) (.tup (rows.map encR)) (.int fl) (.int gap) = true
  w1 : w ≤ 900000
  h1 : h ≤ 900000
/-- the rows so far -/
structure Rws (w h fl : Int) (rows : List R4) : Prop where
  ok : ∀ r ∈ rows, (0 < r.1 ∧ r.1 < w) ∧ (0 < r.2.1 ∧ r.2.1 < h) ∧ 0 ≤ r.2.2.1 ∧ r.2.2.1 ≤ r.2.2.2 ∧ r.2.2.2 < fl
  nd : (rows.map fun r => [r.1, r.2.1]).Nodup
theorem Rws.more {w h fl : Int} {rows : List R4} {x y f g : Int} (a : Rws w h fl rows) (n : [x, y] ∉ rows.map (fun r => [r.1, r.2.1])) (hx : 0 < x ∧ x < w) (hy : 0 < y ∧ y < h) (h0 : 0 ≤ f) (h1 : f ≤ g) (h2 : g < fl) : Rws w h fl (rows ++ [(x, y, f, g)]) := by
  refine ⟨fun r hr => ?_, ?_⟩
  · rcases List.mem_append.mp hr with z | z
    · exact a.ok r z
    · rw [List.mem_singleton.mp z]; exact ⟨hx, hy, h0, h1, h2⟩
  · rw [List.map_append, List.nodup_append]
    refine ⟨a.nd, by simp, fun k hk j hj e => ?_⟩
    simp at hj
    subst hj e
    exact n hk
theorem Rws.made {w h fl gap : Int} {rows : List R4} (a : Rws w h fl rows) (hl : rows.length ≤ 16) (w0 : 2 ≤ w) (w1 : w ≤ 900000) (h0 : 2 ≤ h) (h1 : h ≤ 900000) (f0 : 1 ≤ fl) (f1 : fl ≤ 3) (g0 : 1 ≤ gap) (g1 : gap ≤ 1000000) : Made w h rows fl gap := by
  refine ⟨?_, w1, h1⟩
  have e1 : ((rows.map encR).all fun r => pr r w h fl) = true := by
    rw [List.all_eq_true]
    intro d hd
    obtain ⟨r, hr, rfl⟩ := List.mem_map.mp hd
    obtain ⟨k1, k2, k3, k4, k5⟩ := a.ok r hr
    simp [pr, k1, k2, k3, k4, k5]
  have e2 : ((rows.map encR).map spot).Nodup := by
    rw [List.map_map]
    exact a.nd
  have z1 : w ≤ 1000000 := by omega
  have z2 : h ≤ 1000000 := by omega
  simp only [ab, wi, e1, e2, w0, z1, h0, z2, f0, f1, g0, g1, List.length_map, hl, decide_true, Bool.and_true]
abbrev mdD (w h : Int) (rows : List R4) (fl gap : Int) : D := .tup [.int w, .int h, .tup (rows.map encR), .int fl, .int gap]
def P_l_made_of : PT3 := fun ds μ Φ => ∃ (b : Addr) (most c m : Int), ds = [.ref b, .int most] ∧ μ b = some (.lst [.int c, .int m]) ∧ BgOk m ∧ 0 ≤ most ∧ most ≤ 16 ∧ ∀ w h rows fl gap c' m', Made w h rows fl gap → BgOk m' →
  Φ (mdD w h rows fl gap) (μ.set b (.lst [.int c', .int m']))
theorem len_l_made_of (ds : List D) (μ : M) (Φ : D → M → Prop) (h : P_l_made_of ds μ Φ) : ds.length = 2 := by
  obtain ⟨_, _, _, _, rfl, _⟩ := h
  rfl
theorem use_made {μ : M} {Φ : D → M → Prop} {b : Addr} {most c m : Int} (h : μ b = some (.lst [.int c, .int m])) (hm : BgOk m) (h0 : 0 ≤ most) (h1 : most ≤ 16) (q : ∀ w h rows fl gap c' m', Made w h rows fl gap → BgOk m' → Φ (mdD w h rows fl gap) (μ.set b (.lst [.int c', .int m']))) :
    P_l_made_of [.ref b, .int most] μ Φ := ⟨b, most, c, m, rfl, h, hm, h0, h1, q⟩
theorem pick4 {d a1 a2 a3 a4 : Int} (h0 : 0 ≤ d) (h1 : d < 4) : ∃ z : Int, atI [D.int a1, D.int a2, D.int a3, D.int a4] d = some (.int z) ∧ (z = a1 ∨ z = a2 ∨ z = a3 ∨ z = a4) := by
  have h : d = 0 ∨ d = 1 ∨ d = 2 ∨ d = 3 := by omega
  rcases h with h | h | h | h <;> subst h
  · exact ⟨a1, rfl, .inl rfl⟩
  · exact ⟨a2, rfl, .inr (.inl rfl)⟩
  · exact ⟨a3, rfl, .inr (.inr (.inl rfl))⟩
  · exact ⟨a4, rfl, .inr (.inr (.inr rfl))⟩
theorem inD_pts {rows : List R4} {x y : Int} : inD (pt x y) (rows.map fun r => pt r.1 r.2.1) = decide ([x, y] ∈ rows.map fun r => [r.1, r.2.1]) := by
  rw [Bool.eq_iff_iff, decide_eq_true_eq, inD]
  rw [List.any_eq_true]
  constructor
  · rintro ⟨z, h1, h2⟩
    obtain ⟨r, hr, rfl⟩ := List.mem_map.mp h1
    have e := (eqv_dec (d := pt r.1 r.2.1) (e := pt x y) rfl rfl).mp h2
    simp [pt] at e
    exact List.mem_map.mpr ⟨r, hr, by simp [e]⟩
  · intro h
    obtain ⟨r, hr, e⟩ := List.mem_map.mp h
    simp at e
    refine ⟨pt r.1 r.2.1, List.mem_map.mpr ⟨r, hr, rfl⟩, ?_⟩
    rw [e.1, e.2]
    exact (eqv_dec rfl rfl).mpr rfl
/-- between the turns -/
def MoT (b pd md : Addr) (μ0 : M) (W H fl : Int) (pre : T) (k : Nat) : T → M → Prop := fun τ' μ' => ∃ (rows : List R4) (c m : Int) (o8 o9 o10 o11 : Option D), μ' b = some (.lst [.int c, .int m]) ∧ BgOk m ∧ μ' pd = some (.lst (rows.map encR)) ∧ μ' md = some (.lst (rows.map fun r => pt r.1 r.2.1)) ∧ SubB b μ0 μ' ∧ rows.length ≤ k ∧ Rws W H fl rows ∧ τ' = pre ++ [some (.ref pd), some (.ref md), o8, o9, o10, o11]
theorem ok_l_made_of {f : Addr} {fd : FuncData} (F : Fun K "_law_made_of" "_law_made_of" s_l_made_of f fd) (B : Bs mg) (G_l_take : Def P w K mg base "_law_take" ["_law_bag_here", "_law_many"] 1 (spI K P_l_take)) : FnOk P w K mg base CX0 3 f fd ["_law_bag_here", "_law_most"] (spI K P_l_made_of) := by
  refine Hold.out ?_
  simp (disch := (
  refine Hold.as ?_
  with_unfolding_all (
  refine F.ok sc_l_made_of (fun vs H Q E h => spI_len h len_l_made_of) (fun cdv A outer s H vs Q E hr h => ?_)
  have hu65 := hu65_of hr
  refine ⟨_, (pss_cons (ps_set (i := 2) sc_l_made_of.nd rfl (by first | exact Or.inl rfl | exact Or.inr rfl) (pe_ix (ix_seqK (K := K) rfl) (pe_lst (pa_cons pe_int (pa_cons pe_int (pa_cons pe_int (pa_cons pe_int pa_nil))))) (pe_def G_l_take (hr.mono (by decide)) (by rfl) (pa_cons (pv 0) (pa_cons pe_int pa_nil))) (fun _ _ => rfl)))
      (pss_cons (ps_par (i := 3) (j := 4) rfl sc_l_made_of.nd rfl rfl (by decide) rfl rfl (pa_cons (pe_op op_add pe_int (pe_def G_l_take (hr.mono (by decide)) (by rfl) (pa_cons (pv 0) (pa_cons (pv 2) pa_nil)))) (pa_cons (pe_op op_add pe_int (pe_def G_l_take (hr.mono (by decide)) (by rfl) (pa_cons (pv 0) (pa_cons (pv 2) pa_nil)))) pa_nil)) (by rfl))
      (pss_cons (ps_set (i := 5) sc_l_made_of.nd rfl (by first | exact Or.inl rfl | exact Or.inr rfl) (pe_op op_add pe_int (pe_def G_l_take (hr.mono (by decide)) (by rfl) (pa_cons (pv 0) (pa_cons pe_int pa_nil)))))
      (pss_cons (ps_par (i := 6) (j := 7) rfl sc_l_made_of.nd rfl rfl (by decide) rfl rfl (pa_cons (pe_lst pa_nil) (pa_cons (pe_lst pa_nil) pa_nil)) (by rfl))
      (pss_cons (ps_for PassesOwn.never rfl (pi_range1 (by rfl) B.b_range (pa_cons (pe_def G_l_take (hr.mono (by decide)) (by rfl) (pa_cons (pv 0) (pa_cons (pe_op op_add (pv 1) pe_int) pa_nil))) pa_nil)) (pg_name (i := 8) sc_l_made_of.nd rfl (by first | exact Or.inl rfl | exact Or.inr rfl))
      (pss_cons (ps_set (i := 9) sc_l_made_of.nd rfl (by first | exact Or.inl rfl | exact Or.inr rfl) (pe_tup (pa_cons (pe_op op_add pe_int (pe_def G_l_take (hr.mono (by decide)) (by rfl) (pa_cons (pv 0) (pa_cons (pe_op op_sub (pv 3) pe_int) pa_nil)))) (pa_cons (pe_op op_add pe_int (pe_def G_l_take (hr.mono (by decide)) (by rfl) (pa_cons (pv 0) (pa_cons (pe_op op_sub (pv 4) pe_int) pa_nil)))) pa_nil))))
      (pss_cons (ps_set (i := 10) sc_l_made_of.nd rfl (by first | exact Or.inl rfl | exact Or.inr rfl) (pe_def G_l_take (hr.mono (by decide)) (by rfl) (pa_cons (pv 0) (pa_cons (pv 5) pa_nil))))
      (pss_cons (ps_set (i := 11) sc_l_made_of.nd rfl (by first | exact Or.inl rfl | exact Or.inr rfl) (pe_op op_add (pv 10) (pe_def G_l_take (hr.mono (by decide)) (by rfl) (pa_cons (pv 0) (pa_cons (pe_op op_sub (pv 5) (pv 10)) pa_nil)))))
      (pss_one (ps_if (pt_cmpR (op_notInSK (K := K) rfl hu65) (pv 9) (pv 7) (by first | exact nomark _ | rfl)) (pss_cons (ps_expr (pe_bm PySem.F.plainAttrs_list PySem.F.slot_list_append PySem.F.type_list_append mt_append (pv 7) (pa_cons (pv 9) pa_nil)))
      (pss_one (ps_expr (pe_bm PySem.F.plainAttrs_list PySem.F.slot_list_append PySem.F.type_list_append mt_append (pv 6) (pa_cons (pe_tup (pa_cons (pe_ix (ix_seqK (K := K) rfl) (pv 9) pe_int (fun _ _ => rfl)) (pa_cons (pe_ix (ix_seqK (K := K) rfl) (pv 9) pe_int (fun _ _ => rfl)) (pa_cons (pv 10) (pa_cons (pv 11) pa_nil))))) pa_nil))))) pss_nil))))))
      (pss_one (ps_ret (pe_tup (pa_cons (pv 3) (pa_cons (pv 4) (pa_cons (pe_callTy (call_tupleK (K := K) rfl) (by rfl) B.b_tuple (by decide +kernel) (pa_cons (pv 6) pa_nil)) (pa_cons (pv 5) (pa_cons (pe_op op_add pe_int (pe_def G_l_take (hr.mono (by decide)) (by rfl) (pa_cons (pv 0) (pa_cons (pe_ix (ix_seqK (K := K) rfl) (pe_lst (pa_cons pe_int (pa_cons pe_int (pa_cons pe_int (pa_cons (pv 2) pa_nil))))) (pe_def G_l_take (hr.mono (by decide)) (by rfl) (pa_cons (pv 0) (pa_cons pe_int pa_nil))) (fun _ _ => rfl)) pa_nil)))) pa_nil))))))))))))), body_okU h (fun ds μ Φ p => ?_)⟩
  (try dsimp only [cxOf, Cx.nox, Cx.wish, List.map_cons, List.map_nil])
  obtain ⟨b, most, c, m, rfl, hb, hm, mo0, mo1, q⟩ := p
  show AS K _ [some _, some _, none, none, none, none, none, none, none, none, none, none] _ _
  walk_at "go"
  intro l1 hl1
  have n1 : l1 ≠ b := ne_of_some hl1 hb
  walk_at "go"
  refine use_take (by walk_at "mu") hm (by decide) (by walk_at "szN") fun d1 c1 m1 a1 a2 s1 hm1 => ?_
  obtain ⟨far, k1, kf⟩ := pick4 (a1 := 3) (a2 := 7) (a3 := 40) (a4 := 1000) a1 a2
  have f0 : 3 ≤ far ∧ far ≤ 1000 := by omega
  have zf : Sz 20 far := by unfold Sz; omega
  walk_at "go"
  refine ro_ix (seq_ref (by walk_at "mu")) k1 ?_
  walk_at "go"
  refine use_take (by walk_at "mu") hm1 (by omega) (by walk_at "szN") fun d2 c2 m2 b1 b2 s2 hm2 => ?_
  walk_at "go"
  refine use_take (by walk_at "mu") hm2 (by omega) (by walk_at "szN") fun d3 c3 m3 e1 e2 s3 hm3 => ?_
  walk_at "go"
  rw [set_set, set_set]
  generalize hwd : 2 + d2 = wide
  generalize hhi : 2 + d3 = high
  have w0 : 2 ≤ wide ∧ wide ≤ 1002 := by omega
  have h0 : 2 ≤ high ∧ high ≤ 1002 := by omega
  have zw : Sz 20 wide := by unfold Sz; omega
  have zh : Sz 20 high := by unfold Sz; omega
  refine use_take (by walk_at "mu") hm3 (by decide) (by walk_at "szN") fun d4 c4 m4 g1 g2 s4 hm4 => ?_
  walk_at "go"
  generalize hfl : 1 + d4 = fl
  have fl0 : 1 ≤ fl ∧ fl ≤ 3 := by omega
  have zfl : Sz 20 fl := by unfold Sz; omega
  intro pd hpd
  have hpdb : pd ≠ b := fun z => by rw [z, set_same] at hpd; cases hpd
  walk_at "go"
  intro md hmd
  have hmp : md ≠ pd := none_ne hmd
  have hmb : md ≠ b := fun z => by rw [z, set_ne (Ne.symm hpdb), set_same] at hmd; cases hmd
  have hpn : μ pd = none := none_back (none_back (none_back hpd))
  have hmn : μ md = none := none_back (none_back (none_back (none_back hmd)))
  walk_at "go"
  refine s_for (ai_1 ?_)
  walk_at "go"
  refine use_take (by walk_at "mu") hm4 (by omega) (sz_mono (show Sz 8 (most + 1) by unfold Sz; omega) (by decide)) fun d7 c7 m7 j1 j2 s7 hm7 => ?_
  walk_at "go"
  have d7m : d7 ≤ most := by omega
  refine ⟨by omega, by omega, MoT b pd md μ wide high fl [some (.ref b), some (.int most), some (.int far), some (.int wide), some (.int high), some (.int fl)], ?_, ?_, ?_⟩
  · exact ⟨[], _, _, none, none, none, none, set_same, hm7, by walk_at "mu", by walk_at "mu", sb_self (sb_new (sb_new (sb_self (sb_self (sb_new sb_refl hl1))) hpd) hmd), Nat.zero_le _, ⟨fun r hr => (by cases hr), List.nodup_nil⟩, rfl⟩
  · rintro i it τ' μ' hx ⟨rows, c8, m8, o9, o10, o11, o12, hb8, hm8, hp8, hq8, sb8, hl8, R8, rfl⟩
    have hi : i < d7.toNat := by
      have := (List.getElem?_eq_some_iff.mp hx).1
      simpa using this
    clear hx
    dsimp only [List.cons_append, List.nil_append]
    walk_at "go"
    refine use_take hb8 hm8 (by omega) (by walk_at "szN") fun d8 c9 m9 t1 t2 t3 hm9 => ?_
    walk_at "go"
    refine use_take set_same hm9 (by omega) (by walk_at "szN") fun d9 c10 m10 u1 u2 u3 hm10 => ?_
    walk_at "go"
    refine use_take set_same hm10 (by omega) (by walk_at "szN") fun d10 c11 m11 v1 v2 v3 hm11 => ?_
    have zd10 : Sz 20 d10 := by unfold Sz; omega
    walk_at "go"
    refine use_take set_same hm11 (by omega) (by walk_at "szN") fun d11 c12 m12 x1 x2 x3 hm12 => ?_
    walk_at "go"
    rw [set_set, set_set, set_set]
    have hq9 : (μ'.set b (.lst [.int c12, .int m12])) md = some (.lst (rows.map fun r => pt r.1 r.2.1)) := by walk_at "mu"
    have hp9 : (μ'.set b (.lst [.int c12, .int m12])) pd = some (.lst (rows.map encR)) := by walk_at "mu"
    have hb9 : (μ'.set b (.lst [.int c12, .int m12])) b = some (.lst [.int c12, .int m12]) := set_same
    have sb9 : SubB b μ (μ'.set b (.lst [.int c12, .int m12])) := sb_self sb8
    generalize μ'.set b (.lst [.int c12, .int m12]) = μ9 at hq9 hp9 hb9 sb9 ⊢
    clear hb8 hp8 hq8 sb8
    refine ro_inS (seq_ref hq9) (okn_pt.ok (by decide)) ((okn_tup (n := 1) fun x hx => by
      obtain ⟨r, _, rfl⟩ := List.mem_map.mp hx
      exact okn_pt).ok (by decide)) ?_
    rw [inD_pts]
    refine ⟨_, rfl, ?_⟩
    by_cases hin : [1 + d8, 1 + d9] ∈ rows.map fun r => [r.1, r.2.1]
    · simp only [hin, decide_true, Bool.not_true, Bool.false_eq_true, if_false, if_true]
      walk_at "go"
      exact ⟨rows, _, _, _, _, _, _, hb9, hm12, hp9, hq9, sb9, by omega, R8, rfl⟩
    · simp only [hin, decide_false, Bool.not_false, if_true]
      walk_at "go"
      refine m_append (a := md) (ds := rows.map fun r => pt r.1 r.2.1) ?_
      walk_at "go"
      refine ⟨rfl, ⟨_, hq9⟩, ?_⟩
      walk_at "go"
      refine ⟨hq9, by rw [List.length_map]; have := sizeLine_eq; omega, ?_⟩
      walk_at "go"
      refine m_append (a := pd) (ds := rows.map encR) ?_
      walk_at "go"
      refine ⟨rfl, ⟨_, (set_ne (Ne.symm hmp)).trans hp9⟩, ?_⟩
      walk_at "go"
      refine ⟨(set_ne (Ne.symm hmp)).trans hp9, by rw [List.length_map]; have := sizeLine_eq; omega, ?_⟩
      refine ⟨rows ++ [(1 + d8, 1 + d9, d10, d10 + d11)], c12, m12, _, _, _, _, ?_, hm12, ?_, ?_, sb_own (sb_own sb9 hmn) hpn, ?_, R8.more hin (by omega) (by omega) (by omega) (by omega) (by omega), rfl⟩
      · rw [set_ne (Ne.symm hpdb), set_ne (Ne.symm hmb)]
        exact hb9
      · rw [set_same, List.map_append]
        rfl
      · rw [set_ne hmp, set_same, List.map_append]
        rfl
      · rw [List.length_append]
        simp
        omega
  rintro τ' μ' ⟨rows, c8, m8, o9, o10, o11, o12, hb8, hm8, hp8, hq8, sb8, hl8, R8, rfl⟩
  dsimp only [List.cons_append, List.nil_append]
  walk_at "go"
  refine rc_tuple (seq_ref hp8) ?_
  walk_at "go"
  intro l5 hl5
  have n5b : l5 ≠ b := ne_of_some hl5 hb8
  walk_at "go"
  refine use_take (by walk_at "mu") hm8 (by decide) (by walk_at "szN") fun d9 c9 m9 t1 t2 t3 hm9 => ?_
  obtain ⟨gp, k9, kg⟩ := pick4 (a1 := 1) (a2 := 2) (a3 := 4) (a4 := far) t1 t2
  have gp0 : 1 ≤ gp ∧ gp ≤ 1000 := by omega
  walk_at "go"
  refine ro_ix (seq_ref (by walk_at "mu")) k9 ?_
  walk_at "go"
  refine use_take set_same hm9 (by omega) (sz_mono (show Sz 20 gp by unfold Sz; omega) (by decide)) fun d10 c10 m10 u1 u2 u3 hm10 => ?_
  walk_at "go"
  rw [set_set]
  rw [List.length_map, List.length_range] at hl8
  refine up_of (μ2 := μ.set b (.lst [.int c10, .int m10])) ?_ (q wide high rows fl (1 + d10) c10 m10 (R8.made (by omega) w0.1 (by omega) h0.1 (by omega) fl0.1 fl0.2 (by omega) (by omega)) hm10)
  exact sb_sub (sb_new sb8 hl5)))) only [↓Hold.on]
def P_l_board (C : Addr) : PT3 := fun ds μ Φ => ∃ w h rows fl gap, ds = [.tup [.int w, .int h, .tup (rows.map encR), .int fl, .int gap]] ∧ ab (.int w) (.int h) (.tup (rows.map encR)) (.int fl) (.int gap) = true ∧
  ∀ μ' b sp kg kt, Sub μ μ' → μ b = none → μ sp = none → μ kg = none → μ kt = none → Brd C μ' b w h rows fl gap sp kg kt → Φ (.ref b) μ'
theorem len_l_board (C : Addr) (ds : List D) (μ : M) (Φ : D → M → Prop) (h : P_l_board C ds μ Φ) : ds.length = 1 := by
  obtain ⟨_, _, _, _, _, rfl, _⟩ := h
  rfl
theorem encR_kx {μ : M} (r : R4) : Kx μ (encR r) := ⟨kd_tup, fun xs e => by
  cases e
  refine ⟨by simp, fun x hx => ?_⟩
  simp only [List.mem_cons, List.not_mem_nil, or_false] at hx
  rcases hx with rfl | rfl | rfl | rfl <;> exact kd_int⟩
theorem map_inj {α β : Type} {f : α → β} (hf : ∀ a b, f a = f b → a = b) : ∀ {l m : List α}, l.map f = m.map f → l = m
  | [], [], _ => rfl
  | [], _ :: _, h => by simp at h
  | _ :: _, [], h => by simp at h
  | a :: l, b :: m, h => by
    rw [List.map_cons, List.map_cons, List.cons.injEq] at h
    rw [hf a b h.1, map_inj hf h.2]
theorem encR_inj (a b : R4) (h : encR a = encR b) : a = b := by
  obtain ⟨a1, a2, a3, a4⟩ := a
  obtain ⟨b1, b2, b3, b4⟩ := b
  simp [encR] at h
  simp [h]
theorem ok_l_board {f : Addr} {fd : FuncData} (F : Fun K "_law_board" "_law_board" s_l_board f fd) (B : Bs mg) {C_Board : Addr} (K_Board : Cl_Board K C_Board) (M_Board : ZN.MkK P w K mg base "Board" C_Board ["self", "width", "height", "pins", "layers", "spacing"] 3 ["layers", "spacing"] [(true, 0), (true, 1)] [] 6 (spX K (xn mg) (P_board_init C_Board))) : FnOk P w K mg base CX0 8 f fd ["_law_made"] (spI K (P_l_board C_Board)) := by
  refine Hold.out ?_
  simp (disch := (
  refine Hold.as ?_
  with_unfolding_all (
  refine F.ok sc_l_board (fun vs H Q E h => spI_len h (len_l_board C_Board)) (fun cdv A outer s H vs Q E hr h => ?_)
  have hu65 := hu65_of hr
  refine ⟨_, (pss_one (ps_ret (pe_mkK M_Board.old (hr.mono (by decide)) (by rfl) (pa_cons (pe_ix (ix_seqK (K := K) rfl) (pv 0) pe_int (fun _ _ => rfl)) (pa_cons (pe_ix (ix_seqK (K := K) rfl) (pv 0) pe_int (fun _ _ => rfl)) (pa_cons (pe_ix (ix_seqK (K := K) rfl) (pv 0) pe_int (fun _ _ => rfl)) pa_nil))) (pk_cons (pe_ix (ix_seqK (K := K) rfl) (pv 0) pe_int (fun _ _ => rfl)) (pk_cons (pe_ix (ix_seqK (K := K) rfl) (pv 0) pe_int (fun _ _ => rfl)) pk_nil))))), body_ok h (fun ds μ Φ p => ?_)⟩
  (try dsimp only [cxOf, Cx.nox, Cx.wish, List.map_cons, List.map_nil])
  obtain ⟨w, h, rows, fl, gap, rfl, hab, q⟩ := p
  show AS K _ [some _] _ _
  walk_at "go"
  refine a_mkK [] (fun _ => .nil) ?_
  walk_at "go"
  refine ⟨rfl, rfl, fun b dx hb => ?_⟩
  refine ⟨b, dx, .int w, .int h, .tup (rows.map encR), .int fl, .int gap, rfl, set_same, kd_int, kd_int, kd_tup, kd_int, kd_int, fun rs e => ?_, fun wn hn rows2 ln sn _ e1 e2 e3 e4 e5 μ' sp kg kt sb h1 h2 h3 B => ?_, fun e => ?_⟩
  · cases e
    obtain ⟨_, _, _, _, rows3, _, _, e3, _, _, hl⟩ := ab_of hab
    refine ⟨?_, fun r hr => ?_⟩
    · simp only [D.tup.injEq] at e3
      rw [e3, List.length_map]
      omega
    · obtain ⟨r, _, rfl⟩ := List.mem_map.mp hr
      exact encR_kx r
  · cases e1; cases e2; cases e4; cases e5
    simp only [D.tup.injEq] at e3
    have e6 := map_inj encR_inj e3
    subst e6
    refine ⟨rfl, q μ' b sp kg kt (fun a m ea => ?_) hb ?_ ?_ ?_ B⟩
    · have na : a ≠ b := fun z => by rw [z, hb] at ea; cases ea
      exact sb a m na (by rw [set_ne na]; exact ea)
    · exact none_back h1
    · exact none_back h2
    · exact none_back h3
  · rw [hab] at e
    cases e))) only [↓Hold.on]
open MT
theorem app_len (a b : Str) : (a ++ b).length = a.length + b.length := by
  rw [TL.len_tl, TL.tl_append, List.length_append, ← TL.len_tl, ← TL.len_tl]
theorem sum_le {ws : List Str} {k : Nat} (h : ∀ w ∈ ws, w.length ≤ k) : (ws.map (·.length)).sum ≤ ws.length * k := by
  induction ws with
  | nil => simp
  | cons a r ih =>
    have i := ih fun w hw => h w (List.mem_cons_of_mem _ hw)
    have a1 := h a List.mem_cons_self
    rw [List.map_cons, List.sum_cons, List.length_cons, Nat.succ_mul]
    omega
theorem big_log {n : Int} (h : n.natAbs < 10 ^ 30) : n.natAbs.log2 < 1920 := by
  by_cases z : n.natAbs = 0
  · rw [z]; decide
  · exact Nat.lt_of_lt_of_le ((Nat.log2_lt z).mpr (Nat.lt_of_lt_of_le h (show 10 ^ 30 ≤ 2 ^ 100 by decide))) (by decide)
/-- four numbers that can be written -/
structure Q4Ok (q : Q4) : Prop where
  a : q.1.natAbs < 10 ^ 30
  b : q.2.1.natAbs < 10 ^ 30
  c : q.2.2.1.natAbs < 10 ^ 30
  d : q.2.2.2.natAbs < 10 ^ 30
theorem q4S_len {q : Q4} (k : Q4Ok q) : (q4S q).length ≤ 127 := by
  have h1 := num_len k.a
  have h2 := num_len k.b
  have h3 := num_len k.c
  have h4 := num_len k.d
  rw [q4S_app]
  simp only [app_len]
  rw [show (Str.ofString " ").length = 1 from rfl]
  omega
def ofR : D → Q4
  | .tup [.int a, .int b, .int c, .int d] => (a, b, c, d)
  | _ => (0, 0, 0, 0)
def P_board_len (C : Addr) : PT3 := fun ds μ Φ => ∃ b w h rows l s sp kg kt, ds = [.ref b] ∧ Brd C μ b w h rows l s sp kg kt ∧ Φ (.int ((spots w h rows).length : Nat)) μ
theorem len_board_len (C : Addr) (ds : List D) (μ : M) (Φ : D → M → Prop) (h : P_board_len C ds μ Φ) : ds.length = 1 := by
  obtain ⟨_, _, _, _, _, _, _, _, _, rfl, _⟩ := h
  rfl
def P_board_str (C : Addr) : PT3 := fun ds μ Φ => ∃ b w h rows l s sp kg kt, ds = [.ref b] ∧ Brd C μ b w h rows l s sp kg kt ∧ Q4Ok (w, h, l, s) ∧ (∀ r ∈ rows, Q4Ok r) ∧ rows.length ≤ 16 ∧ Φ (.str (brdS (w, h, l, s) rows)) μ
theorem len_board_str (C : Addr) (ds : List D) (μ : M) (Φ : D → M → Prop) (h : P_board_str C ds μ Φ) : ds.length = 1 := by
  obtain ⟨_, _, _, _, _, _, _, _, _, rfl, _⟩ := h
  rfl
def P_board_made_of (C : Addr) : PT3 := fun ds μ Φ => ∃ b w h rows l s sp kg kt, ds = [.ref b] ∧ Brd C μ b w h rows l s sp kg kt ∧ Φ (.tup [.int w, .int h, .tup (rows.map encR), .int l, .int s]) μ
theorem len_board_made_of (C : Addr) (ds : List D) (μ : M) (Φ : D → M → Prop) (h : P_board_made_of C ds μ Φ) : ds.length = 1 := by
  obtain ⟨_, _, _, _, _, _, _, _, _, rfl, _⟩ := h
  rfl
theorem ok_board_made_of {f : Addr} {fd : FuncData} (F : Fun K "made_of" "Board.made_of" s_board_made_of f fd) (B : Bs mg) {C_Board : Addr} (K_Board : Cl_Board K C_Board) : FnOk P w K mg base CX0 1 f fd ["self"] (spI K (P_board_made_of C_Board)) := by
  refine Hold.out ?_
  simp (disch := (
  refine Hold.as ?_
  with_unfolding_all (
  refine F.ok sc_board_made_of (fun vs H Q E h => spI_len h (len_board_made_of C_Board)) (fun cdv A outer s H vs Q E hr h => ?_)
  have hu65 := hu65_of hr
  refine ⟨_, (pss_one (ps_ret (pe_tup (pa_cons (pe_fldK (K := K) rfl (pv 0) rfl) (pa_cons (pe_fldK (K := K) rfl (pv 0) rfl) (pa_cons (pe_fldK (K := K) rfl (pv 0) rfl) (pa_cons (pe_fldK (K := K) rfl (pv 0) rfl) (pa_cons (pe_fldK (K := K) rfl (pv 0) rfl) pa_nil)))))))), body_ok h (fun ds μ Φ p => ?_)⟩
  (try dsimp only [cxOf, Cx.nox, Cx.wish, List.map_cons, List.map_nil])
  obtain ⟨b, w, h, rows, l, s, sp, kg, kt, rfl, BR, q⟩ := p
  obtain ⟨dx, gl, tl, lvs, hb, hsp, hkg, hkt⟩ := id BR
  show AS K _ [some _] _ _
  walk_at "go"
  refine a_fld ?_
  walk_at "go"
  refine ⟨b, C_Board, dx, _, rfl, hb, K_Board.cls, K_Board.n_wide, _, rfl, ?_⟩
  walk_at "go"
  refine a_fld ?_
  walk_at "go"
  refine ⟨b, C_Board, dx, _, rfl, hb, K_Board.cls, K_Board.n_high, _, rfl, ?_⟩
  walk_at "go"
  refine a_fld ?_
  walk_at "go"
  refine ⟨b, C_Board, dx, _, rfl, hb, K_Board.cls, K_Board.n_pin_rows, _, rfl, ?_⟩
  walk_at "go"
  refine a_fld ?_
  walk_at "go"
  refine ⟨b, C_Board, dx, _, rfl, hb, K_Board.cls, K_Board.n_layer_count, _, rfl, ?_⟩
  walk_at "go"
  refine a_fld ?_
  walk_at "go"
  refine ⟨b, C_Board, dx, _, rfl, hb, K_Board.cls, K_Board.n_apart_by, _, rfl, ?_⟩
  walk_at "go"
  exact q))) only [↓Hold.on]
/-- what a board is made of -/
abbrev mkD (w h : Int) (rows : List R4) (fl gap : Int) : D := .tup [.int w, .int h, .tup (rows.map encR), .int fl, .int gap]
theorem okn_mk {w h : Int} {rows : List R4} {fl gap : Int} : OkN 4 (mkD w h rows fl gap) := okn_tup fun z hz => by
  simp only [List.mem_cons, List.not_mem_nil, or_false] at hz
  rcases hz with rfl | rfl | rfl | rfl | rfl
  · exact okn_int.mono (by decide)
  · exact okn_int.mono (by decide)
  · refine OkN.mono (n := 2) (okn_tup fun r hr => ?_) (by decide)
    obtain ⟨q, _, rfl⟩ := List.mem_map.mp hr
    exact okn_tup fun x hx => by
      simp only [List.mem_cons, List.not_mem_nil, or_false] at hx
      rcases hx with rfl | rfl | rfl | rfl <;> exact okn_int
  · exact okn_int.mono (by decide)
  · exact okn_int.mono (by decide)
theorem its_map {α : Type} {f : α → D} (h : ∀ a, D.it (f a) = true) : ∀ l : List α, D.its (l.map f) = true
  | [] => rfl
  | a :: l => by
    show (D.it (f a) && D.its (l.map f)) = true
    rw [h a, its_map h l]
    rfl
theorem it_mk {w h : Int} {rows : List R4} {fl gap : Int} : D.it (mkD w h rows fl gap) = true := by
  show (true && (true && (D.its (rows.map encR) && (true && (true && true))))) = true
  rw [its_map fun _ => rfl]
  rfl
theorem mk_inj {w h w' h' : Int} {rows rows' : List R4} {fl gap fl' gap' : Int} (e : mkD w h rows fl gap = mkD w' h' rows' fl' gap') : w = w' ∧ h = h' ∧ rows = rows' ∧ fl = fl' ∧ gap = gap' := by
  have inj : ∀ {l m : List R4}, l.map encR = m.map encR → l = m := by
    intro l
    induction l with
    | nil => intro m e; cases m <;> simp at e ⊢
    | cons a l ih =>
      intro m e
      cases m with
      | nil => simp at e
      | cons c m =>
        rw [List.map_cons, List.map_cons, List.cons.injEq] at e
        rw [ih e.2]
        have e1 := e.1
        simp only [encR, D.tup.injEq, List.cons.injEq, D.int.injEq, and_true] at e1
        rw [show a = c from Prod.ext e1.1 (Prod.ext e1.2.1 (Prod.ext e1.2.2.1 e1.2.2.2))]
  simp only [mkD, D.tup.injEq, List.cons.injEq, D.int.injEq, and_true] at e
  exact ⟨e.1, e.2.1, inj e.2.2.1, e.2.2.2.1, e.2.2.2.2⟩
/-- made of the same -/
def sameB (w h : Int) (rows : List R4) (fl gap w' h' : Int) (rows' : List R4) (fl' gap' : Int) : Bool := decide (w = w' ∧ h = h') && decide (rows = rows') && decide (fl = fl' ∧ gap = gap')
theorem same_iff {w h w' h' : Int} {rows rows' : List R4} {fl gap fl' gap' : Int} : sameB w h rows fl gap w' h' rows' fl' gap' = true ↔ mkD w h rows fl gap = mkD w' h' rows' fl' gap' := by
  unfold sameB
  rw [Bool.and_eq_true, Bool.and_eq_true, decide_eq_true_eq, decide_eq_true_eq, decide_eq_true_eq]
  refine ⟨fun ⟨⟨⟨a, b⟩, c⟩, d, e⟩ => by rw [a, b, c, d, e], fun e => ?_⟩
  obtain ⟨a, b, c, d, e⟩ := mk_inj e
  exact ⟨⟨⟨a, b⟩, c⟩, d, e⟩
theorem same_self {w h : Int} {rows : List R4} {fl gap : Int} : sameB w h rows fl gap w h rows fl gap = true := same_iff.mpr rfl
theorem eqv_mk {w h w' h' : Int} {rows rows' : List R4} {fl gap fl' gap' : Int} : D.eqv (mkD w h rows fl gap) (mkD w' h' rows' fl' gap') = sameB w h rows fl gap w' h' rows' fl' gap' := by
  rw [Bool.eq_iff_iff, same_iff]
  exact eqv_dec it_mk it_mk
def P_board_eq (C : Addr) : PT3 := fun ds μ Φ => ∃ a d w h rows l s sp kg kt, ds = [.ref a, d] ∧ Brd C μ a w h rows l s sp kg kt ∧
  ((∃ b w' h' rows' l' s' sp' kg' kt', d = .ref b ∧ Brd C μ b w' h' rows' l' s' sp' kg' kt' ∧ Φ (.bl (sameB w h rows l s w' h' rows' l' s')) μ) ∨
   (∃ n, tyn μ d = some n ∧ n ∈ (["NoneType", "int", "bool", "tuple", "str", "list"] : List String) ∧ Φ (.bl false) μ))
theorem len_board_eq (C : Addr) (ds : List D) (μ : M) (Φ : D → M → Prop) (h : P_board_eq C ds μ Φ) : ds.length = 2 := by
  obtain ⟨_, _, _, _, _, _, _, _, _, _, rfl, _⟩ := h
  rfl
theorem ok_board_eq {f : Addr} {fd : FuncData} (F : Fun K "__eq__" "Board.__eq__" s_board_eq f fd) (B : Bs mg) {C_Board : Addr} (K_Board : Cl_Board K C_Board) (O_Board : OwnC K C_Board) (V_Board : Cst mg "Board" (.ref C_Board)) (G_board_made_of : Mth P w K mg base C_Board "made_of" ["self"] 1 (spI K (P_board_made_of C_Board))) : FnOk P w K mg base CX0 2 f fd ["self", "other"] (spI K (P_board_eq C_Board)) := by
  refine Hold.out ?_
  simp (disch := (
  refine Hold.as ?_
  with_unfolding_all (
  refine F.ok sc_board_eq (fun vs H Q E h => spI_len h (len_board_eq C_Board)) (fun cdv A outer s H vs Q E hr h => ?_)
  have hu65 := hu65_of hr
  refine ⟨_, (pss_one (ps_ret (pe_and (pe_callB (call_isiK1 (K := K) rfl) (by rfl) B.b_isinstance (by decide +kernel) (pa_cons (pv 1) (pa_cons (pe_cst V_Board (by rfl)) pa_nil))) (pe_one (pe_cmpR (op_eqDK (K := K) rfl hr.units) (pe_mthN0 G_board_made_of (hr.mono (by decide)) (pv 0)) (pe_mthN0 G_board_made_of (hr.mono (by decide)) (pv 1)) (by first | exact nomark _ | rfl)))))), body_ok h (fun ds μ Φ p => ?_)⟩
  (try dsimp only [cxOf, Cx.nox, Cx.wish, List.map_cons, List.map_nil])
  obtain ⟨a, d, w, h, rows, l, s, sp, kg, kt, rfl, BR, o⟩ := p
  obtain ⟨dx, gl, tl, lvs, hb, hsp, hkg, hkt⟩ := id BR
  show AS K _ [some _, some _] _ _
  walk_at "go"
  rcases o with ⟨b, w', h', rows', l', s', sp', kg', kt', rfl, BR', q⟩ | ⟨n, hn, hm, q⟩
  · obtain ⟨dx', gl', tl', lvs', hb', hsp', hkg', hkt'⟩ := id BR'
    refine rc_isiO hb' K_Board.cls O_Board.isi (.inr ⟨_, rfl, rfl⟩) O_Board.self ?_
    walk_at "go"
    refine ⟨a, dx, _, rfl, hb, rfl, ?_⟩
    walk_at "go"
    refine ⟨a, w, h, rows, l, s, sp, kg, kt, rfl, BR, ?_⟩
    walk_at "go"
    refine ⟨b, dx', _, rfl, hb', rfl, ?_⟩
    walk_at "go"
    refine ⟨b, w', h', rows', l', s', sp', kg', kt', rfl, BR', ?_⟩
    refine ro_eqD (okn_mk.ok (by decide)) (okn_mk.ok (by decide)) ?_
    rw [eqv_mk]
    exact q
  · refine rc_isiD hn (O_Board.kitD hm) ?_
    walk_at "go"
    exact q))) only [↓Hold.on]
theorem ok_board_len {f : Addr} {fd : FuncData} (F : Fun K "__len__" "Board.__len__" s_board_len f fd) (B : Bs mg) {C_Board : Addr} (K_Board : Cl_Board K C_Board) : FnOk P w K mg base CX0 1 f fd ["self"] (spI K (P_board_len C_Board)) := by
  refine F.ok sc_board_len (fun vs H Q E h => spI_len h (len_board_len C_Board)) (fun cdv A outer s H vs Q E hr h => ?_)
  have hu65 := hu65_of hr
  refine ⟨_, (pss_one (ps_ret (pe_callB (call_lenK (K := K) rfl) (by rfl) B.b_len (by decide +kernel) (pa_cons (pe_fldK (K := K) rfl (pv 0) rfl) pa_nil)))), body_ok h (fun ds μ Φ p => ?_)⟩
  (try dsimp only [cxOf, Cx.nox, Cx.wish, List.map_cons, List.map_nil])
  obtain ⟨b, w, h, rows, l, s, sp, kg, kt, rfl, ⟨dx, gl, tl, lvs, hb, hsp, hkg, hkt⟩, q⟩ := p
  show AS K _ [some _] _ _
  walk_at "go"
  refine a_fld ?_
  walk_at "go"
  refine ⟨b, C_Board, dx, _, rfl, hb, K_Board.cls, K_Board.n_spots, _, rfl, ?_⟩
  walk_at "go"
  rw [List.length_map]
  exact q
theorem ok_board_str {f : Addr} {fd : FuncData} (F : Fun K "__str__" "Board.__str__" s_board_str f fd) (B : Bs mg) {C_Board : Addr} (K_Board : Cl_Board K C_Board) : FnOk P w K mg base CX0 1 f fd ["self"] (spI K (P_board_str C_Board)) := by
  refine Hold.out ?_
  simp (disch := (
  refine Hold.as ?_
  with_unfolding_all (
  refine F.ok sc_board_str (fun vs H Q E h => spI_len h (len_board_str C_Board)) (fun cdv A outer s H vs Q E hr h => ?_)
  have hu65 := hu65_of hr
  refine ⟨_, (pss_cons (ps_set (i := 1) sc_board_str.nd rfl (by first | exact Or.inl rfl | exact Or.inr rfl) (pe_lst (pa_cons (pe_joined (.cons (pe_fmt (pe_fldK (K := K) rfl (pv 0) rfl)) (.cons pe_str (.cons (pe_fmt (pe_fldK (K := K) rfl (pv 0) rfl)) (.cons pe_str (.cons (pe_fmt (pe_fldK (K := K) rfl (pv 0) rfl)) (.cons pe_str (.cons (pe_fmt (pe_fldK (K := K) rfl (pv 0) rfl)) .nil)))))))) pa_nil)))
      (pss_one (ps_ret (pe_joinK (K := K) rfl pe_str (pe_op op_cat (pv 1) (pe_lc (own := [("x", 2), ("y", 3), ("first", 4), ("last", 5)]) (g := gTup K 4 (gCons (gName 2) (gCons (gName 3) (gCons (gName 4) (gCons (gName 5) gNil))))) (tt := tYes) rfl sc_board_str.nd (pi_tupK (K := K) rfl (pe_fldK (K := K) rfl (pv 0) rfl)) (blkOk_by (own := [("x", 2), ("y", 3), ("first", 4), ("last", 5)]) (N := N_board_str) (sc := defScope s_board_str) (by decide +kernel)) (fun _ _ _ _ _ => (pg_tup (by rfl) (pgs_cons (pg_name (i := 2) sc_board_str.nd rfl (by first | exact Or.inl rfl | exact Or.inr rfl)) (pgs_cons (pg_name (i := 3) sc_board_str.nd rfl (by first | exact Or.inl rfl | exact Or.inr rfl)) (pgs_cons (pg_name (i := 4) sc_board_str.nd rfl (by first | exact Or.inl rfl | exact Or.inr rfl)) (pgs_cons (pg_name (i := 5) sc_board_str.nd rfl (by first | exact Or.inl rfl | exact Or.inr rfl)) pgs_nil)))))) (fun _ _ _ _ _ => pts_nil) (fun _ _ _ _ _ => (pe_joined (.cons (pe_fmt (pv 2)) (.cons pe_str (.cons (pe_fmt (pv 3)) (.cons pe_str (.cons (pe_fmt (pv 4)) (.cons pe_str (.cons (pe_fmt (pv 5)) .nil))))))))))))))), body_okU h (fun ds μ Φ p => ?_)⟩
  (try dsimp only [cxOf, Cx.nox, Cx.wish, List.map_cons, List.map_nil])
  obtain ⟨b, w, h, rows, l, s, sp, kg, kt, rfl, ⟨dx, gl, tl, lvs, hb, hsp, hkg, hkt⟩, ok, oks, few, q⟩ := p
  show AS K _ [some _, none, none, none, none, none] _ _
  have n1 : (Str.ofString (toString w)).length ≤ 31 := num_len ok.a
  have n2 : (Str.ofString (toString h)).length ≤ 31 := num_len ok.b
  have n3 : (Str.ofString (toString l)).length ≤ 31 := num_len ok.c
  have n4 : (Str.ofString (toString s)).length ≤ 31 := num_len ok.d
  walk_at "go"
  have look : ∀ (f : Str) (d : D), ([("wide", .int w), ("high", .int h), ("pin_rows", .tup (rows.map encR)), ("layer_count", .int l), ("apart_by", .int s), ("spots", .ref sp), ("kept_gates", .ref kg), ("kept_triangles", .ref kt)] : List (Str × D)).lookup f = some d → NoAttr K C_Board f → ∀ (i : Int) (Ψ : D → M → Prop), d = .int i → Ψ (.int i) μ → AE K (tFld K (tVar 0) f) [some (.ref b), none, none, none, none, none] μ Ψ := fun f d e no i Ψ ed q => by
    subst ed
    refine a_fld ?_
    walk_at "go"
    exact ⟨b, C_Board, dx, _, rfl, hb, K_Board.cls, no, _, e, q⟩
  have s1 : (Str.ofString " ").length = 1 := rfl
  have big : 1000 ≤ sizeLine := by have := sizeLine_eq; omega
  have fits : ∀ {y : Str}, y.length ≤ 1000 → y.length ≤ sizeLine := fun k => Nat.le_trans k big
  have em : ∀ y : Str, Str.empty ++ y = y := fun y => TL.ext_tl (by rw [TL.tl_append]; rfl)
  refine aj_cons (a_fmtI (big_log ok.a) (look "wide" _ rfl K_Board.n_wide w _ rfl ⟨rfl, ⟨_, rfl, ?_, ?_⟩⟩))
  · exact fits (by simp only [em, app_len, s1]; omega)
  rw [em]
  refine aj_cons (a_str ⟨_, rfl, ?_, ?_⟩)
  · exact fits (by simp only [em, app_len, s1]; omega)
  refine aj_cons (a_fmtI (big_log ok.b) (look "high" _ rfl K_Board.n_high h _ rfl ⟨rfl, _, rfl, ?_, ?_⟩))
  · exact fits (by simp only [em, app_len, s1]; omega)
  refine aj_cons (a_str ⟨_, rfl, ?_, ?_⟩)
  · exact fits (by simp only [em, app_len, s1]; omega)
  refine aj_cons (a_fmtI (big_log ok.c) (look "layer_count" _ rfl K_Board.n_layer_count l _ rfl ⟨rfl, _, rfl, ?_, ?_⟩))
  · exact fits (by simp only [em, app_len, s1]; omega)
  refine aj_cons (a_str ⟨_, rfl, ?_, ?_⟩)
  · exact fits (by simp only [em, app_len, s1]; omega)
  refine aj_cons (a_fmtI (big_log ok.d) (look "apart_by" _ rfl K_Board.n_apart_by s _ rfl ⟨rfl, _, rfl, ?_, ?_⟩))
  · exact fits (by simp only [em, app_len, s1]; omega)
  refine aj_nil ?_
  have e0 := q4S_app (w, h, l, s)
  rw [← show q4S (w, h, l, s) = _ from e0]
  walk_at "go"
  intro l1 hl1
  walk_at "go"
  refine m_joinV (a := " ; ") ?_
  walk_at "go"
  refine ⟨rfl, ?_⟩
  walk_at "go"
  refine a_lcp tg_4 (fun d => .str (q4S (ofR d))) (fun _ => true) (ai_T ?_)
  refine a_fld ?_
  walk_at "go"
  have nb : l1 ≠ b := ne_of_some hl1 hb
  refine ⟨b, C_Board, dx, _, rfl, by rw [set_ne (Ne.symm nb)]; exact hb, K_Board.cls, K_Board.n_pin_rows, _, rfl, _, rfl, by rw [List.length_map]; exact Nat.lt_of_le_of_lt few (by decide), fun x hx => ?_, fun l2 hl2 => ?_⟩
  · obtain ⟨r, hr, rfl⟩ := List.mem_map.mp hx
    have k := oks r hr
    have m1 : (Str.ofString (toString r.1)).length ≤ 31 := num_len k.a
    have m2 : (Str.ofString (toString r.2.1)).length ≤ 31 := num_len k.b
    have m3 : (Str.ofString (toString r.2.2.1)).length ≤ 31 := num_len k.c
    have m4 : (Str.ofString (toString r.2.2.2)).length ≤ 31 := num_len k.d
    refine ⟨_, ⟨rfl, rfl⟩, rfl, at_yes ⟨rfl, rfl⟩, fun _ => ?_⟩
    walk_at "nf"
    walk_at "go"
    refine aj_cons (a_fmtI (big_log k.a) (a_var rfl ⟨rfl, _, rfl, ?_, ?_⟩))
    · exact fits (by simp only [em, app_len, s1]; omega)
    rw [em]
    refine aj_cons (a_str ⟨_, rfl, ?_, ?_⟩)
    · exact fits (by simp only [em, app_len, s1]; omega)
    refine aj_cons (a_fmtI (big_log k.b) (a_var rfl ⟨rfl, _, rfl, ?_, ?_⟩))
    · exact fits (by simp only [em, app_len, s1]; omega)
    refine aj_cons (a_str ⟨_, rfl, ?_, ?_⟩)
    · exact fits (by simp only [em, app_len, s1]; omega)
    refine aj_cons (a_fmtI (big_log k.c) (a_var rfl ⟨rfl, _, rfl, ?_, ?_⟩))
    · exact fits (by simp only [em, app_len, s1]; omega)
    refine aj_cons (a_str ⟨_, rfl, ?_, ?_⟩)
    · exact fits (by simp only [em, app_len, s1]; omega)
    refine aj_cons (a_fmtI (big_log k.d) (a_var rfl ⟨rfl, _, rfl, ?_, ?_⟩))
    · exact fits (by simp only [em, app_len, s1]; omega)
    refine aj_nil ⟨?_, rfl⟩
    have e0 := q4S_app r
    rw [← show q4S r = _ from e0]
    rfl
  rw [List.filter_eq_self.mpr (fun _ _ => rfl), List.map_map, show rows.map ((fun d => D.str (q4S (ofR d))) ∘ encR) = (rows.map q4S).map D.str from by rw [List.map_map]; rfl]
  have n2' := none_ne hl2
  refine ro_cat (by rw [set_ne (Ne.symm n2')]; exact set_same) set_same (by rw [List.length_map, List.length_map]; simp only [List.length_cons, List.length_nil]; have := sizeLine_eq; omega) fun l3 hl3 => ?_
  refine ⟨q4S (w, h, l, s) :: rows.map q4S, seq_ref set_same, ?_, up_of ?_ q⟩
  · have := sum_le (ws := q4S (w, h, l, s) :: rows.map q4S) (k := 127) fun y hy => by
      rcases List.mem_cons.mp hy with rfl | hy
      · exact q4S_len ok
      · obtain ⟨r, hr, rfl⟩ := List.mem_map.mp hy
        exact q4S_len (oks r hr)
    rw [List.length_cons, List.length_map] at this ⊢
    rw [show (Str.ofString " ; ").length = 3 from rfl]
    omega
  · exact sub_new (sub_new (sub_new Sub.refl hl1) hl2) hl3))) only [↓Hold.on]
open MT
def P_number_in : PT3 := fun ds μ Φ => ∃ (w : Str) (k : Nat), ds = [.str w, .int k] ∧ k ≤ 640 ∧ w.length ≤ lng ∧ Φ (oD (numIn k w)) μ
theorem len_number_in (ds : List D) (μ : M) (Φ : D → M → Prop) (h : P_number_in ds μ Φ) : ds.length = 2 := by
  obtain ⟨_, _, rfl, _⟩ := h
  rfl
def sgN : D → Nat
  | .str s => s.cps.toList.headD 0
  | _ => 0
theorem digs_map (w : Str) : ((signsD w).map fun d => D.bl (digB (sgN d))) = ((w.cps.toList).map digB).map D.bl := by
  unfold signsD
  rw [List.map_map, List.map_map]
  rfl
theorem fig_in (n : Nat) : decide (n ∈ ("0123456789" : Str).cps.toList) = digB n := by
  unfold digB
  rw [show ("0123456789" : Str).cps.toList = [48, 49, 50, 51, 52, 53, 54, 55, 56, 57] from by decide +kernel]
  by_cases h : 48 ≤ n ∧ n ≤ 57
  · rw [decide_eq_true h, decide_eq_true_iff]
    simp only [List.mem_cons, List.not_mem_nil, or_false]
    omega
  · rw [decide_eq_false h, decide_eq_false_iff_not]
    simp only [List.mem_cons, List.not_mem_nil, or_false]
    omega
theorem ok_number_in {f : Addr} {fd : FuncData} {kws : List (Str × V)} (F : FunD K "number_in" "number_in" (defArgs s_number_in) (defBody s_number_in) (defScope s_number_in) [] kws f fd) (B : Bs mg) (V_FIGURES : Cst mg "FIGURES" (.str "0123456789")) : FnOk P w K mg base CX0 1 f fd ["word", "figures"] (spI K P_number_in) := by
  refine Hold.out ?_
  simp (disch := (
  refine Hold.as ?_
  with_unfolding_all (
  refine F.ok (CX := CX0) sc_number_in (fun vs H Q E h => spI_len h len_number_in) (fun cdv A outer s H vs Q E hr h => ?_)
  have hu65 := hu65_of hr
  refine ⟨_, (pss_cons (ps_if (PW.pt (pw_or (pt_cmpR op_eq (pv 0) pe_str (by first | exact nomark _ | rfl)) (pw_or (pt_cmpR op_gt (pe_callB (call_lenK (K := K) rfl) (by rfl) B.b_len (by decide +kernel) (pa_cons (pv 0) pa_nil)) (pv 1) (by first | exact nomark _ | rfl)) (pw_or1 (pt_not (pt_val (pe_callB (cr_allK (K := K) rfl rfl) (by rfl) B.b_all (by decide +kernel) (pa_cons (pe_lc (own := [("sign", 2)]) (g := gName 2) (tt := tYes) rfl sc_number_in.nd (pi_str (pv 0)) (blkOk_by (own := [("sign", 2)]) (N := N_number_in) (sc := defScope s_number_in) (by decide +kernel)) (fun _ _ _ _ _ => (pg_name (i := 2) sc_number_in.nd rfl (by first | exact Or.inl rfl | exact Or.inr rfl))) (fun _ _ _ _ _ => pts_nil) (fun _ _ _ _ _ => (pe_cmpR op_in_sign (pv 2) (pe_cst V_FIGURES (by rfl)) (by first | exact nomark _ | rfl)))) pa_nil)))))))) (pss_one (ps_ret pe_non)) pss_nil)
      (pss_one (ps_ret (pe_ifExp (PW.pt (pw_or (pt_cmpR op_eq (pv 0) pe_str (by first | exact nomark _ | rfl)) (pw_or1 (pt_cmpR op_ne (pe_ix (ix_seqK (K := K) rfl) (pv 0) pe_int (fun _ _ => rfl)) pe_str (by first | exact nomark _ | rfl))))) (pe_callTy call_int_str (by rfl) B.b_int (by decide +kernel) (pa_cons (pv 0) pa_nil)) pe_non)))), body_okU h (fun ds μ Φ p => ?_)⟩
  (try dsimp only [cxOf, Cx.nox, Cx.wish, List.map_cons, List.map_nil])
  obtain ⟨w, k, rfl, hk, hw, q⟩ := p
  show AS K _ [some _, some _, none] _ _
  have hz := lng_line hw
  have sl : Sz 31 (w.length : Int) := by unfold Sz; rw [Int.natAbs_natCast]; exact Nat.lt_of_le_of_lt hw (by decide)
  have none_ : numIn k w = none → Φ .non μ := fun e => by rw [e] at q; exact q
  walk_at "go"
  refine ite_d (fun h1 => ?_) (fun h1 => ?_)
  · walk_at "go"
    exact up_of Sub.refl (none_ (by unfold numIn; rw [if_pos (.inl (by rw [h1]; rfl))]))
  walk_at "go"
  refine ite_d (fun h2 => ?_) (fun h2 => ?_)
  · walk_at "go"
    exact up_of Sub.refl (none_ (by unfold numIn; rw [if_pos (.inr (.inl (by omega)))]))
  walk_at "go"
  refine a_lc1 (fun d => .bl (digB (sgN d))) (fun _ => true) (ai_str ?_)
  walk_at "go"
  refine ⟨by rw [signs_len]; exact Nat.lt_of_le_of_lt hw (by decide), fun x hx => at_yes ⟨rfl, rfl⟩, fun x hx _ => ?_, fun l hl => ?_⟩
  · obtain ⟨n, _, rfl⟩ := List.mem_map.mp hx
    walk_at "nf"
    walk_at "go"
    exact ⟨by rw [fig_in]; rfl, rfl⟩
  rw [List.filter_eq_self.mpr (fun _ _ => rfl), digs_map]
  walk_at "go"
  refine rc_all set_same ?_
  rw [show ((w.cps.toList.map digB).all id) = w.cps.toList.all digB by rw [List.all_map]; rfl]
  try refine ⟨_, rfl, ?_⟩
  by_cases h3 : w.cps.toList.all digB = true
  rotate_left
  · rw [show w.cps.toList.all digB = false by simpa using h3]
    walk_at "go"
    exact up_of (sub_new Sub.refl hl) (none_ (by unfold numIn; rw [if_pos (.inr (.inr h3))]))
  rw [h3]
  have hne : TL.tl w ≠ [] := fun e => h1 (TL.ext_tl (by rw [e]; rfl))
  have hlen : w.length ≤ k := by omega
  have hint : PySem.intText? w = some ((dV (TL.tl w) : Nat) : Int) := PySem.intText_digits (digs_iff.mp h3) hne (by omega)
  have lp : w.length ≠ 0 := by rw [TL.len_tl]; exact fun e => hne (List.length_eq_zero_iff.mp e)
  have pre : ¬ (w.length = 0 ∨ k < w.length ∨ ¬ (TL.tl w).all digB = true) := by
    rintro (h | h | h)
    · exact lp h
    · omega
    · exact h h3
  have some_ : (w = "0" ∨ (TL.tl w).head? ≠ some 48) → Φ (.int ((dV (TL.tl w) : Nat) : Int)) μ := fun e => by
    unfold numIn at q
    rw [if_neg pre, if_pos e] at q
    exact q
  obtain ⟨c0, cs, hc⟩ : ∃ c cs, TL.tl w = c :: cs := by
    cases e : TL.tl w with
    | nil => exact absurd e hne
    | cons c cs => exact ⟨c, cs, rfl⟩
  walk_at "go"
  refine ite_d (fun h4 => ?_) (fun h4 => ?_)
  · walk_at "go"
    refine rc_intS hint (by omega) ?_
    exact up_of (sub_new Sub.refl hl) (some_ (.inl h4))
  walk_at "go"
  refine ro_ixS (n := c0) hz (by unfold atI; rw [show w.cps.toList = c0 :: cs from hc]; simp [ixN]) ?_
  walk_at "go"
  have same : ({ cps := #[c0] } : Str) = "0" ↔ c0 = 48 := ⟨fun e => by
    have := congrArg TL.tl e
    exact (List.cons.inj (show [c0] = [48] from this)).1, fun e => by rw [e]; rfl⟩
  by_cases h5 : ({ cps := #[c0] } : Str) = "0"
  · rw [if_neg (by simp [h5])]
    walk_at "go"
    refine up_of (sub_new Sub.refl hl) (none_ ?_)
    unfold numIn
    rw [if_neg pre, if_neg]
    rintro (e | e)
    · exact h4 e
    · rw [hc, same.mp h5] at e
      exact e rfl
  · rw [if_pos (by simp [h5])]
    walk_at "go"
    refine rc_intS hint (by omega) ?_
    refine up_of (sub_new Sub.refl hl) (some_ (.inr ?_))
    rw [hc]
    exact fun e => h5 (same.mpr (Option.some.inj e))))) only [↓Hold.on]
def strN : D → Str
  | .str s => s
  | _ => Str.empty
theorem back_same {μ : M} {l : Addr} {m : MO} : ((μ.set l m).del l).set l m = μ.set l m := by
  funext a
  unfold M.set M.del
  by_cases h : a = l <;> simp [h]
theorem strs_len {ws : List Str} : ((ws.map D.str)).length = ws.length := List.length_map ..
theorem starts_dash (w : Str) : Txt.startswith w (Str.ofString "-") = decide (cutS w none (some 1) = "-") := by
  have e1 : TL.tl (cutS w none (some 1)) = (TL.tl w).take 1 := by
    rw [tl_cut]
    show ((TL.tl w).drop 0).take (min 1 w.length - 0) = _
    rw [List.drop_zero, Nat.sub_zero, TL.len_tl]
    cases TL.tl w <;> simp
  have e2 : (cutS w none (some 1) = "-") ↔ (TL.tl w).take 1 = [45] := by
    rw [← e1]
    exact ⟨fun e => by rw [e]; rfl, fun e => TL.ext_tl (by rw [e]; rfl)⟩
  unfold Txt.startswith
  rw [PySem.StrLaws.subAt_eq, Bool.eq_iff_iff, Bool.and_eq_true, decide_eq_true_eq, decide_eq_true_eq, e2]
  show 0 + 1 ≤ w.length ∧ _ ↔ _
  rw [TL.len_tl, List.drop_zero]
  cases h : TL.tl w with
  | nil =>
    have h' : w.cps.toList = [] := h
    rw [h']
    simp
  | cons a r =>
    have h' : w.cps.toList = a :: r := h
    rw [h']
    simp
    show [a] = [45] ↔ _
    simp
def P_whole_in : PT3 := fun ds μ Φ => ∃ w : Str, ds = [.str w] ∧ w.length ≤ lng ∧ Φ (oD (wholeIn w)) μ
theorem len_whole_in (ds : List D) (μ : M) (Φ : D → M → Prop) (h : P_whole_in ds μ Φ) : ds.length = 1 := by
  obtain ⟨_, rfl, _⟩ := h
  rfl
def P_four_in : PT4 := fun ds μ Φ Ξ => ∃ s : Str, ds = [.str s] ∧ s.length ≤ lng ∧ (∀ q, fourIn s = some q → ∀ p, μ p = none → Φ (.ref p) (μ.set p (.lst [.int q.1, .int q.2.1, .int q.2.2.1, .int q.2.2.2]))) ∧ (fourIn s = none → Ξ "NoText" none μ)
theorem len_four_in (ds : List D) (μ : M) (Φ : D → M → Prop) (Ξ : XW) (h : P_four_in ds μ Φ Ξ) : ds.length = 1 := by
  obtain ⟨_, rfl, _⟩ := h
  rfl
theorem ok_whole_in {f : Addr} {fd : FuncData} (F : Fun K "whole_in" "whole_in" s_whole_in f fd) (B : Bs mg) (V_MOST_FIGURES : Cst mg "MOST_FIGURES" (.int 30)) (N_number_in_1_figures : DefN P w K mg base "number_in" ["word", "figures"] 1 ["figures"] [(true, 0)] [] 1 (spI K P_number_in)) : FnOk P w K mg base CX0 2 f fd ["word"] (spI K P_whole_in) := by
  refine Hold.out ?_
  simp (disch := (
  refine Hold.as ?_
  with_unfolding_all (
  refine F.ok sc_whole_in (fun vs H Q E h => spI_len h len_whole_in) (fun cdv A outer s H vs Q E hr h => ?_)
  have hu65 := hu65_of hr
  refine ⟨_, (pss_cons (ps_if (pt_val (pe_m1 PySem.F.slot_str_startswith PySem.F.type_str_startswith mt_startswith (pv 0) pe_str)) (pss_cons (ps_set (i := 1) sc_whole_in.nd rfl (by first | exact Or.inl rfl | exact Or.inr rfl) (pe_defK N_number_in_1_figures (hr.mono (by decide)) (by rfl) (pa_cons (pe_slice sl_str (pv 0) (po_some pe_int) po_none) pa_nil) (pk_cons (pe_cst V_MOST_FIGURES (by rfl)) pk_nil)))
      (pss_one (ps_ret (pe_ifExp (PW.pt (pw_or (pt_cmpR op_isN (pv 1) pe_non (by first | exact nomark _ | rfl)) (pw_or1 (pt_cmpR op_eq (pv 1) pe_int (by first | exact nomark _ | rfl))))) pe_non (pe_op op_sub pe_int (pv 1)))))) pss_nil)
      (pss_one (ps_ret (pe_defK N_number_in_1_figures (hr.mono (by decide)) (by rfl) (pa_cons (pv 0) pa_nil) (pk_cons (pe_cst V_MOST_FIGURES (by rfl)) pk_nil))))), body_okU h (fun ds μ Φ p => ?_)⟩
  (try dsimp only [cxOf, Cx.nox, Cx.wish, List.map_cons, List.map_nil])
  obtain ⟨w, rfl, hw, q⟩ := p
  show AS K _ [some _, none] _ _
  have hz := lng_line hw
  walk_at "go"
  refine m_startsS (a := w) (b := "-") ?_
  walk_at "go"
  refine ⟨rfl, ?_⟩
  walk_at "go"
  refine ⟨rfl, _, rfl, ?_⟩
  rw [starts_dash]
  by_cases hd : cutS w none (some 1) = "-"
  · rw [show decide (cutS w none (some 1) = "-") = true from decide_eq_true hd]
    simp only [if_true]
    walk_at "go"
    refine a_defKI [] (fun _ => .nil) ?_
    walk_at "go"
    have hw1 : (cutS w (some 1) none).length ≤ lng := Nat.le_trans (cut_le _ _ _) hw
    unfold wholeIn at q
    rw [if_pos hd] at q
    refine ⟨rfl, rfl, cutS w (some 1) none, 30, rfl, by decide, hw1, ?_⟩
    generalize numIn 30 (cutS w (some 1) none) = o at q
    cases o with
    | none =>
      walk_at "go"
      rw [show isN (oD none) = true from rfl]
      simp only [if_true]
      walk_at "go"
      exact up_of Sub.refl q
    | some n =>
      have q : Φ (oD (if n = 0 then none else some (0 - n))) μ := q
      dsimp only [oD]
      walk_at "go"
      rw [show isN (D.int n) = false from rfl]
      simp only [Bool.false_eq_true, if_false]
      walk_at "go"
      refine ite_d (fun h0 => ?_) (fun h0 => ?_)
      · rw [if_pos h0] at q
        walk_at "go"
        exact up_of Sub.refl q
      · rw [if_neg h0] at q
        walk_at "go"
        exact up_of Sub.refl q
  · rw [show decide (cutS w none (some 1) = "-") = false from decide_eq_false hd]
    simp only [Bool.false_eq_true, if_false]
    walk_at "go"
    refine a_defKI [] (fun _ => .nil) ?_
    walk_at "go"
    have e : wholeIn w = numIn 30 w := by unfold wholeIn; rw [if_neg hd]
    rw [e] at q
    exact ⟨rfl, rfl, w, 30, rfl, by decide, hw, up_of Sub.refl q⟩))) only [↓Hold.on]
theorem ok_four_in {f : Addr} {fd : FuncData} (F : Fun K "four_in" "four_in" s_four_in f fd) (B : Bs mg) {C_NoText : Addr} (E_NoText : Exc0 K mg "NoText" C_NoText) (G_whole_in : Def P w K mg base "whole_in" ["word"] 2 (spI K P_whole_in)) : FnOk P w K mg base (L2.CX P w) 3 f fd ["text"] (spX K (xn mg) P_four_in) := by
  refine Hold.out ?_
  simp (disch := (
  refine Hold.as ?_
  with_unfolding_all (
  refine F.okX sc_four_in (fun vs H Q E h => spX_len h len_four_in) (fun cdv A outer s H vs Q E hr h => ?_)
  have hu65 := hu65_of hr
  refine ⟨_, (pss_cons (ps_setLc (i := 1) (own := [("word", 2)]) (g := gName 2) (tt := tYes) rfl sc_four_in.nd rfl rfl (sw_true rfl rfl rfl (by decide +kernel)) (pi_listK (K := K) rfl (pe_split (pv 0) pe_str)) (blkOk_by (own := [("word", 2)]) (N := N_four_in) (sc := defScope s_four_in) (by decide +kernel)) (fun _ _ _ _ _ => (pg_name (i := 2) sc_four_in.nd rfl (by first | exact Or.inl rfl | exact Or.inr rfl))) (fun _ _ _ _ _ => pts_nil) (fun _ _ _ _ _ => (pe_def G_whole_in (hr.mono (by decide)) (by rfl) (pa_cons (pv 2) pa_nil))))
      (pss_cons (ps_if (PW.pt (pw_or (pt_cmpR op_ne (pe_callB (call_lenK (K := K) rfl) (by rfl) B.b_len (by decide +kernel) (pa_cons (pv 1) pa_nil)) pe_int (by first | exact nomark _ | rfl)) (pw_or1 (pt_cmpR (op_inSK (K := K) rfl hu65) pe_non (pv 1) (by first | exact nomark _ | rfl))))) (pss_one (ps_raise rfl (takes_of rfl rfl rfl rfl) (pmk_e0 E_NoText (by rfl)))) pss_nil)
      (pss_one (ps_ret (pv 1))))), body_okXU h (fun ds μ Φ Ξ p => ?_)⟩
  (try dsimp only [cxOf, Cx.nox, Cx.wish, List.map_cons, List.map_nil])
  obtain ⟨s, rfl, hs, some_, none_⟩ := p
  show AS K _ [some _, none, none] _ _
  refine s_seq ?_
  refine s_asg ?_
  refine a_lc1 (fun d => oD (wholeIn (strN d))) (fun _ => true) (ai_L ?_)
  refine m_split (a := s) (b := " ") ?_
  walk_at "go"
  refine ⟨rfl, ?_⟩
  walk_at "go"
  refine ⟨rfl, by decide +kernel, Nat.le_trans (Nat.add_le_add_right hs 2) (by decide), fun l hl => ?_⟩
  refine ⟨l, _, rfl, set_same, by rw [strs_len]; exact Nat.lt_of_le_of_lt (words_few s) (Nat.lt_of_le_of_lt (Nat.add_le_add_right hs 2) (by decide)), fun x hx => at_yes ⟨rfl, rfl⟩, fun x hx _ => ?_, fun l2 hl2 => ?_⟩
  · obtain ⟨p, hp, rfl⟩ := List.mem_map.mp hx
    walk_at "nf"
    walk_at "go"
    exact ⟨p, rfl, Nat.le_trans (words_le hp) hs, rfl, rfl⟩
  rw [List.filter_eq_self.mpr (fun _ _ => rfl), List.map_map, show (Txt.split s " ").map ((fun d => oD (wholeIn (strN d))) ∘ D.str) = ((words s).map wholeIn).map oD from by rw [List.map_map]; rfl]
  have some' : ∀ q, fourOf ((words s).map wholeIn) = some q → ∀ p, μ p = none → Φ (.ref p) (μ.set p (.lst [.int q.1, .int q.2.1, .int q.2.2.1, .int q.2.2.2])) := some_
  have none' : fourOf ((words s).map wholeIn) = none → Ξ "NoText" none μ := none_
  have lw : ((words s).map wholeIn).length ≤ lng + 2 := by rw [List.length_map]; exact Nat.le_trans (words_few s) (Nat.add_le_add_right hs 2)
  generalize (words s).map wholeIn = ns at some' none' lw
  dsimp only at hl2 ⊢
  have e1 : ((μ.set l (MO.lst (List.map D.str (Txt.split s (Str.ofString " "))))).del l).set l (MO.lst (List.map D.str (Txt.split s (Str.ofString " ")))) = μ.set l (MO.lst (List.map D.str (Txt.split s (Str.ofString " ")))) := back_same
  rw [e1] at hl2 ⊢
  have s1 : Sub μ (μ.set l (MO.lst (List.map D.str (Txt.split s (Str.ofString " "))))) := sub_new Sub.refl hl
  generalize μ.set l (MO.lst (List.map D.str (Txt.split s (Str.ofString " ")))) = μ1 at s1 hl2 ⊢
  have s2 := sub_new (Y := .lst (ns.map oD)) s1 hl2
  have h2 : (μ1.set l2 (.lst (ns.map oD))) l2 = some (.lst (ns.map oD)) := set_same
  have n2 : μ l2 = none := by
    cases e : μ l2 with
    | none => rfl
    | some m => rw [s1 _ _ e] at hl2; cases hl2
  have fin : ∀ q, fourOf ns = some q → ns = [some q.1, some q.2.1, some q.2.2.1, some q.2.2.2] → Up Φ (.ref l2) (μ1.set l2 (.lst (ns.map oD))) := fun q e1 e2 => by
    refine ⟨μ.set l2 (.lst (ns.map oD)), fun a m ea => ?_, ?_⟩
    · by_cases na : a = l2
      · subst na
        rw [set_same] at ea ⊢
        exact ea
      · rw [set_ne na] at ea ⊢
        exact s1 a m ea
    · have := some' q e1 l2 n2
      rw [e2]
      exact this
  generalize μ1.set l2 (.lst (ns.map oD)) = μ2 at s2 h2 fin ⊢
  refine g_name ?_
  walk_at "nf"
  walk_at "go"
  by_cases h4 : ns.length = 4
  rotate_left
  · rw [if_pos (by rw [List.length_map]; simp; omega), if_pos rfl]
    refine s_raise0 (xn_at E_NoText.mg) ?_
    exact ⟨μ, s2, none' (fourOf_len h4)⟩
  rw [if_neg (by rw [List.length_map]; simp; omega)]
  walk_at "go"
  refine ro_inS (ds := ns.map oD) (seq_ref h2) rfl ((okn_tup (n := 0) fun x hx => by obtain ⟨o, _, rfl⟩ := List.mem_map.mp hx; exact okn_o o).ok (by decide)) ?_
  rw [inD_non]
  by_cases h6 : none ∈ ns
  · rw [show decide (none ∈ ns) = true from decide_eq_true h6]
    refine ⟨_, rfl, ?_⟩
    simp only [if_true]
    refine s_raise0 (xn_at E_NoText.mg) ?_
    exact ⟨μ, s2, none' (fourOf_non h6)⟩
  rw [show decide (none ∈ ns) = false from decide_eq_false h6]
  refine ⟨_, rfl, ?_⟩
  simp only [Bool.false_eq_true, if_false]
  walk_at "go"
  obtain ⟨q, e1, e2⟩ := fourOf_some h4 h6
  exact fin q e1 e2))) only [↓Hold.on]
theorem join_low (a : Str) (k : Nat) : ∀ ys : List Str, (∀ y ∈ ys, k ≤ y.length) → ys.length * (k + a.length) ≤ (Txt.join a ys).length + a.length
  | [], _ => by rw [List.length_nil, Nat.zero_mul]; exact Nat.zero_le _
  | [y], h => by
    have := h y List.mem_cons_self
    rw [TL.join_eq, TL.len_tl (Str.join a [y]), TL.tl_join]
    show (0 + 1) * _ ≤ (TL.tl y).length + _
    rw [← TL.len_tl]
    omega
  | y :: z :: r, h => by
    have i := join_low a k (z :: r) fun w hw => h w (List.mem_cons_of_mem _ hw)
    have h1 := h y List.mem_cons_self
    rw [TL.join_eq, TL.len_tl (Str.join a _), TL.tl_join] at i ⊢
    show _ ≤ (TL.tl y ++ (TL.tl a ++ TL.joinL (TL.tl a) ((z :: r).map TL.tl))).length + _
    rw [List.length_append, List.length_append, ← TL.len_tl, ← TL.len_tl, List.length_cons, Nat.succ_mul]
    omega
theorem num_ne {k : Nat} {w : Str} {i : Int} (h : numIn k w = some i) : 1 ≤ w.length := by
  unfold numIn at h
  split at h
  · cases h
  · rename_i h1
    omega
theorem whole_ne {w : Str} {i : Int} (h : wholeIn w = some i) : 1 ≤ w.length := by
  unfold wholeIn at h
  split at h
  · rename_i hd
    split at h
    · cases h
    · rename_i n hn
      exact Nat.le_trans (num_ne hn) (cut_le _ _ _)
  · exact num_ne h
theorem four_low {p : Str} {q : Q4} (h : fourIn p = some q) : 7 ≤ p.length := by
  unfold fourIn at h
  have hl : ((words p).map wholeIn).length = 4 := Classical.byContradiction fun z => by rw [fourOf_len z] at h; cases h
  have hn : none ∉ (words p).map wholeIn := fun z => by rw [fourOf_non z] at h; cases h
  have j := join_low " " 1 (words p) fun w hw => by
    cases e : wholeIn w with
    | none => exact absurd (List.mem_map.mpr ⟨w, hw, e⟩) hn
    | some i => exact whole_ne e
  rw [back_words, show (words p).length = 4 by rw [← hl, List.length_map], show (" " : Str).length = 1 from rfl] at j
  omega
theorem parts_low {s : Str} (h : ∀ p ∈ bparts s, ∃ q, fourIn p = some q) : (bparts s).length * 10 ≤ s.length + 3 := by
  have j := join_low " ; " 7 (bparts s) fun p hp => let ⟨q, e⟩ := h p hp; four_low e
  rw [back_parts, show (" ; " : Str).length = 3 from rfl] at j
  exact j
theorem sub_none {μ μ' : M} {a : Addr} (s : Sub μ μ') (h : μ' a = none) : μ a = none := by
  cases e : μ a with
  | none => rfl
  | some m => rw [s _ _ e] at h; cases h
theorem s_tryRetX {K : PySem.W.Frag} {τ : T} {μ : M} {N : AEnds} (cn : Str → Option Value) {C : Addr} {n k : Nat} {sp : _} {g : _} {as : _} {bs : _} {c : Value} {i : Nat} {tu : Addr → Value → Option Addr → TS} (hit : Str → Bool) (hm : ∀ x cls, cn x = some cls → PySem.W.exmOne K cls c = some (hit x))
    (hb : ∀ W, AS K (tRet (tMakeKS C n k sp g (WE W) as bs)) τ μ { N with W := W, cn := cn, xs := fun x dx τ' μ' => (hit x = true ∧ ∀ a cls, cn x = some cls → AS K (tu a cls dx) (τ'.set i (some (.ref a))) μ'
      { nx := fun τ2 μ2 => N.nx (τ2.set i none) μ2, rt := N.rt, bk := fun τ2 μ2 => N.bk (τ2.set i none) μ2, ct := fun τ2 μ2 => N.ct (τ2.set i none) μ2, W := L2H.offW i N.W, cn := N.cn, xs := fun x dx τ2 μ2 => N.xs x dx (τ2.set i none) μ2 }) ∨ (hit x = false ∧ N.cn x = cn x ∧ N.xs x dx τ' μ') }) :
    AS K (fun D σ H => tRet (tMakeKS C n k sp g (WE (wAs K c i tu N.W D)) as bs) D σ H) τ μ N := s_tryAsX cn (tb := fun W => tRet (tMakeKS C n k sp g (WE W) as bs)) hit hm hb
abbrev fourD (q : Q4) : List D := [.int q.1, .int q.2.1, .int q.2.2.1, .int q.2.2.2]
theorem boardRes_bad {s p : Str} (h : p ∈ bparts s) (e : fourIn p = none) : boardRes s = none := by
  have m : none ∈ (bparts s).map fourIn := List.mem_map.mpr ⟨p, h, e⟩
  unfold boardRes
  generalize (bparts s).map fourIn = l at m
  split
  · rename_i q r
    rw [if_neg]
    rintro ⟨h1, _⟩
    rcases List.mem_cons.mp m with z | z
    · cases z
    · have := List.all_eq_true.mp h1 _ z
      cases this
  · rfl
theorem boardRes_eq {s : Str} {q : Q4} {rows : List Q4} (e : (bparts s).map fourIn = (q :: rows).map some) : boardRes s = if madeOk q rows = true then some (q, rows) else none := by
  unfold boardRes
  rw [e, List.map_cons]
  have a : ((rows.map some).all fun x => x.isSome) = true := by rw [List.all_map]; exact List.all_eq_true.mpr fun _ _ => rfl
  have f : (rows.map some).filterMap id = rows := by
    rw [List.filterMap_map]
    show rows.filterMap some = rows
    exact List.filterMap_some
  show (if _ ∧ _ then _ else _) = _
  rw [f]
  by_cases h : madeOk q rows = true
  · rw [if_pos h, if_pos ⟨a, h⟩]
  · rw [if_neg h, if_neg fun z => h z.2]
theorem bparts_ne (s : Str) : bparts s ≠ [] := fun e => by
  have i := TL.split_spl s " ; " (by decide +kernel) (TL.kind_ok (by decide +kernel))
  rw [show Txt.split s " ; " = [] from e] at i
  exact spl_ne _ _ _ _ i.symm
theorem bpart_le {s p : Str} (h : p ∈ bparts s) : p.length ≤ s.length := part_le (by decide +kernel) (by decide +kernel) h
theorem bparts_few (s : Str) : (bparts s).length ≤ s.length + 2 := PyProof.Rows.split_le s _
def P_read_board (C : Addr) : PT4 := fun ds μ Φ Ξ => ∃ (d : D) (n : String) (b : Bool), ds = [d] ∧ tyn μ d = some n ∧ kitB n "str" = some b ∧ (b = false → Ξ "NoText" none μ) ∧
  (b = true → ∃ s : Str, d = .str s ∧ s.length ≤ lng ∧ (∀ q rows, boardRes s = some (q, rows) → ∀ μ' a sp kg kt, Sub μ μ' → μ a = none → μ sp = none → μ kg = none → μ kt = none → Brd C μ' a q.1 q.2.1 rows q.2.2.1 q.2.2.2 sp kg kt → Φ (.ref a) μ') ∧ (boardRes s = none → Ξ "NoText" none μ))
theorem len_read_board (C : Addr) (ds : List D) (μ : M) (Φ : D → M → Prop) (Ξ : XW) (h : P_read_board C ds μ Φ Ξ) : ds.length = 1 := by
  obtain ⟨_, _, _, rfl, _⟩ := h
  rfl
def P_show_board (C : Addr) : PT3 := fun ds μ Φ => ∃ b w h rows l s sp kg kt, ds = [.ref b] ∧ Brd C μ b w h rows l s sp kg kt ∧ Q4Ok (w, h, l, s) ∧ (∀ r ∈ rows, Q4Ok r) ∧ rows.length ≤ 16 ∧ Φ (.str (brdS (w, h, l, s) rows)) μ
theorem len_show_board (C : Addr) (ds : List D) (μ : M) (Φ : D → M → Prop) (h : P_show_board C ds μ Φ) : ds.length = 1 := by
  obtain ⟨_, _, _, _, _, _, _, _, _, rfl, _⟩ := h
  rfl
theorem ok_show_board {f : Addr} {fd : FuncData} (F : Fun K "show_board" "show_board" s_show_board f fd) (B : Bs mg) {C_Board : Addr} (K_Board : Cl_Board K C_Board) (G_board_str : Mth P w K mg base C_Board "__str__" ["self"] 1 (spI K (P_board_str C_Board))) : FnOk P w K mg base CX0 4 f fd ["board"] (spI K (P_show_board C_Board)) := by
  refine F.ok sc_show_board (fun vs H Q E h => spI_len h (len_show_board C_Board)) (fun cdv A outer s H vs Q E hr h => ?_)
  have hu65 := hu65_of hr
  refine ⟨_, (pss_one (ps_ret (pe_callTy (OWN.cr_strO G_board_str (hr.mono (by decide))) (by rfl) B.b_str (by decide +kernel) (pa_cons (pv 0) pa_nil)))), body_ok h (fun ds μ Φ p => ?_)⟩
  (try dsimp only [cxOf, Cx.nox, Cx.wish, List.map_cons, List.map_nil])
  obtain ⟨b, w, h, rows, l, s, sp, kg, kt, rfl, BR, ok, oks, few, q⟩ := p
  obtain ⟨dx, gl, tl, lvs, hb, hsp, hkg, hkt⟩ := id BR
  show AS K _ [some _] _ _
  walk_at "go"
  exact rc_strO hb ⟨b, w, h, rows, l, s, sp, kg, kt, rfl, BR, ok, oks, few, _, rfl, q⟩
theorem ok_read_board {f : Addr} {fd : FuncData} (F : Fun K "read_board" "read_board" s_read_board f fd) (B : Bs mg) {C_Board : Addr} (K_Board : Cl_Board K C_Board) {C_NoBoard : Addr} (E_NoBoard : Exc0 K mg "NoBoard" C_NoBoard) {C_NoPin : Addr} (E_NoPin : Exc1 P w K mg base "NoPin" "pin" C_NoPin) {C_NoText : Addr} (E_NoText : Exc0 K mg "NoText" C_NoText) (H_NoBoard_NoBoard : PySem.W.exmOne K (.ref C_NoBoard) (.ref C_NoBoard) = some true) (H_NoPin_NoBoard : PySem.W.exmOne K (.ref C_NoPin) (.ref C_NoBoard) = some false) (H_NoText_NoBoard : PySem.W.exmOne K (.ref C_NoText) (.ref C_NoBoard) = some false) (G_four_in : DefX P w K mg base "four_in" ["text"] 3 (spX K (xn mg) P_four_in)) (M_Board : ZN.MkK P w K mg base "Board" C_Board ["self", "width", "height", "pins", "layers", "spacing"] 3 ["layers", "spacing"] [(true, 0), (true, 1)] [] 6 (spX K (xn mg) (P_board_init C_Board))) : FnOk P w K mg base (L2.CX P w) 8 f fd ["text"] (spX K (xn mg) (P_read_board C_Board)) := by
  refine Hold.out ?_
  simp (disch := (
  refine Hold.as ?_
  with_unfolding_all (
  refine F.okX sc_read_board (fun vs H Q E h => spX_len h (len_read_board C_Board)) (fun cdv A outer s H vs Q E hr h => ?_)
  have hu65 := hu65_of hr
  refine ⟨_, (pss_cons (ps_if (pt_not (pt_val (pe_callB (call_isiK1 (K := K) rfl) (by rfl) B.b_isinstance (by decide +kernel) (pa_cons (pv 0) (pa_cons (pe_bltn (v := .ty "str") (by rfl) B.b_str (by decide +kernel) rfl) pa_nil))))) (pss_one (ps_raise rfl (takes_of rfl rfl rfl rfl) (pmk_e0 E_NoText (by rfl)))) pss_nil)
      (pss_cons (ps_asg (ZQ.pe_lcX (own := [("part", 7)]) (g := gName 7) (tt := tYes) rfl rfl rfl (takes_of rfl rfl rfl rfl) (fun _ _ _ _ _ z => z) sc_read_board.nd (pi_listK (K := K) rfl (pe_split (pv 0) pe_str)) (blkOk_by (own := [("part", 7)]) (N := N_read_board) (sc := defScope s_read_board) (by decide +kernel)) (fun _ _ _ _ _ => (pg_name (i := 7) sc_read_board.nd rfl (by first | exact Or.inl rfl | exact Or.inr rfl))) (fun _ _ _ _ _ => pts_nil) (fun _ _ _ _ _ _ pb => (ZQ.pe_callB pb G_four_in (hr.mono (by decide)) (by rfl) (pa_cons (pv 7) pa_nil)))) (pg_star (K := K) (i := 1) (m := 0) rfl rfl (pgs_cons (pg_lst (by rfl) (pgs_cons (pg_name (i := 1) sc_read_board.nd rfl (by first | exact Or.inl rfl | exact Or.inr rfl)) (pgs_cons (pg_name (i := 2) sc_read_board.nd rfl (by first | exact Or.inl rfl | exact Or.inr rfl)) (pgs_cons (pg_name (i := 3) sc_read_board.nd rfl (by first | exact Or.inl rfl | exact Or.inr rfl)) (pgs_cons (pg_name (i := 4) sc_read_board.nd rfl (by first | exact Or.inl rfl | exact Or.inr rfl)) pgs_nil))))) (pgs_star (pgs_cons (pg_name (i := 5) sc_read_board.nd rfl (by first | exact Or.inl rfl | exact Or.inr rfl)) pgs_nil)))))
      (pss_one (L2H.ps_try_asX (i := 6) rfl rfl sc_read_board.nd rfl rfl ⟨by rfl, by decide, Or.inl E_NoBoard.mg⟩ (fun hd => L2H.passesAt_of rfl hd) (takes_of rfl rfl rfl rfl) (fun W pn xe tk po => (pss_one (ps_ret (ZN.pe_mkKX tk M_Board (hr.mono (by decide)) (by rfl) (pa_cons (pv 1) (pa_cons (pv 2) (pa_cons (pe_callTy (call_tupleK (K := K) rfl) (by rfl) B.b_tuple (by decide +kernel) (pa_cons (pe_lc (own := [("row", 8)]) (g := gName 8) (tt := tYes) rfl sc_read_board.nd (pi_listK (K := K) rfl (pv 5)) (blkOk_by (own := [("row", 8)]) (N := N_read_board) (sc := defScope s_read_board) (by decide +kernel)) (fun _ _ _ _ _ => (pg_name (i := 8) sc_read_board.nd rfl (by first | exact Or.inl rfl | exact Or.inr rfl))) (fun _ _ _ _ _ => pts_nil) (fun _ _ _ _ _ => (pe_callTy (call_tupleK (K := K) rfl) (by rfl) B.b_tuple (by decide +kernel) (pa_cons (pv 8) pa_nil)))) pa_nil)) pa_nil))) (pk_cons (pv 3) (pk_cons (pv 4) pk_nil)))))) (fun a oe cls d pn hz hf tk hot => (pss_one (L2H.ps_raiseHE (K := K) (i := 6) (a1 := a) (oe1 := oe) rfl List.mem_cons_self hot hz.1 rfl (by first | exact Or.inl rfl | exact Or.inr (Or.inl rfl)) tk (pmk_e05 E_NoText (by rfl))))))))), body_okXU h (fun ds μ Φ Ξ p => ?_)⟩
  (try dsimp only [cxOf, Cx.nox, Cx.wish, List.map_cons, List.map_nil])
  obtain ⟨d, n, b, rfl, hn, hk, no, yes⟩ := p
  show AS K _ [some _, none, none, none, none, none, none, none, none] _ _
  refine s_seq ?_
  refine s_if ?_
  refine at_not (at_B ?_)
  walk_at "go"
  refine rc_isi hn hk ?_
  refine ⟨_, rfl, ?_⟩
  cases b with
  | false =>
    simp only [Bool.not_false, if_true]
    refine s_raise0 (xn_at E_NoText.mg) ?_
    exact ⟨μ, Sub.refl, no rfl⟩
  | true =>
  obtain ⟨s, rfl, hs, some_, none_⟩ := yes rfl
  have hz := lng_line hs
  simp only [Bool.not_true, Bool.false_eq_true, if_false]
  refine s_next ?_
  refine s_seq ?_
  refine s_asgX (x_lcS tg_name (fun _ _ _ _ _ z => z) ?_)
  refine m_split (a := s) (b := " ; ") ?_
  walk_at "go"
  refine ⟨rfl, ?_⟩
  walk_at "go"
  refine ⟨rfl, by decide +kernel, Nat.le_trans (Nat.add_le_add_right hs 2) (by decide), fun l hl => ?_⟩
  have lw : (bparts s).length ≤ lng + 2 := Nat.le_trans (bparts_few s) (Nat.add_le_add_right hs 2)
  have s1 : Sub μ (μ.set l (MO.lst (List.map D.str (Txt.split s (Str.ofString " ; "))))) := sub_new Sub.refl hl
  have h1 : (μ.set l (MO.lst (List.map D.str (Txt.split s (Str.ofString " ; "))))) l = some (.lst ((bparts s).map D.str)) := set_same
  generalize μ.set l (MO.lst (List.map D.str (Txt.split s (Str.ofString " ; ")))) = μ1 at s1 h1 ⊢
  refine ⟨l, (bparts s).map D.str, fun i acc μ' => ∃ rs : List (Addr × Q4), acc = rs.map (fun r => D.ref r.1) ∧ ((bparts s).take i).map fourIn = (rs.map (·.2)).map some ∧ Sub μ1 μ' ∧ ∀ r ∈ rs, μ' r.1 = some (.lst (fourD r.2)), rfl, ⟨[], rfl, rfl, Sub.refl, by simp⟩, fun i acc μ' ⟨_, _, _, sb, _⟩ => sb _ _ h1, ?_, ?_⟩
  · rintro i x acc μ' hx ⟨rs, rfl, e, sb, hr⟩
    rw [List.getElem?_map] at hx
    obtain ⟨p, hp, rfl⟩ := Option.map_eq_some_iff.mp hx
    have pm : p ∈ bparts s := List.mem_of_getElem? hp
    have il : i < (bparts s).length := (List.getElem?_eq_some_iff.mp hp).1
    have rl : rs.length = i := by
      have := congrArg List.length e
      rw [List.length_map, List.length_take, List.length_map, List.length_map] at this
      omega
    refine ⟨_, rfl, rfl, at_yes ?_⟩
    rw [if_pos rfl]
    refine x_call ?_
    walk_at "nf"
    walk_at "go"
    refine ⟨p, rfl, Nat.le_trans (bpart_le pm) hs, fun q hq l2 hl2 => ⟨?_, rs ++ [(l2, q)], by rw [List.map_append]; rfl, ?_, sub_new sb hl2, fun r hr2 => ?_⟩, fun hn => ⟨μ, fun a m ea => sb _ _ (s1 _ _ ea), none_ (boardRes_bad pm hn)⟩⟩
    · rw [List.length_map, rl]
      exact Nat.lt_of_lt_of_le il (Nat.le_trans lw (by decide))
    · rw [List.take_add_one, hp, List.map_append, e, List.map_append, List.map_append]
      show _ ++ [fourIn p] = _
      rw [hq]
      rfl
    · rcases List.mem_append.mp hr2 with z | z
      · have := hr r z
        rw [set_ne (ne_of_some hl2 this).symm]
        exact this
      · rw [List.mem_singleton.mp z]
        exact set_same
  rintro acc μ2 ⟨rs, rfl, e, sb, hr⟩ l2 hl2
  rw [List.length_map, List.take_length] at e
  have len : (bparts s).length = rs.length := by
    have := congrArg List.length e
    rwa [List.length_map, List.length_map, List.length_map] at this
  cases rs with
  | nil => exact absurd (List.length_eq_zero_iff.mp len) (bparts_ne s)
  | cons r0 rt =>
  obtain ⟨p0, q0⟩ := r0
  have lo := parts_low (s := s) fun p hp => by
    have m : fourIn p ∈ (((p0, q0) :: rt).map (·.2)).map some := by rw [← e]; exact List.mem_map.mpr ⟨p, hp, rfl⟩
    obtain ⟨q, _, e2⟩ := List.mem_map.mp m
    exact ⟨q, e2.symm⟩
  rw [len, List.length_cons] at lo
  rw [List.map_cons] at e
  have eR := boardRes_eq e
  have s3 : Sub μ (μ2.set l2 (.lst (List.map (fun r => D.ref r.1) ((p0, q0) :: rt)))) := sub_new (fun a m ea => sb _ _ (s1 _ _ ea)) hl2
  have hr3 : ∀ r ∈ (p0, q0) :: rt, (μ2.set l2 (.lst (List.map (fun r => D.ref r.1) ((p0, q0) :: rt)))) r.1 = some (.lst (fourD r.2)) := fun r m => by
    have := hr r m
    rw [set_ne (ne_of_some hl2 this).symm]
    exact this
  have h3 : (μ2.set l2 (.lst (List.map (fun r => D.ref r.1) ((p0, q0) :: rt)))) l2 = some (.lst (List.map (fun r => D.ref r.1) ((p0, q0) :: rt))) := set_same
  generalize (μ2.set l2 (.lst (List.map (fun r => D.ref r.1) ((p0, q0) :: rt)))) = μ3 at s3 hr3 h3 ⊢
  clear hr sb hl2 e h1 s1 hl
  rw [List.length_cons] at len
  refine g_star (pre := [.ref p0]) (mid := rt.map fun r => D.ref r.1) (post := []) (by rw [h3, List.append_nil]; rfl) rfl rfl (by simp only [List.length_append, List.length_map, List.length_cons, List.length_nil]; exact Nat.le_trans (show 0 + 1 + rt.length + 0 ≤ lng + 2 by omega) (by decide)) fun l3 hl3 => ?_
  have s4 : Sub μ3 (μ3.set l3 (.lst (rt.map fun r => D.ref r.1))) := sub_new Sub.refl hl3
  have h4 : (μ3.set l3 (.lst (rt.map fun r => D.ref r.1))) l3 = some (.lst (rt.map fun r => D.ref r.1)) := set_same
  have hr4 : ∀ r ∈ (p0, q0) :: rt, (μ3.set l3 (.lst (rt.map fun r => D.ref r.1))) r.1 = some (.lst (fourD r.2)) := fun r m => s4 _ _ (hr3 r m)
  have s5 : Sub μ (μ3.set l3 (.lst (rt.map fun r => D.ref r.1))) := fun a m ea => s4 _ _ (s3 _ _ ea)
  show AGs K _ [.ref p0, .ref l3] _ (μ3.set l3 (.lst (rt.map fun r => D.ref r.1))) _
  generalize (μ3.set l3 (.lst (rt.map fun r => D.ref r.1))) = μ4 at s5 h4 hr4 ⊢
  clear s4 s3 hr3 h3 hl3
  walk_at "go"
  refine g_lst (ds := fourD q0) (seq_ref (hr4 _ List.mem_cons_self)) (fun es z => by cases z) rfl ?_
  walk_at "go"
  refine s_tryRetX (xn mg) (fun x => x == "NoBoard") (fun x cls hx => ?_) fun W => ?_
  · rcases xn_or hx with ⟨rfl, e⟩ | ⟨rfl, e⟩ | ⟨rfl, e⟩ <;> first | (cases E_NoText.mg.symm.trans e; exact H_NoText_NoBoard) | (cases E_NoBoard.mg.symm.trans e; exact H_NoBoard_NoBoard) | (cases E_NoPin.mg.symm.trans e; exact H_NoPin_NoBoard)
  refine s_retX (x_mkK [] (fun _ => .nil) ?_)
  walk_at "go"
  refine a_lcS tg_name ?_
  walk_at "go"
  refine ⟨l3, rt.map fun r => D.ref r.1, fun i acc μ' => acc = ((rt.take i).map (·.2)).map encR ∧ μ' = μ4, rfl, ⟨rfl, rfl⟩, fun i acc μ' ⟨_, e⟩ => by rw [e]; exact h4, ?_, ?_⟩
  · rintro i x acc μ' hx ⟨rfl, rfl⟩
    rw [List.getElem?_map] at hx
    obtain ⟨r, hr, rfl⟩ := Option.map_eq_some_iff.mp hx
    have il : i < rt.length := (List.getElem?_eq_some_iff.mp hr).1
    refine ⟨_, rfl, rfl, at_yes ?_⟩
    rw [if_pos rfl]
    walk_at "nf"
    walk_at "go"
    refine rc_tuple (ds := fourD r.2) (seq_ref (hr4 r (List.mem_cons_of_mem _ (List.mem_of_getElem? hr)))) ?_
    refine ⟨?_, ?_, rfl⟩
    · rw [List.length_map, List.length_map, List.length_take]
      exact Nat.lt_of_lt_of_le (show min i rt.length < lng + 2 by omega) (by decide)
    · rw [List.take_add_one, hr, List.map_append, List.map_append]
      rfl
  rintro acc μ' ⟨rfl, rfl⟩ l5 hl5
  rw [List.length_map, List.take_length]
  have s6 : Sub μ (μ'.set l5 (.lst ((rt.map (·.2)).map encR))) := sub_new s5 hl5
  walk_at "go"
  refine rc_tuple (ds := (rt.map (·.2)).map encR) (seq_ref set_same) ?_
  generalize (μ'.set l5 (.lst ((rt.map (·.2)).map encR))) = μ5 at s6 ⊢
  clear hl5 h4 hr4 s5
  walk_at "go"
  refine ⟨rfl, rfl, fun b dx hb => ?_⟩
  have few : rt.length + 1 ≤ lng + 2 := len ▸ lw
  have qk : ∀ r : Q4, Kx (μ5.set b (.ins C_Board dx [])) (encR r) := fun r => encR_kx r
  have rows17 : madeOk q0 (rt.map (·.2)) = ab (.int q0.1) (.int q0.2.1) (.tup ((rt.map (·.2)).map encR)) (.int q0.2.2.1) (.int q0.2.2.2) := rfl
  refine ⟨b, dx, .int q0.1, .int q0.2.1, .tup ((rt.map (·.2)).map encR), .int q0.2.2.1, .int q0.2.2.2, rfl, set_same, kd_int, kd_int, kd_tup, kd_int, kd_int, fun rs e => ?_, fun wn hn rows2 ln sn hab e1 e2 e3 e4 e5 μ' sp kg kt sB k1 k2 k3 BR => ?_, fun e => ?_⟩
  · cases e
    refine ⟨?_, fun r hr => ?_⟩
    · have hs' : s.length ≤ 10000 := hs
      rw [List.length_map, List.length_map]
      omega
    · obtain ⟨r, _, rfl⟩ := List.mem_map.mp hr
      exact encR_kx r
  · cases e1; cases e2; cases e4; cases e5
    simp only [D.tup.injEq] at e3
    have e6 := map_inj encR_inj e3
    subst e6
    refine ⟨rfl, ?_⟩
    refine up_of Sub.refl (some_ _ _ (eR.trans (if_pos hab)) μ' b sp kg kt (fun a m ea => ?_) ?_ ?_ ?_ ?_ BR)
    · have e1 := s6 _ _ ea
      have na : a ≠ b := fun z => by rw [z, hb] at e1; cases e1
      exact sB a m na (by rw [set_ne na]; exact e1)
    · exact sub_none s6 hb
    · exact sub_none s6 (none_back k1)
    · exact sub_none s6 (none_back k2)
    · exact sub_none s6 (none_back k3)
  refine .inl ⟨rfl, fun a cls hc => ?_⟩
  have ec : cls = .ref C_NoBoard := (Option.some.inj (E_NoBoard.mg.symm.trans (show mg "NoBoard" = some _ from by rcases xn_or hc with ⟨z, e⟩ | ⟨z, e⟩ | ⟨z, e⟩ <;> first | exact e | exact absurd z (by decide)))).symm
  subst ec
  show AS K _ [some _, some _, some _, some _, some _, some _, some (.ref a), none, none] _ _
  have nb : boardRes s = none := by
    rw [eR, if_neg]
    rw [rows17, e]
    exact Bool.false_ne_true
  exact s_raiseE0 (fun M h x => PySem.W.looks_subIn x E_NoBoard.r1) rfl (xn_at E_NoText.mg) ⟨μ, sub_new s6 hb, none_ nb⟩))) only [↓Hold.on]
theorem sz_lt {n : Int} (h0 : 0 ≤ n) (h : n < 2147483648) : Sz 4000 n := sz_mono (a := 31) (by unfold Sz; omega) (by decide)
theorem at_get {α : Type} {l : List α} {i : Int} (h0 : 0 ≤ i) (h1 : i < l.length) : ∃ x, atI l i = some x ∧ l[i.toNat]? = some x ∧ x ∈ l := by
  have hx : i.toNat < l.length := by omega
  refine ⟨l[i.toNat], ?_, List.getElem?_eq_getElem hx, List.getElem_mem hx⟩
  unfold atI ixN
  rw [if_pos h0, if_pos (by omega), Option.bind_some, List.getElem?_eq_getElem hx]
theorem take_g {μ0 μ : M} {Φ : D → M → Prop} {b : Addr} {n c m : Int} (hs : SubB b μ0 μ) (hb : μ b = some (.lst [.int c, .int m])) (hm : BgOk m) (hn : 0 < n) (hn1 : n < 2147483648) (q : ∀ d μ' c' m', 0 ≤ d → d < n → SubB b μ0 μ' → μ' b = some (.lst [.int c', .int m']) → BgOk m' → Φ (.int d) μ') : P_l_take [.ref b, .int n] μ Φ :=
  use_take hb hm hn (sz_lt (by omega) hn1) fun d c' m' d0 d1 _ hm' => q d _ c' m' d0 d1 (sb_self hs) set_same hm'
theorem pick2 {d : Int} (h0 : 0 ≤ d) (h1 : d < 2) : ∃ z : Int, atI [D.int 20, D.int 99] d = some (.int z) ∧ 0 < z ∧ z < 100 := by
  have h : d = 0 ∨ d = 1 := by omega
  rcases h with h | h <;> subst h <;> exact ⟨_, rfl, by decide, by decide⟩
theorem cut_one {s : Str} {f : Int} (h : 0 ≤ f) : (cutS s (some f) (some (f + 1))).length ≤ 1 := by
  rw [TL.len_tl, tl_cut, List.length_take]
  have e : ∀ (n d : Nat) (i : Int), 0 ≤ i → HT.sIx n d (some i) = min i.toNat n := fun n d i hi => by
    show (if i < 0 then _ else _) = _
    rw [if_neg (by omega)]
  rw [e _ _ _ h, e _ _ _ (by omega)]
  omega
theorem sIx_pos (n d : Nat) {i : Int} (h : 0 ≤ i) : HT.sIx n d (some i) = min i.toNat n := by
  show (if i < 0 then _ else _) = _
  rw [if_neg (by omega)]
theorem cut_lo {s : Str} {k : Int} (h : 0 ≤ k) : (cutS s none (some k)).length ≤ k.toNat := by
  rw [TL.len_tl, tl_cut, List.length_take, sIx_pos _ _ h]
  show min (min k.toNat s.length - 0) _ ≤ _
  omega
theorem cut_hi {s : Str} {k : Int} (h : 0 ≤ k) : (cutS s (some k) none).length ≤ s.length - k.toNat := by
  rw [TL.len_tl, tl_cut, List.length_take, List.length_drop, sIx_pos _ _ h, ← TL.len_tl]
  omega
theorem len_app (a b : Str) : (a ++ b).length = a.length + b.length := by
  rw [TL.len_tl, TL.tl_append, List.length_append, ← TL.len_tl, ← TL.len_tl]
theorem len_part {y : Str} {n : Int} (h : y.length ≤ 1) : (if n = 1 then y else Str.empty).length ≤ 1 := by
  split
  · exact h
  · exact Nat.zero_le _
theorem join_len (a : Str) : ∀ ys : List Str, (Txt.join a ys).length ≤ (ys.map (·.length)).sum + ys.length * a.length
  | [] => by rw [TL.join_eq, TL.len_tl, TL.tl_join]; exact Nat.zero_le _
  | [y] => by rw [TL.join_eq, TL.len_tl, TL.tl_join]; show (TL.tl y).length ≤ _; rw [← TL.len_tl, List.map_cons, List.sum_cons]; omega
  | y :: z :: r => by
    have i := join_len a (z :: r)
    rw [TL.join_eq, TL.len_tl, TL.tl_join] at i ⊢
    show (TL.tl y ++ (TL.tl a ++ TL.joinL (TL.tl a) ((z :: r).map TL.tl))).length ≤ _
    rw [List.length_append, List.length_append, ← TL.len_tl, ← TL.len_tl, List.map_cons (f := fun x : Str => x.length), List.sum_cons, List.length_cons, Nat.succ_mul]
    generalize ((z :: r).map (·.length)).sum = n1 at i ⊢
    generalize (z :: r).length * a.length = n2 at i ⊢
    have i' : (TL.joinL (TL.tl a) (TL.tl z :: List.map TL.tl r)).length ≤ n1 + n2 := i
    have j : y.length + (a.length + (TL.joinL (TL.tl a) (TL.tl z :: List.map TL.tl r)).length) ≤ y.length + n1 + (n2 + a.length) := by omega
    exact j
theorem sum_set (f : Str → Nat) (y : Str) : ∀ (l : List Str) (i : Nat), ((l.set i y).map f).sum ≤ (l.map f).sum + f y
  | [], i => by simp
  | a :: l, 0 => by simp; omega
  | a :: l, i + 1 => by
    have := sum_set f y l i
    rw [List.set_cons_succ, List.map_cons, List.map_cons, List.sum_cons, List.sum_cons]
    omega
theorem mem_sum (f : Str → Nat) {y : Str} : ∀ {l : List Str}, y ∈ l → f y ≤ (l.map f).sum
  | a :: l, h => by
    rw [List.map_cons, List.sum_cons]
    rcases List.mem_cons.mp h with rfl | h
    · omega
    · have := mem_sum f h
      omega
theorem sum_split (f : Str → Nat) (l : List Str) (k : Nat) : (l.map f).sum = ((l.take k).map f).sum + ((l.drop k).map f).sum := by
  rw [← List.sum_append_nat, ← List.map_append, List.take_append_drop]
theorem sum_drop (f : Str → Nat) (l : List Str) (k : Nat) : ((l.drop k).map f).sum ≤ (l.map f).sum := by
  have := sum_split f l k
  omega
theorem at_map {α : Type} {f : α → D} {l : List α} {i : Int} {x : α} (h : atI l i = some x) : atI (l.map f) i = some (f x) := by
  unfold atI at h ⊢
  rw [List.length_map]
  cases e : ixN l.length i with
  | none => rw [e] at h; cases h
  | some j =>
    rw [e, Option.bind_some] at h
    rw [Option.bind_some, List.getElem?_map, h]
    rfl
theorem ix_nat {n : Nat} {i : Int} (h0 : 0 ≤ i) (h1 : i < n) : ixN n i = some i.toNat := by
  unfold ixN
  rw [if_pos h0, if_pos h1]
theorem set_id {μ : M} {l : Addr} {X : MO} (h : μ l = some X) : μ.set l X = μ := by
  funext a
  by_cases e : a = l
  · rw [e, h]; exact set_same
  · exact set_ne e
def P_l_sign : PT3 := fun ds μ Φ => ∃ (b : Addr) (n c m : Int), ds = [.ref b, .int n] ∧ μ b = some (.lst [.int c, .int m]) ∧ BgOk m ∧ 0 < n ∧ Sz 4000 n ∧ ∀ ch c' m', BgOk m' → Φ (sg ch) (μ.set b (.lst [.int c', .int m']))
theorem len_l_sign (ds : List D) (μ : M) (Φ : D → M → Prop) (h : P_l_sign ds μ Φ) : ds.length = 2 := by
  obtain ⟨_, _, _, _, rfl, _⟩ := h
  rfl
def P_l_bent : PT3 := fun ds μ Φ => ∃ (b : Addr) (s : Str) (c m : Int), ds = [.ref b, .str s] ∧ μ b = some (.lst [.int c, .int m]) ∧ BgOk m ∧ s.length ≤ 8000 ∧ ∀ (z : Str) c' m', z.length ≤ s.length + 2 → BgOk m' → Φ (.str z) (μ.set b (.lst [.int c', .int m']))
theorem len_l_bent (ds : List D) (μ : M) (Φ : D → M → Prop) (h : P_l_bent ds μ Φ) : ds.length = 2 := by
  obtain ⟨_, _, _, _, rfl, _⟩ := h
  rfl
def P_l_word_bent : PT3 := fun ds μ Φ => ∃ (b : Addr) (s : Str) (c m : Int), ds = [.ref b, .str s] ∧ μ b = some (.lst [.int c, .int m]) ∧ BgOk m ∧ s.length ≤ 2000 ∧ ∀ (z : Str) c' m', z.length ≤ lng → BgOk m' → Φ (.str z) (μ.set b (.lst [.int c', .int m']))
theorem len_l_word_bent (ds : List D) (μ : M) (Φ : D → M → Prop) (h : P_l_word_bent ds μ Φ) : ds.length = 2 := by
  obtain ⟨_, _, _, _, rfl, _⟩ := h
  rfl
def P_l_number : PT3 := fun ds μ Φ => ∃ (w : Str) (k : Nat), ds = [.str w, .int k] ∧ k ≤ 640 ∧ w.length ≤ lng ∧ Φ (oD (numIn k w)) μ
theorem len_l_number (ds : List D) (μ : M) (Φ : D → M → Prop) (h : P_l_number ds μ Φ) : ds.length = 2 := by
  obtain ⟨_, _, rfl, _⟩ := h
  rfl
def P_l_alone (C : Addr) : PTE := fun cls d a μ Φ => cls = .ref C ∧ d = none ∧ Φ (.bl true) μ
theorem ok_l_sign {f : Addr} {fd : FuncData} (F : Fun K "_law_sign" "_law_sign" s_l_sign f fd) (B : Bs mg) (G_l_take : Def P w K mg base "_law_take" ["_law_bag_here", "_law_many"] 1 (spI K P_l_take)) : FnOk P w K mg base CX0 3 f fd ["_law_bag_here", "_law_most"] (spI K P_l_sign) := by
  refine F.ok sc_l_sign (fun vs H Q E h => spI_len h len_l_sign) (fun cdv A outer s H vs Q E hr h => ?_)
  have hu65 := hu65_of hr
  refine ⟨_, (pss_cons (ps_set (i := 2) sc_l_sign.nd rfl (by first | exact Or.inl rfl | exact Or.inr rfl) (pe_op op_add_str pe_str pe_str))
      (pss_cons (ps_set (i := 2) sc_l_sign.nd rfl (by first | exact Or.inl rfl | exact Or.inr rfl) (pe_op op_add_str (pv 2) pe_str))
      (pss_one (ps_ret (pe_ix (ix_seqK (K := K) rfl) (pv 2) (pe_def G_l_take (hr.mono (by decide)) (by rfl) (pa_cons (pv 0) (pa_cons (pe_callB (call_min2 rfl) (by rfl) B.b_min (by decide +kernel) (pa_cons (pv 1) (pa_cons (pe_callB (call_lenK (K := K) rfl) (by rfl) B.b_len (by decide +kernel) (pa_cons (pv 2) pa_nil)) pa_nil))) pa_nil))) (fun _ _ => rfl)))))), body_okU h (fun ds μ Φ p => ?_)⟩
  (try dsimp only [cxOf, Cx.nox, Cx.wish, List.map_cons, List.map_nil])
  obtain ⟨b, n, c, m, rfl, hb, hm, hn, hz, q⟩ := p
  show AS K _ [some _, some _, none] _ _
  walk_at "go"
  have hl : (Str.ofString "0123456789:. ;LR-/, " ++ Str.ofString "!\"#$&'()*+<=>?@ABCDEFGHIJKMNOPQSTUVWXYZ[]^_`" ++ Str.ofString "abcdefghijklmnopqrstuvwxyz{|}~\\").length = 95 := by decide +kernel
  generalize (Str.ofString "0123456789:. ;LR-/, " ++ Str.ofString "!\"#$&'()*+<=>?@ABCDEFGHIJKMNOPQSTUVWXYZ[]^_`" ++ Str.ofString "abcdefghijklmnopqrstuvwxyz{|}~\\") = w at hl ⊢
  rw [hl]
  have r95 : ∀ k : Int, 0 < k → k ≤ 95 → P_l_take [.ref b, .int k] μ fun e μ2 => RO K (rIx K) (.str w) e μ2 (Up Φ) := fun k k0 k1 => by
    refine use_take hb hm k0 (sz_lt (by omega) (by omega)) fun d c' m' d0 d1 _ hm' => ?_
    obtain ⟨x, hx, -, -⟩ := at_get (l := w.cps.toList) d0 (by rw [Array.length_toList]; exact Int.lt_of_lt_of_le (show d < ((95 : Nat) : Int) by omega) (Int.ofNat_le.mpr (Nat.le_of_eq hl.symm)))
    exact ro_ixS (by rw [hl]; decide) hx (up (q _ _ _ hm'))
  split
  · exact r95 _ (by decide) (by decide)
  · exact r95 _ hn (by omega)
theorem ok_l_bent {f : Addr} {fd : FuncData} (F : Fun K "_law_bent" "_law_bent" s_l_bent f fd) (B : Bs mg) (G_l_sign : Def P w K mg base "_law_sign" ["_law_bag_here", "_law_most"] 3 (spI K P_l_sign)) (G_l_take : Def P w K mg base "_law_take" ["_law_bag_here", "_law_many"] 1 (spI K P_l_take)) : FnOk P w K mg base CX0 4 f fd ["_law_bag_here", "_law_text_here"] (spI K P_l_bent) := by
  refine Hold.out ?_
  simp (disch := (
  refine Hold.as ?_
  with_unfolding_all (
  refine F.ok sc_l_bent (fun vs H Q E h => spI_len h len_l_bent) (fun cdv A outer s H vs Q E hr h => ?_)
  have hu65 := hu65_of hr
  refine ⟨_, (pss_cons (ps_for PassesOwn.never rfl (pi_range1 (by rfl) B.b_range (pa_cons (pe_def G_l_take (hr.mono (by decide)) (by rfl) (pa_cons (pv 0) (pa_cons pe_int pa_nil))) pa_nil)) (pg_name (i := 2) sc_l_bent.nd rfl (by first | exact Or.inl rfl | exact Or.inr rfl))
      (pss_cons (ps_par (i := 3) (j := 4) rfl sc_l_bent.nd rfl rfl (by decide) rfl rfl (pa_cons (pe_def G_l_take (hr.mono (by decide)) (by rfl) (pa_cons (pv 0) (pa_cons pe_int pa_nil))) (pa_cons (pe_def G_l_take (hr.mono (by decide)) (by rfl) (pa_cons (pv 0) (pa_cons (pe_op op_add (pe_callB (call_lenK (K := K) rfl) (by rfl) B.b_len (by decide +kernel) (pa_cons (pv 1) pa_nil)) pe_int) pa_nil))) pa_nil)) (by rfl))
      (pss_cons (ps_set (i := 5) sc_l_bent.nd rfl (by first | exact Or.inl rfl | exact Or.inr rfl) (pe_def G_l_sign (hr.mono (by decide)) (by rfl) (pa_cons (pv 0) (pa_cons (pe_ix (ix_seqK (K := K) rfl) (pe_lst (pa_cons pe_int (pa_cons pe_int pa_nil))) (pe_def G_l_take (hr.mono (by decide)) (by rfl) (pa_cons (pv 0) (pa_cons pe_int pa_nil))) (fun _ _ => rfl)) pa_nil))))
      (pss_cons (ps_if (pt_cmpR op_eq (pv 3) pe_int (by first | exact nomark _ | rfl)) (pss_cons (ps_set (i := 6) sc_l_bent.nd rfl (by first | exact Or.inl rfl | exact Or.inr rfl) (pe_def G_l_take (hr.mono (by decide)) (by rfl) (pa_cons (pv 0) (pa_cons (pe_op op_add (pe_callB (call_lenK (K := K) rfl) (by rfl) B.b_len (by decide +kernel) (pa_cons (pv 1) pa_nil)) pe_int) pa_nil))))
      (pss_one (ps_set (i := 5) sc_l_bent.nd rfl (by first | exact Or.inl rfl | exact Or.inr rfl) (pe_slice sl_str (pv 1) (po_some (pv 6)) (po_some (pe_op op_add (pv 6) pe_int)))))) pss_nil)
      (pss_cons (ps_set (i := 7) sc_l_bent.nd rfl (by first | exact Or.inl rfl | exact Or.inr rfl) (pe_slice sl_str (pv 1) (po_some (pe_op op_add (pv 4) (pe_callTy call_int1 (by rfl) B.b_int (by decide +kernel) (pa_cons (pe_cmpR op_ne (pv 3) pe_int (by first | exact nomark _ | rfl)) pa_nil)))) po_none))
      (pss_one (ps_set (i := 1) sc_l_bent.nd rfl (by first | exact Or.inl rfl | exact Or.inr rfl) (pe_op op_add_str (pe_op op_add_str (pe_slice sl_str (pv 1) po_none (po_some (pv 4))) (pe_op op_mul_sb (pv 5) (pe_callTy call_int1 (by rfl) B.b_int (by decide +kernel) (pa_cons (pe_cmpR op_ne (pv 3) pe_int (by first | exact nomark _ | rfl)) pa_nil)))) (pv 7)))))))))
      (pss_one (ps_ret (pv 1)))), body_okU h (fun ds μ Φ p => ?_)⟩
  (try dsimp only [cxOf, Cx.nox, Cx.wish, List.map_cons, List.map_nil])
  obtain ⟨b, s, c, m, rfl, hb, hm, hs, q⟩ := p
  show AS K _ [some _, some _, none, none, none, none, none, none] _ _
  walk_at "go"
  refine s_for (ai_1 ?_)
  walk_at "go"
  refine take_g (μ0 := μ) (fun _ _ _ h => h) hb hm (by decide) (by decide) fun t μ1 c1 m1 t0 t1 sb1 hb1 hm1 => ?_
  walk_at "go"
  refine ⟨by omega, by omega, fun (j : Nat) τ' μ' => ∃ (z : Str) (c m : Int) (o2 o3 o4 o5 o6 o7 : Option D), z.length ≤ s.length + j ∧ BgOk m ∧ SubB b μ μ' ∧ μ' b = some (.lst [.int c, .int m]) ∧ τ' = [some (.ref b), some (.str z), o2, o3, o4, o5, o6, o7], ⟨s, c1, m1, none, none, none, none, none, none, Nat.le_refl _, hm1, sb1, hb1, rfl⟩, ?_, ?_⟩
  rotate_left
  · rintro τ' μ' ⟨z, c, m, o2, o3, o4, o5, o6, o7, hz, hm, sb, hb, rfl⟩
    walk_at "go"
    refine up_of (sb_end sb hb) (q z c m ?_ hm)
    rw [List.length_map, List.length_range] at hz
    omega
  rintro j x τ' μ' hj ⟨z, c, m, o2, o3, o4, o5, o6, o7, hz, hm, sb, hb, rfl⟩
  have jl : j < 2 := by
    have := (List.getElem?_eq_some_iff.mp hj).1
    rw [List.length_map, List.length_range] at this
    omega
  have zs : z.length ≤ lng := Nat.le_trans (show z.length ≤ 8002 by omega) (by decide)
  have z1 : (z.length : Int) + 1 < 2147483648 := by omega
  walk_at "go"
  refine take_g sb hb hm (by decide) (by decide) fun w μ2 c2 m2 w0 w1 sb2 hb2 hm2 => ?_
  walk_at "go"
  refine take_g sb2 hb2 hm2 (by omega) z1 fun sp μ3 c3 m3 p0 p1 sb3 hb3 hm3 => ?_
  walk_at "go"
  intro l hl
  have nl : l ≠ b := by rintro rfl; rw [hb3] at hl; cases hl
  have sb4 := sb_new (Y := .lst [D.int 20, D.int 99]) sb3 hl
  have hb4 : (μ3.set l (.lst [D.int 20, D.int 99])) b = some (.lst [.int c3, .int m3]) := by rw [set_ne (Ne.symm nl)]; exact hb3
  refine a_call ?_
  walk_at "go"
  refine take_g (μ0 := μ3.set l (.lst [D.int 20, D.int 99])) (fun _ _ _ h => h) hb4 hm3 (by decide) (by decide) fun d2 μ5 c5 m5 d20 d21 sb5 hb5 hm5 => ?_
  obtain ⟨n2, hn2, n20, n21⟩ := pick2 d20 d21
  refine ro_ix (seq_ref (sb5 l _ nl set_same)) hn2 ?_
  walk_at "go"
  have sb6 := sb_trans sb4 sb5
  refine ⟨b, n2, c5, m5, rfl, hb5, hm5, n20, sz_lt (by omega) (by omega), fun ch c6 m6 hm6 => ?_⟩
  have sb7 := sb_self (Y := .lst [.int c6, .int m6]) sb6
  have hb7 : (μ5.set b (.lst [.int c6, .int m6])) b = some (.lst [.int c6, .int m6]) := set_same
  show AG K _ _ _ (μ5.set b (.lst [.int c6, .int m6])) _
  generalize μ5.set b (.lst [.int c6, .int m6]) = μ7 at sb7 hb7 ⊢
  clear hb5 sb5 sb6 hb4 sb4 hl nl hn2
  walk_at "go"
  refine if_cut (fun τ' μ' => ∃ (y : Str) (c m : Int) (o6 : Option D), y.length ≤ 1 ∧ BgOk m ∧ SubB b μ μ' ∧ μ' b = some (.lst [.int c, .int m]) ∧ τ' = [some (.ref b), some (.str z), some x, some (.int w), some (.int sp), some (.str y), o6, o7]) (fun _ => ?_) (fun _ => ?_) ?_
  · walk_at "go"
    refine take_g sb7 hb7 hm6 (by omega) z1 fun fr μ8 c8 m8 f0 f1 sb8 hb8 hm8 => ?_
    walk_at "go"
    exact ⟨_, _, _, _, cut_one f0, hm8, sb8, hb8, rfl⟩
  · walk_at "go"
    exact ⟨⟨#[ch]⟩, _, _, _, Nat.le_refl 1, hm6, sb7, hb7, rfl⟩
  rintro τ' μ8 ⟨y, c8, m8, o6', ly, hm8, sb8, hb8, rfl⟩
  walk_at "go"
  refine ro_mul_sb (by split <;> simp) ?_
  generalize hn : (if (!decide (w = 1)) = true then (1 : Int) else 0) = n1
  generalize hk : (if (!decide (w = 0)) = true then (1 : Int) else 0) = k1
  have k10 : 0 ≤ k1 := by rw [← hk]; split <;> decide
  have b1 := len_part (n := n1) ly
  have b2 := cut_lo (s := z) (k := sp) p0
  have b3 := cut_hi (s := z) (k := sp + k1) (by omega)
  generalize (if n1 = 1 then y else Str.empty) = y1 at b1
  generalize cutS z none (some sp) = y2 at b2
  generalize cutS z (some (sp + k1)) none = y3 at b3
  have zz : z.length ≤ 8002 := by omega
  refine ro_addS (Nat.le_trans (show y2.length + y1.length ≤ 8010 by omega) (by decide)) ?_
  walk_at "go"
  refine ro_addS (by rw [len_app]; exact Nat.le_trans (show y2.length + y1.length + y3.length ≤ 8010 by omega) (by decide)) ?_
  walk_at "go"
  refine ⟨_, c8, m8, _, _, _, _, _, _, ?_, hm8, sb8, hb8, rfl⟩
  rw [len_app, len_app]
  omega))) only [↓Hold.on]
theorem ok_l_word_bent {f : Addr} {fd : FuncData} (F : Fun K "_law_word_bent" "_law_word_bent" s_l_word_bent f fd) (B : Bs mg) (G_l_take : Def P w K mg base "_law_take" ["_law_bag_here", "_law_many"] 1 (spI K P_l_take)) : FnOk P w K mg base CX0 3 f fd ["_law_bag_here", "_law_text_here"] (spI K P_l_word_bent) := by
  refine Hold.out ?_
  simp (disch := (
  refine Hold.as ?_
  with_unfolding_all (
  refine F.ok sc_l_word_bent (fun vs H Q E h => spI_len h len_l_word_bent) (fun cdv A outer s H vs Q E hr h => ?_)
  have hu65 := hu65_of hr
  refine ⟨_, (pss_cons (ps_set (i := 2) sc_l_word_bent.nd rfl (by first | exact Or.inl rfl | exact Or.inr rfl) (pe_split (pv 1) pe_str))
      (pss_cons (ps_par (i := 3) (j := 4) rfl sc_l_word_bent.nd rfl rfl (by decide) rfl rfl (pa_cons (pe_def G_l_take (hr.mono (by decide)) (by rfl) (pa_cons (pv 0) (pa_cons (pe_callB (call_lenK (K := K) rfl) (by rfl) B.b_len (by decide +kernel) (pa_cons (pv 2) pa_nil)) pa_nil))) (pa_cons (pe_def G_l_take (hr.mono (by decide)) (by rfl) (pa_cons (pv 0) (pa_cons (pe_callB (call_lenK (K := K) rfl) (by rfl) B.b_len (by decide +kernel) (pa_cons (pv 2) pa_nil)) pa_nil))) pa_nil)) (by rfl))
      (pss_cons (ps_set (i := 5) sc_l_word_bent.nd rfl (by first | exact Or.inl rfl | exact Or.inr rfl) (pe_def G_l_take (hr.mono (by decide)) (by rfl) (pa_cons (pv 0) (pa_cons pe_int pa_nil))))
      (pss_cons (ps_if (pt_cmpR op_eq (pv 5) pe_int (by first | exact nomark _ | rfl)) (pss_one (ps_expr (pe_bm PySem.F.plainAttrs_list PySem.F.slot_list_pop PySem.F.type_list_pop mt_popAt (pv 2) (pa_cons (pv 3) pa_nil)))) (pss_one (ps_if (pt_cmpR op_eq (pv 5) pe_int (by first | exact nomark _ | rfl)) (pss_one (ps_expr (pe_bm PySem.F.plainAttrs_list PySem.F.slot_list_insert PySem.F.type_list_insert mt_insert (pv 2) (pa_cons (pv 3) (pa_cons (pe_ix (ix_seqK (K := K) rfl) (pv 2) (pv 4) (fun _ _ => rfl)) pa_nil))))) (pss_cons (ps_set (i := 6) sc_l_word_bent.nd rfl (by first | exact Or.inl rfl | exact Or.inr rfl) (pe_ix (ix_seqK (K := K) rfl) (pv 2) (pv 3) (fun _ _ => rfl)))
      (pss_cons (ps_asg (pe_ix (ix_seqK (K := K) rfl) (pv 2) (pv 4) (fun _ _ => rfl)) (pg_sub (pv 2) (pv 3) set_list))
      (pss_one (ps_asg (pv 6) (pg_sub (pv 2) (pv 4) set_list))))))))
      (pss_one (ps_ret (pe_joinK (K := K) rfl pe_str (pv 2)))))))), body_okU h (fun ds μ Φ p => ?_)⟩
  (try dsimp only [cxOf, Cx.nox, Cx.wish, List.map_cons, List.map_nil])
  obtain ⟨b, s, c, m, rfl, hb, hm, hs, q⟩ := p
  show AS K _ [some _, some _, none, none, none, none, none] _ _
  walk_at "go"
  refine m_split (a := s) (b := " ") ?_
  walk_at "go"
  refine ⟨rfl, ?_⟩
  walk_at "go"
  refine ⟨rfl, by decide +kernel, Nat.le_trans (Nat.add_le_add_right hs 2) (by decide), fun p hp => ?_⟩
  have total := words_sum s
  have many := words_few s
  have one := List.length_pos_iff.mpr (words_ne s)
  show AG K _ _ _ (μ.set p (.lst ((words s).map D.str))) _
  generalize words s = ws at total many one ⊢
  have np : p ≠ b := by rintro rfl; rw [hb] at hp; cases hp
  have sb0 := sb_new (Y := .lst (ws.map D.str)) (fun _ _ _ h => h : SubB b μ μ) hp
  have gp : (μ.set p (.lst (ws.map D.str))) p = some (.lst (ws.map D.str)) := set_same
  have gb : (μ.set p (.lst (ws.map D.str))) b = some (.lst [.int c, .int m]) := by rw [set_ne (Ne.symm np)]; exact hb
  generalize μ.set p (.lst (ws.map D.str)) = μ0 at sb0 gp gb ⊢
  have lw : (ws.length : Int) < 2147483648 := by omega
  walk_at "go"
  refine take_g (μ0 := μ0) (fun _ _ _ h => h) gb hm (by rw [List.length_map]; omega) (by rw [List.length_map]; exact lw) fun at_ μ1 c1 m1 a0 a1 sb1 gb1 hm1 => ?_
  rw [List.length_map] at a1
  have gp1 := sb1 _ _ np gp
  walk_at "go"
  refine take_g (μ0 := μ1) (fun _ _ _ h => h) gb1 hm1 (by rw [List.length_map]; omega) (by rw [List.length_map]; exact lw) fun far μ2 c2 m2 f0 f1 sb2 gb2 hm2 => ?_
  rw [List.length_map] at f1
  have gp2 := sb2 _ _ np gp1
  walk_at "go"
  refine take_g (μ0 := μ2) (fun _ _ _ h => h) gb2 hm2 (by decide) (by decide) fun way μ3 c3 m3 w0 w1 sb3 gb3 hm3 => ?_
  have gp3 := sb3 _ _ np gp2
  have sbx := sb_trans (sb_trans (sb_trans sb0 sb1) sb2) sb3
  have sbx' : ∀ X, SubB b μ (μ3.set p X) := fun X a m' ha e => by
    rw [set_ne (by rintro rfl; rw [hp] at e; cases e)]
    exact sbx a m' ha e
  have gbx : ∀ X, (μ3.set p X) b = some (.lst [.int c3, .int m3]) := fun X => by rw [set_ne (Ne.symm np)]; exact gb3
  obtain ⟨xa, hxa, -, ma⟩ := at_get (l := ws) a0 a1
  obtain ⟨xf, hxf, -, mf⟩ := at_get (l := ws) f0 f1
  have la := mem_sum (·.length) ma
  have lf := mem_sum (·.length) mf
  clear sb0 sb1 sb2 sb3 gp gp1 gp2 gb gb1 gb2 hm1 hm2 sbx
  walk_at "go"
  refine if_cut (fun τ' μ' => ∃ (ys : List Str) (o6 : Option D), (ys.map (·.length)).sum ≤ 6000 ∧ ys.length ≤ 2010 ∧ μ' = μ3.set p (.lst (ys.map D.str)) ∧ τ' = [some (.ref b), some (.str s), some (.ref p), some (.int at_), some (.int far), some (.int way), o6]) (fun _ => ?_) (fun _ => ?_) ?_
  · walk_at "go"
    refine m_popI (a := p) (ds := ws.map D.str) (i := at_) (d := .str xa) a0 (by rw [List.length_map]; omega) ?_ ?_
    · exact at_map hxa
    walk_at "go"
    refine ⟨rfl, ⟨_, gp3⟩, ?_⟩
    walk_at "go"
    refine ⟨rfl, gp3, ws.take at_.toNat ++ ws.drop (at_.toNat + 1), none, ?_, ?_, ?_, rfl⟩
    · have := sum_split (·.length) ws at_.toNat
      have := sum_drop (·.length) (ws.drop at_.toNat) 1
      rw [List.drop_drop] at this
      rw [List.map_append, List.sum_append_nat]
      omega
    · rw [List.length_append, List.length_take, List.length_drop]
      omega
    · rw [List.map_append, List.map_take, List.map_drop]
  · walk_at "go"
    refine ite_d (fun _ => ?_) (fun _ => ?_)
    · walk_at "go"
      refine m_insert (a := p) ?_
      walk_at "go"
      refine ⟨rfl, ⟨_, gp3⟩, ?_⟩
      walk_at "go"
      refine ⟨at_.toNat, by rw [Int.toNat_of_nonneg a0], ⟨_, gp3⟩, ?_⟩
      walk_at "go"
      refine ro_ix (seq_ref gp3) (at_map hxf) ?_
      refine ⟨_, gp3, by rw [List.length_map]; omega, by rw [List.length_map]; exact Nat.lt_of_le_of_lt (show ws.length ≤ 2002 by omega) (by decide), ws.take at_.toNat ++ [xf] ++ ws.drop at_.toNat, none, ?_, ?_, ?_, rfl⟩
      · have := sum_split (·.length) ws at_.toNat
        rw [List.map_append, List.map_append, List.sum_append_nat, List.sum_append_nat, List.map_singleton, List.sum_singleton]
        omega
      · rw [List.length_append, List.length_append, List.length_take, List.length_drop, List.length_singleton]
        omega
      · rw [List.map_append, List.map_append, List.map_take, List.map_drop, List.map_singleton]
    · walk_at "go"
      refine ro_ix (seq_ref gp3) (at_map hxa) ?_
      walk_at "go"
      refine ro_ix (seq_ref gp3) (at_map hxf) ?_
      walk_at "go"
      refine set_lst gp3 (ix_nat a0 (by rw [List.length_map]; exact a1)) ?_
      walk_at "go"
      refine set_lst set_same (ix_nat f0 (by rw [List.length_set, List.length_map]; exact f1)) ?_
      refine ⟨(ws.set at_.toNat xf).set far.toNat xa, _, ?_, ?_, ?_, rfl⟩
      · have h1 := sum_set (·.length) xa (ws.set at_.toNat xf) far.toNat
        have h2 := sum_set (·.length) xf ws at_.toNat
        omega
      · rw [List.length_set, List.length_set]
        omega
      · rw [set_set, List.map_set, List.map_set]
  rintro τ' μ' ⟨ys, o6, y0, y1, rfl, rfl⟩
  walk_at "go"
  refine m_joinV (a := " ") ?_
  walk_at "go"
  refine ⟨rfl, ?_⟩
  walk_at "go"
  refine ⟨ys, seq_ref set_same, ?_, ?_⟩
  · rw [show (" " : Str).length = 1 from rfl]
    omega
  refine up_of (sb_end (sbx' _) (gbx _)) (q _ c3 m3 (Nat.le_trans (join_len _ _) ?_) hm3)
  rw [show (" " : Str).length = 1 from rfl]
  show _ ≤ 10000
  omega))) only [↓Hold.on]
theorem ok_l_number {f : Addr} {fd : FuncData} (F : Fun K "_law_number" "_law_number" s_l_number f fd) (B : Bs mg) : FnOk P w K mg base CX0 2 f fd ["_law_word", "_law_most"] (spI K P_l_number) := by
  refine Hold.out ?_
  simp (disch := (
  refine Hold.as ?_
  with_unfolding_all (
  refine F.ok sc_l_number (fun vs H Q E h => spI_len h len_l_number) (fun cdv A outer s H vs Q E hr h => ?_)
  have hu65 := hu65_of hr
  refine ⟨_, (pss_cons (ps_if (PW.pt (pw_or (pt_cmpR op_eq (pv 0) pe_str (by first | exact nomark _ | rfl)) (pw_or (pt_cmpR op_gt (pe_callB (call_lenK (K := K) rfl) (by rfl) B.b_len (by decide +kernel) (pa_cons (pv 0) pa_nil)) (pv 1) (by first | exact nomark _ | rfl)) (pw_or1 (pt_not (pt_val (pe_callB (cr_allK (K := K) rfl rfl) (by rfl) B.b_all (by decide +kernel) (pa_cons (pe_lc (own := [("_law_sign_here", 2)]) (g := gName 2) (tt := tYes) rfl sc_l_number.nd (pi_str (pv 0)) (blkOk_by (own := [("_law_sign_here", 2)]) (N := N_l_number) (sc := defScope s_l_number) (by decide +kernel)) (fun _ _ _ _ _ => (pg_name (i := 2) sc_l_number.nd rfl (by first | exact Or.inl rfl | exact Or.inr rfl))) (fun _ _ _ _ _ => pts_nil) (fun _ _ _ _ _ => (pe_cmpR op_in_sign (pv 2) pe_str (by first | exact nomark _ | rfl)))) pa_nil)))))))) (pss_one (ps_ret pe_non)) pss_nil)
      (pss_one (ps_ret (pe_ifExp (PW.pt (pw_or (pt_cmpR op_eq (pv 0) pe_str (by first | exact nomark _ | rfl)) (pw_or1 (pt_cmpR op_ne (pe_ix (ix_seqK (K := K) rfl) (pv 0) pe_int (fun _ _ => rfl)) pe_str (by first | exact nomark _ | rfl))))) (pe_callTy call_int_str (by rfl) B.b_int (by decide +kernel) (pa_cons (pv 0) pa_nil)) pe_non)))), body_okU h (fun ds μ Φ p => ?_)⟩
  (try dsimp only [cxOf, Cx.nox, Cx.wish, List.map_cons, List.map_nil])
  obtain ⟨w, k, rfl, hk, hw, q⟩ := p
  show AS K _ [some _, some _, none] _ _
  have hz := lng_line hw
  have sl : Sz 31 (w.length : Int) := by unfold Sz; rw [Int.natAbs_natCast]; exact Nat.lt_of_le_of_lt hw (by decide)
  have none_ : numIn k w = none → Φ .non μ := fun e => by rw [e] at q; exact q
  walk_at "go"
  refine ite_d (fun h1 => ?_) (fun h1 => ?_)
  · walk_at "go"
    exact up_of Sub.refl (none_ (by unfold numIn; rw [if_pos (.inl (by rw [h1]; rfl))]))
  walk_at "go"
  refine ite_d (fun h2 => ?_) (fun h2 => ?_)
  · walk_at "go"
    exact up_of Sub.refl (none_ (by unfold numIn; rw [if_pos (.inr (.inl (by omega)))]))
  walk_at "go"
  refine a_lc1 (fun d => .bl (digB (sgN d))) (fun _ => true) (ai_str ?_)
  walk_at "go"
  refine ⟨by rw [signs_len]; exact Nat.lt_of_le_of_lt hw (by decide), fun x hx => at_yes ⟨rfl, rfl⟩, fun x hx _ => ?_, fun l hl => ?_⟩
  · obtain ⟨n, _, rfl⟩ := List.mem_map.mp hx
    walk_at "nf"
    walk_at "go"
    exact ⟨by rw [fig_in]; rfl, rfl⟩
  rw [List.filter_eq_self.mpr (fun _ _ => rfl), digs_map]
  walk_at "go"
  refine rc_all set_same ?_
  rw [show ((w.cps.toList.map digB).all id) = w.cps.toList.all digB by rw [List.all_map]; rfl]
  try refine ⟨_, rfl, ?_⟩
  by_cases h3 : w.cps.toList.all digB = true
  rotate_left
  · rw [show w.cps.toList.all digB = false by simpa using h3]
    walk_at "go"
    exact up_of (sub_new Sub.refl hl) (none_ (by unfold numIn; rw [if_pos (.inr (.inr h3))]))
  rw [h3]
  have hne : TL.tl w ≠ [] := fun e => h1 (TL.ext_tl (by rw [e]; rfl))
  have hlen : w.length ≤ k := by omega
  have hint : PySem.intText? w = some ((dV (TL.tl w) : Nat) : Int) := PySem.intText_digits (digs_iff.mp h3) hne (by omega)
  have lp : w.length ≠ 0 := by rw [TL.len_tl]; exact fun e => hne (List.length_eq_zero_iff.mp e)
  have pre : ¬ (w.length = 0 ∨ k < w.length ∨ ¬ (TL.tl w).all digB = true) := by
    rintro (h | h | h)
    · exact lp h
    · omega
    · exact h h3
  have some_ : (w = "0" ∨ (TL.tl w).head? ≠ some 48) → Φ (.int ((dV (TL.tl w) : Nat) : Int)) μ := fun e => by
    unfold numIn at q
    rw [if_neg pre, if_pos e] at q
    exact q
  obtain ⟨c0, cs, hc⟩ : ∃ c cs, TL.tl w = c :: cs := by
    cases e : TL.tl w with
    | nil => exact absurd e hne
    | cons c cs => exact ⟨c, cs, rfl⟩
  walk_at "go"
  refine ite_d (fun h4 => ?_) (fun h4 => ?_)
  · walk_at "go"
    refine rc_intS hint (by omega) ?_
    exact up_of (sub_new Sub.refl hl) (some_ (.inl h4))
  walk_at "go"
  refine ro_ixS (n := c0) hz (by unfold atI; rw [show w.cps.toList = c0 :: cs from hc]; simp [ixN]) ?_
  walk_at "go"
  have same : ({ cps := #[c0] } : Str) = "0" ↔ c0 = 48 := ⟨fun e => by
    have := congrArg TL.tl e
    exact (List.cons.inj (show [c0] = [48] from this)).1, fun e => by rw [e]; rfl⟩
  by_cases h5 : ({ cps := #[c0] } : Str) = "0"
  · rw [if_neg (by simp [h5])]
    walk_at "go"
    refine up_of (sub_new Sub.refl hl) (none_ ?_)
    unfold numIn
    rw [if_neg pre, if_neg]
    rintro (e | e)
    · exact h4 e
    · rw [hc, same.mp h5] at e
      exact e rfl
  · rw [if_pos (by simp [h5])]
    walk_at "go"
    refine rc_intS hint (by omega) ?_
    refine up_of (sub_new Sub.refl hl) (some_ (.inr ?_))
    rw [hc]
    exact fun e => h5 (same.mpr (Option.some.inj e))))) only [↓Hold.on]
theorem ok_l_alone {f : Addr} {fd : FuncData} (F : Fun K "_law_alone" "_law_alone" s_l_alone f fd) (B : Bs mg) {C_NoText : Addr} (X_NoText : ExcC K C_NoText) {C_BoardError : Addr} (V_BoardError : Cst mg "BoardError" (.ref C_BoardError)) {C_Crossed : Addr} (V_Crossed : Cst mg "Crossed" (.ref C_Crossed)) {C_NoBoard : Addr} (V_NoBoard : Cst mg "NoBoard" (.ref C_NoBoard)) {C_NoFraction : Addr} (V_NoFraction : Cst mg "NoFraction" (.ref C_NoFraction)) {C_NoGate : Addr} (V_NoGate : Cst mg "NoGate" (.ref C_NoGate)) {C_NoLayer : Addr} (V_NoLayer : Cst mg "NoLayer" (.ref C_NoLayer)) {C_NoLine : Addr} (V_NoLine : Cst mg "NoLine" (.ref C_NoLine)) {C_NoNet : Addr} (V_NoNet : Cst mg "NoNet" (.ref C_NoNet)) {C_NoNets : Addr} (V_NoNets : Cst mg "NoNets" (.ref C_NoNets)) {C_NoPin : Addr} (V_NoPin : Cst mg "NoPin" (.ref C_NoPin)) {C_NoRoom : Addr} (V_NoRoom : Cst mg "NoRoom" (.ref C_NoRoom)) {C_NoRoute : Addr} (V_NoRoute : Cst mg "NoRoute" (.ref C_NoRoute)) {C_NoRow : Addr} (V_NoRow : Cst mg "NoRow" (.ref C_NoRow)) (V_NoText : Cst mg "NoText" (.ref C_NoText)) {C_NoWay : Addr} (V_NoWay : Cst mg "NoWay" (.ref C_NoWay)) {C_NoWire : Addr} (V_NoWire : Cst mg "NoWire" (.ref C_NoWire)) {C_Taken : Addr} (V_Taken : Cst mg "Taken" (.ref C_Taken)) {C_Undone : Addr} (V_Undone : Cst mg "Undone" (.ref C_Undone)) (Q_NoText_BoardError : PySem.W.kitOne K (.ref C_NoText) (.ref C_BoardError) = some true) (Q_NoText_Crossed : PySem.W.kitOne K (.ref C_NoText) (.ref C_Crossed) = some false) (Q_NoText_NoBoard : PySem.W.kitOne K (.ref C_NoText) (.ref C_NoBoard) = some false) (Q_NoText_NoFraction : PySem.W.kitOne K (.ref C_NoText) (.ref C_NoFraction) = some false) (Q_NoText_NoGate : PySem.W.kitOne K (.ref C_NoText) (.ref C_NoGate) = some false) (Q_NoText_NoLayer : PySem.W.kitOne K (.ref C_NoText) (.ref C_NoLayer) = some false) (Q_NoText_NoLine : PySem.W.kitOne K (.ref C_NoText) (.ref C_NoLine) = some false) (Q_NoText_NoNet : PySem.W.kitOne K (.ref C_NoText) (.ref C_NoNet) = some false) (Q_NoText_NoNets : PySem.W.kitOne K (.ref C_NoText) (.ref C_NoNets) = some false) (Q_NoText_NoPin : PySem.W.kitOne K (.ref C_NoText) (.ref C_NoPin) = some false) (Q_NoText_NoRoom : PySem.W.kitOne K (.ref C_NoText) (.ref C_NoRoom) = some false) (Q_NoText_NoRoute : PySem.W.kitOne K (.ref C_NoText) (.ref C_NoRoute) = some false) (Q_NoText_NoRow : PySem.W.kitOne K (.ref C_NoText) (.ref C_NoRow) = some false) (Q_NoText_NoText : PySem.W.kitOne K (.ref C_NoText) (.ref C_NoText) = some true) (Q_NoText_NoWay : PySem.W.kitOne K (.ref C_NoText) (.ref C_NoWay) = some false) (Q_NoText_NoWire : PySem.W.kitOne K (.ref C_NoText) (.ref C_NoWire) = some false) (Q_NoText_Taken : PySem.W.kitOne K (.ref C_NoText) (.ref C_Taken) = some false) (Q_NoText_Undone : PySem.W.kitOne K (.ref C_NoText) (.ref C_Undone) = some false) (Q_NoText_ValueError : PySem.W.kitOne K (.ref C_NoText) (.type "ValueError") = some true) : FnE P w K mg base 1 f fd "_law_e" (spE K (P_l_alone C_NoText)) := by
  refine fun_okE F sc_l_alone fun cdv A outer s H Q pp cls d hr hz hf h => ?_
  refine ⟨_, (pss_cons (ps_if (pt_val (pe_callB (call_isP (K := K) rfl (List.mem_singleton.mpr rfl) hz hf) (by rfl) B.b_isinstance (by decide +kernel) (pa_cons (pv 0) (pa_cons (pe_tup (pa_cons (pe_cst V_NoFraction (by rfl)) (pa_cons (pe_cst V_NoBoard (by rfl)) (pa_cons (pe_cst V_NoWay (by rfl)) (pa_cons (pe_cst V_NoLine (by rfl)) (pa_cons (pe_cst V_NoNets (by rfl)) (pa_cons (pe_cst V_Taken (by rfl)) (pa_cons (pe_cst V_NoRow (by rfl)) (pa_cons (pe_cst V_NoPin (by rfl)) pa_nil))))))))) pa_nil)))) (pss_one (ps_ret pe_bl)) pss_nil)
      (pss_cons (ps_if (pt_val (pe_callB (call_isP (K := K) rfl (List.mem_singleton.mpr rfl) hz hf) (by rfl) B.b_isinstance (by decide +kernel) (pa_cons (pv 0) (pa_cons (pe_tup (pa_cons (pe_cst V_NoLayer (by rfl)) (pa_cons (pe_cst V_NoNet (by rfl)) (pa_cons (pe_cst V_NoGate (by rfl)) (pa_cons (pe_cst V_NoWire (by rfl)) (pa_cons (pe_cst V_NoRoom (by rfl)) (pa_cons (pe_cst V_Crossed (by rfl)) (pa_cons (pe_cst V_Undone (by rfl)) (pa_cons (pe_cst V_NoRoute (by rfl)) pa_nil))))))))) pa_nil)))) (pss_one (ps_ret pe_bl)) pss_nil)
      (pss_one (ps_ret (pe_and (pe_callB (call_isP (K := K) rfl (List.mem_singleton.mpr rfl) hz hf) (by rfl) B.b_isinstance (by decide +kernel) (pa_cons (pv 0) (pa_cons (pe_cst V_NoText (by rfl)) pa_nil))) (pe_and (pe_callB (call_isP (K := K) rfl (List.mem_singleton.mpr rfl) hz hf) (by rfl) B.b_isinstance (by decide +kernel) (pa_cons (pv 0) (pa_cons (pe_cst V_BoardError (by rfl)) pa_nil))) (pe_one (pe_callB (call_isP (K := K) rfl (List.mem_singleton.mpr rfl) hz hf) (by rfl) B.b_isinstance (by decide +kernel) (pa_cons (pv 0) (pa_cons (pe_bltn (v := .ty "ValueError") (by rfl) B.b_ValueError (by decide +kernel) rfl) pa_nil)))))))))), body_okE h (fun μ Φ p => ?_)⟩
  (try dsimp only [L2H.cxH, cxOf, Cx.nox, Cx.wish, List.map_cons, List.map_nil])
  obtain ⟨ec, rfl, q⟩ := p
  show AS K _ [some _] _ _
  have ed : Xdk μ none := .inl rfl
  walk_at "go"
  refine rc_isYt [C_NoFraction, C_NoBoard, C_NoWay, C_NoLine, C_NoNets, C_Taken, C_NoRow, C_NoPin] ec ed X_NoText (b := false) ?_ ?_
  · refine kitAny_cons Q_NoText_NoFraction (fun _ => kitAny_cons Q_NoText_NoBoard (fun _ => kitAny_cons Q_NoText_NoWay (fun _ => kitAny_cons Q_NoText_NoLine (fun _ => kitAny_cons Q_NoText_NoNets (fun _ => kitAny_cons Q_NoText_Taken (fun _ => kitAny_cons Q_NoText_NoRow (fun _ => kitAny_cons Q_NoText_NoPin (fun _ => kitAny_nil) ?_) ?_) ?_) ?_) ?_) ?_) ?_) ?_ <;> exact fun z => nomatch z
  walk_at "go"
  refine rc_isYt [C_NoLayer, C_NoNet, C_NoGate, C_NoWire, C_NoRoom, C_Crossed, C_Undone, C_NoRoute] ec ed X_NoText (b := false) ?_ ?_
  · refine kitAny_cons Q_NoText_NoLayer (fun _ => kitAny_cons Q_NoText_NoNet (fun _ => kitAny_cons Q_NoText_NoGate (fun _ => kitAny_cons Q_NoText_NoWire (fun _ => kitAny_cons Q_NoText_NoRoom (fun _ => kitAny_cons Q_NoText_Crossed (fun _ => kitAny_cons Q_NoText_Undone (fun _ => kitAny_cons Q_NoText_NoRoute (fun _ => kitAny_nil) ?_) ?_) ?_) ?_) ?_) ?_) ?_) ?_ <;> exact fun z => nomatch z
  walk_at "go"
  refine rc_isY1 ec ed X_NoText Q_NoText_NoText ?_
  walk_at "go"
  refine rc_isY1 ec ed X_NoText Q_NoText_BoardError ?_
  walk_at "go"
  refine rc_isYb ec ed X_NoText Q_NoText_ValueError ?_
  walk_at "go"
  exact q
theorem ab_q4 {q : Q4} {rows : List R4} (k : ab (.int q.1) (.int q.2.1) (.tup (rows.map encR)) (.int q.2.2.1) (.int q.2.2.2) = true) : Q4Ok q ∧ (∀ r ∈ rows, Q4Ok r) ∧ rows.length ≤ 16 := by
  simp only [ab, Bool.and_eq_true, decide_eq_true_eq, List.length_map] at k
  obtain ⟨⟨⟨⟨k1, k2⟩, k3⟩, k4⟩, ⟨k6, k5⟩, _⟩ := k
  simp only [wi, Bool.and_eq_true, decide_eq_true_eq] at k1 k2 k3 k4
  refine ⟨⟨by omega, by omega, by omega, by omega⟩, fun r hr => ?_, k6⟩
  have h5 := List.all_eq_true.mp k5 _ (List.mem_map.mpr ⟨r, hr, rfl⟩)
  obtain ⟨x, y, f, g, e, a1, a2, a3, a4⟩ := pr_int h5
  simp only [encR, D.tup.injEq, List.cons.injEq, D.int.injEq, and_true] at e
  obtain ⟨e1, e2, e3, e4⟩ := e
  exact ⟨by omega, by omega, by omega, by omega⟩
def P_l_text : PT3 := fun ds μ Φ => ∃ w h rows fl gap, ds = [mdD w h rows fl gap] ∧ Q4Ok (w, h, fl, gap) ∧ (∀ r ∈ rows, Q4Ok r) ∧ rows.length ≤ 16 ∧ Φ (.str (brdS (w, h, fl, gap) rows)) μ
theorem len_l_text (ds : List D) (μ : M) (Φ : D → M → Prop) (h : P_l_text ds μ Φ) : ds.length = 1 := by
  obtain ⟨_, _, _, _, _, rfl, _⟩ := h
  rfl
def ofI5 : D → Int
  | .int i => i
  | _ => 0
theorem ok_l_text {f : Addr} {fd : FuncData} (F : Fun K "_law_text" "_law_text" s_l_text f fd) (B : Bs mg) : FnOk P w K mg base CX0 1 f fd ["_law_made"] (spI K P_l_text) := by
  refine Hold.out ?_
  simp (disch := (
  refine Hold.as ?_
  with_unfolding_all (
  refine F.ok sc_l_text (fun vs H Q E h => spI_len h len_l_text) (fun cdv A outer s H vs Q E hr h => ?_)
  have hu65 := hu65_of hr
  refine ⟨_, (pss_cons (ps_set (i := 1) sc_l_text.nd rfl (by first | exact Or.inl rfl | exact Or.inr rfl) (pe_op op_cat (pe_lst (pa_cons (pe_tup (pa_cons (pe_ix (ix_seqK (K := K) rfl) (pv 0) pe_int (fun _ _ => rfl)) (pa_cons (pe_ix (ix_seqK (K := K) rfl) (pv 0) pe_int (fun _ _ => rfl)) (pa_cons (pe_ix (ix_seqK (K := K) rfl) (pv 0) pe_int (fun _ _ => rfl)) (pa_cons (pe_ix (ix_seqK (K := K) rfl) (pv 0) pe_int (fun _ _ => rfl)) pa_nil))))) pa_nil)) (pe_callTy (call_listK (K := K) rfl) (by rfl) B.b_list (by decide +kernel) (pa_cons (pe_ix (ix_seqK (K := K) rfl) (pv 0) pe_int (fun _ _ => rfl)) pa_nil))))
      (pss_one (ps_ret (pe_joinK (K := K) rfl pe_str (pe_lc (own := [("_law_row", 2)]) (g := gName 2) (tt := tYes) rfl sc_l_text.nd (pi_listK (K := K) rfl (pv 1)) (blkOk_by (own := [("_law_row", 2)]) (N := N_l_text) (sc := defScope s_l_text) (by decide +kernel)) (fun _ _ _ _ _ => (pg_name (i := 2) sc_l_text.nd rfl (by first | exact Or.inl rfl | exact Or.inr rfl))) (fun _ _ _ _ _ => pts_nil) (fun _ _ _ _ _ => (pe_joinK (K := K) rfl pe_str (pe_lc (own := [("_law_one", 3)]) (g := gName 3) (tt := tYes) rfl sc_l_text.nd (pi_tupK (K := K) rfl (pv 2)) (blkOk_by (own := [("_law_one", 3)]) (N := N_l_text) (by rfl)) (fun _ _ _ _ _ => (pg_name (i := 3) sc_l_text.nd rfl (by first | exact Or.inl rfl | exact Or.inr rfl))) (fun _ _ _ _ _ => pts_nil) (fun _ _ _ _ _ => (pe_callTy call_str_int (by rfl) B.b_str (by decide +kernel) (pa_cons (pv 3) pa_nil))))))))))), body_okU h (fun ds μ Φ p => ?_)⟩
  (try dsimp only [cxOf, Cx.nox, Cx.wish, List.map_cons, List.map_nil])
  obtain ⟨w, h, rows, fl, gap, rfl, ok, oks, few, q⟩ := p
  show AS K _ [some _, none, none, none] _ _
  walk_at "go"
  intro l1 hl1
  walk_at "go"
  refine rc_list (ds := rows.map encR) rfl fun l2 hl2 => ?_
  have n12 : l1 ≠ l2 := Ne.symm (none_ne hl2)
  refine ro_cat (by rw [set_ne n12]; exact set_same) set_same (by rw [List.length_map]; simp only [List.length_cons, List.length_nil]; have := sizeLine_eq; omega) fun l3 hl3 => ?_
  have er : ([D.tup [D.int w, D.int h, D.int fl, D.int gap]] : List D) ++ rows.map encR = ((w, h, fl, gap) :: rows).map encR := rfl
  rw [er]
  have okq : ∀ r ∈ ((w, h, fl, gap) :: rows), Q4Ok r := fun r hr => by
    rcases List.mem_cons.mp hr with rfl | hr
    · exact ok
    · exact oks r hr
  have s3 : Sub μ (((μ.set l1 (.lst [D.tup [D.int w, D.int h, D.int fl, D.int gap]])).set l2 (.lst (rows.map encR))).set l3 (.lst (((w, h, fl, gap) :: rows).map encR))) := sub_new (sub_new (sub_new Sub.refl hl1) hl2) hl3
  have few1 : ((w, h, fl, gap) :: rows).length ≤ 17 := by rw [List.length_cons]; omega
  have e1 : brdS (w, h, fl, gap) rows = Txt.join " ; " (((w, h, fl, gap) :: rows).map q4S) := rfl
  rw [e1] at q
  have hl3' : (((μ.set l1 (.lst [D.tup [D.int w, D.int h, D.int fl, D.int gap]])).set l2 (.lst (rows.map encR))).set l3 (.lst (((w, h, fl, gap) :: rows).map encR))) l3 = some (.lst (((w, h, fl, gap) :: rows).map encR)) := set_same
  generalize (((μ.set l1 (.lst [D.tup [D.int w, D.int h, D.int fl, D.int gap]])).set l2 (.lst (rows.map encR))).set l3 (.lst (((w, h, fl, gap) :: rows).map encR))) = μ3 at s3 hl3' ⊢
  generalize (w, h, fl, gap) :: rows = rs at okq few1 q hl3' s3
  clear hl3 hl2 hl1 er e1 ok oks
  walk_at "go"
  refine m_joinV (a := " ; ") ?_
  walk_at "go"
  refine ⟨rfl, ?_⟩
  refine a_lc1 (fun d => .str (q4S (ofR d))) (fun _ => true) (ai_L ?_)
  walk_at "go"
  refine ⟨l3, _, rfl, hl3', by rw [List.length_map]; exact Nat.lt_of_le_of_lt few1 (by decide), fun x hx => at_yes ⟨rfl, rfl⟩, fun x hx _ => ?_, fun l4 hl4 => ?_⟩
  · obtain ⟨r, hr, rfl⟩ := List.mem_map.mp hx
    have k := okq r hr
    walk_at "nf"
    refine AE.forget ?_
    refine m_joinV (a := " ") ?_
    walk_at "go"
    refine ⟨rfl, ?_⟩
    refine a_lc1 (fun d => .str (numS (ofI5 d))) (fun _ => true) (ai_T ?_)
    walk_at "go"
    refine ⟨fun x hx => at_yes ⟨rfl, rfl⟩, fun x hx _ => ?_, fun l5 hl5 => ?_⟩
    · simp only [List.mem_cons, List.not_mem_nil, or_false] at hx
      walk_at "nf"
      rcases hx with rfl | rfl | rfl | rfl
      · walk_at "go"; refine rc_strI (big_log k.a) ?_; exact ⟨rfl, rfl⟩
      · walk_at "go"; refine rc_strI (big_log k.b) ?_; exact ⟨rfl, rfl⟩
      · walk_at "go"; refine rc_strI (big_log k.c) ?_; exact ⟨rfl, rfl⟩
      · walk_at "go"; refine rc_strI (big_log k.d) ?_; exact ⟨rfl, rfl⟩
    rw [List.filter_eq_self.mpr (fun _ _ => rfl)]
    have m1 := num_len k.a
    have m2 := num_len k.b
    have m3 := num_len k.c
    have m4 := num_len k.d
    refine ⟨[numS r.1, numS r.2.1, numS r.2.2.1, numS r.2.2.2], seq_ref set_same, ?_, _, sub_new Sub.refl hl5, rfl, rfl⟩
    simp only [List.map_cons, List.map_nil, List.sum_cons, List.sum_nil, List.length_cons, List.length_nil]
    rw [show (Str.ofString " ").length = 1 from rfl]
    omega
  rw [List.filter_eq_self.mpr (fun _ _ => rfl), List.map_map, show rs.map ((fun d => D.str (q4S (ofR d))) ∘ encR) = (rs.map q4S).map D.str from by rw [List.map_map]; rfl]
  refine ⟨rs.map q4S, seq_ref set_same, ?_, up_of ?_ q⟩
  · have := sum_le (ws := rs.map q4S) (k := 127) fun y hy => by
      obtain ⟨r, hr, rfl⟩ := List.mem_map.mp hy
      exact q4S_len (okq r hr)
    rw [List.length_map] at this ⊢
    rw [show (Str.ofString " ; ").length = 3 from rfl]
    omega
  · have e4 : (μ3.del l3).set l3 (.lst (rs.map encR)) = μ3 := by
      funext a
      by_cases na : a = l3
      · rw [na, set_same, hl3']
      · rw [set_ne na, Z.del_ne na]
    have hl4' : μ3 l4 = none := by
      have := hl4
      dsimp only at this
      rw [e4] at this
      exact this
    dsimp only
    rw [e4]
    exact sub_new s3 hl4'))) only [↓Hold.on]
def P_l_read (R C : Addr) : PT3 := fun ds μ Φ => ∃ (d : D) (n : String) (b : Bool), ds = [.ref R, d] ∧ tyn μ d = some n ∧ kitB n "str" = some b ∧ (b = false → Φ (.str "none") μ) ∧
  (b = true → ∃ s : Str, d = .str s ∧ s.length ≤ lng ∧ (∀ q rows, boardRes s = some (q, rows) → ∀ μ' a sp kg kt, Sub μ μ' → μ a = none → μ sp = none → μ kg = none → μ kt = none → Brd C μ' a q.1 q.2.1 rows q.2.2.1 q.2.2.2 sp kg kt → Φ (.ref a) μ') ∧ (boardRes s = none → Φ (.str "none") μ))
theorem len_l_read (R C : Addr) (ds : List D) (μ : M) (Φ : D → M → Prop) (h : P_l_read R C ds μ Φ) : ds.length = 2 := by
  obtain ⟨_, _, _, rfl, _⟩ := h
  rfl
def P_l_whole : PT3 := fun ds μ Φ => ∃ w : Str, ds = [.str w] ∧ w.length ≤ lng ∧ Φ (oD (wholeIn w)) μ
theorem len_l_whole (ds : List D) (μ : M) (Φ : D → M → Prop) (h : P_l_whole ds μ Φ) : ds.length = 1 := by
  obtain ⟨_, rfl, _⟩ := h
  rfl
/-- what a text of a board writes -/
def resD : Option (Q4 × List Q4) → D
  | none => .non
  | some (q, rows) => mkD q.1 q.2.1 rows q.2.2.1 q.2.2.2
/-- what the words of a part write -/
def fourW (p : Str) : List D := ((words p).map wholeIn).map oD
theorem fourW_all : ∀ {rs : List (Addr × Str)} {μ : M}, (∀ r ∈ rs, μ r.1 = some (.lst (fourW r.2))) → (∀ r ∈ rs, (fourIn r.2).isSome = true) →
    ∃ rq : List (Addr × Q4), rq.map (fun r => D.ref r.1) = rs.map (fun r => D.ref r.1) ∧ (rs.map (·.2)).map fourIn = (rq.map (·.2)).map some ∧ ∀ r ∈ rq, μ r.1 = some (.lst (fourD r.2))
  | [], _, _, _ => ⟨[], rfl, rfl, by simp⟩
  | r :: rs, μ, h, k => by
    obtain ⟨rq, e1, e2, e3⟩ := fourW_all (fun r m => h r (List.mem_cons_of_mem _ m)) fun r m => k r (List.mem_cons_of_mem _ m)
    obtain ⟨q, hq⟩ := Option.isSome_iff_exists.mp (k r List.mem_cons_self)
    have hl : ((words r.2).map wholeIn).length = 4 := Classical.byContradiction fun z => by unfold fourIn at hq; rw [fourOf_len z] at hq; cases hq
    have hn : none ∉ (words r.2).map wholeIn := fun z => by unfold fourIn at hq; rw [fourOf_non z] at hq; cases hq
    obtain ⟨q2, f1, f2⟩ := fourOf_some hl hn
    have : q2 = q := Option.some.inj (f1.symm.trans hq)
    subst this
    refine ⟨(r.1, q2) :: rq, by rw [List.map_cons, List.map_cons, e1], by rw [List.map_cons, List.map_cons, List.map_cons, List.map_cons, e2, hq], fun u m => ?_⟩
    rcases List.mem_cons.mp m with rfl | m
    · have := h r List.mem_cons_self
      unfold fourW at this
      rw [f2] at this
      exact this
    · exact e3 u m
theorem num_lt {l : List (List Int)} {n : Nat} (h : Z.NumOf l n) : n < l.length ↔ ¬ l.Nodup := by
  obtain ⟨d, h1, h2, rfl⟩ := id h
  constructor
  · intro lt nd
    have := Z.num_all nd h
    omega
  · intro nd
    exact Z.few_of_dup l d h1 (fun k hk => (h2 k).mp hk) nd
def P_l_board_in : PT3 := fun ds μ Φ => ∃ s : Str, ds = [.str s] ∧ s.length ≤ lng ∧ Φ (resD (boardRes s)) μ
theorem len_l_board_in (ds : List D) (μ : M) (Φ : D → M → Prop) (h : P_l_board_in ds μ Φ) : ds.length = 1 := by
  obtain ⟨_, rfl, _⟩ := h
  rfl
theorem use_l_num {μ : M} {Φ : D → M → Prop} {w : Str} (hw : w.length ≤ lng) (q : Φ (oD (numIn 30 w)) μ) : P_l_number [.str w, .int 30] μ Φ := ⟨w, 30, rfl, by decide, hw, q⟩
/-- behind a dash 0 is written by 0 alone -/
theorem dash_zero {w : Str} {n : Int} (h : cutS w none (some 1) = "-") (e : numIn 30 (cutS w (some 1) none) = some n) : n = 0 ↔ w = "-0" := by
  have c := cut_dash h
  constructor
  · rintro rfl
    rw [c, ← (num_back e).2]
    rfl
  · rintro rfl
    rw [show numIn 30 (cutS (Str.ofString "-0") (some 1) none) = some 0 by decide +kernel] at e
    exact (Option.some.inj e).symm
theorem ok_l_read {f : Addr} {fd : FuncData} (F : Fun K "_law_read" "_law_read" s_l_read f fd) (B : Bs mg) {C_Board : Addr} (K_Board : Cl_Board K C_Board) {C_NoBoard : Addr} (E_NoBoard : Exc0 K mg "NoBoard" C_NoBoard) {C_NoPin : Addr} (E_NoPin : Exc1 P w K mg base "NoPin" "pin" C_NoPin) {C_NoText : Addr} (E_NoText : Exc0 K mg "NoText" C_NoText) {C_read_board : Addr} (V_read_board : Cst mg "read_board" (.ref C_read_board)) (H_NoBoard_NoText : PySem.W.exmOne K (.ref C_NoBoard) (.ref C_NoText) = some false) (H_NoPin_NoText : PySem.W.exmOne K (.ref C_NoPin) (.ref C_NoText) = some false) (H_NoText_NoText : PySem.W.exmOne K (.ref C_NoText) (.ref C_NoText) = some true) (G_l_alone : DefE P w K mg base "_law_alone" "_law_e" 1 (spE K (P_l_alone C_NoText))) (G_read_board : DefX P w K mg base "read_board" ["text"] 8 (spX K (xn mg) (P_read_board C_Board))) : FnOk P w K mg base CX0 10 f fd ["_law_reader", "_law_text_here"] (spI K (P_l_read C_read_board C_Board)) := by
  refine Hold.out ?_
  simp (disch := (
  refine Hold.as ?_
  with_unfolding_all (
  refine F.ok sc_l_read (fun vs H Q E h => spI_len h (len_l_read C_read_board C_Board)) (fun cdv A outer s H vs Q E hr h => ?_)
  have hu65 := hu65_of hr
  refine ex_run (pss_one (ps_try_as (i := 2) rfl rfl sc_l_read.nd rfl rfl ⟨by rfl, by decide, Or.inl E_NoText.mg⟩ takes0 (fun W pn xe tk po => (pss_one (ps_ret (pe_callVX (K := K) (k := 9) (i := 0) rfl tk (held_cons (heldX G_read_board V_read_board) held_nil) (hr.mono (by decide)) rfl (by first | exact Or.inl rfl | exact Or.inr (Or.inl rfl)) (pa_cons (pv 1) pa_nil))))) (fun a oe cls d pn hz hf => (pss_one (ps_ret (pe_ifExp (pt_val (pe_callE List.mem_cons_self hz hf G_l_alone (roomE (hr.mono (by decide))) (by rfl) (pv 2))) pe_str pe_str)))))) (body_okR h (fun ds μ Φ p => ?_))
  (try dsimp only [cxOf, Cx.nox, Cx.wish, List.map_cons, List.map_nil])
  obtain ⟨d, n, b, rfl, hn, hk, no, yes⟩ := p
  show AS K _ [some _, some _, none] _ _
  refine s_tryAs (xn mg) (tb := fun W => tRet (tCallVX K (xn mg) [(C_read_board, P_read_board C_Board)] 0 (WE W) (tCons (tVar 1) tNil))) (fun x => x == "NoText") (fun z cls hz => ?_) fun W => ?_
  · rcases xn_or hz with ⟨rfl, e⟩ | ⟨rfl, e⟩ | ⟨rfl, e⟩ <;> first | (cases E_NoText.mg.symm.trans e; exact H_NoText_NoText) | (cases E_NoBoard.mg.symm.trans e; exact H_NoBoard_NoText) | (cases E_NoPin.mg.symm.trans e; exact H_NoPin_NoText)
  have ec : ∀ cls, xn mg "NoText" = some cls → cls = .ref C_NoText := fun cls hc => (Option.some.inj (E_NoText.mg.symm.trans (show mg "NoText" = some _ from by rcases xn_or hc with ⟨z, e⟩ | ⟨z, e⟩ | ⟨z, e⟩ <;> first | exact e | exact absurd z (by decide)))).symm
  refine s_retX (a_callVX (P := P_read_board C_Board) (f := C_read_board) (List.mem_singleton.mpr rfl) rfl ?_)
  walk_at "go"
  refine ⟨d, n, b, rfl, hn, hk, fun hb => .inl ⟨rfl, fun a cls hc => ?_⟩, fun hb => ?_⟩
  · cases ec cls hc
    walk_at "go"
    refine a_callE ?_
    walk_at "go"
    refine ⟨rfl, rfl, rfl, ?_⟩
    walk_at "go"
    exact no hb
  obtain ⟨s, rfl, hs, some_, none_⟩ := yes hb
  refine ⟨s, rfl, hs, some_, fun hr => .inl ⟨rfl, fun a cls hc => ?_⟩⟩
  cases ec cls hc
  walk_at "go"
  refine a_callE ?_
  walk_at "go"
  refine ⟨rfl, rfl, rfl, ?_⟩
  walk_at "go"
  exact none_ hr))) only [↓Hold.on]
theorem ok_l_whole {f : Addr} {fd : FuncData} (F : Fun K "_law_whole" "_law_whole" s_l_whole f fd) (B : Bs mg) (G_l_number : Def P w K mg base "_law_number" ["_law_word", "_law_most"] 2 (spI K P_l_number)) : FnOk P w K mg base CX0 3 f fd ["_law_word"] (spI K P_l_whole) := by
  refine Hold.out ?_
  simp (disch := (
  refine Hold.as ?_
  with_unfolding_all (
  refine F.ok sc_l_whole (fun vs H Q E h => spI_len h len_l_whole) (fun cdv A outer s H vs Q E hr h => ?_)
  have hu65 := hu65_of hr
  refine ⟨_, (pss_cons (ps_if (pt_cmpR op_eq (pe_slice sl_str (pv 0) po_none (po_some pe_int)) pe_str (by first | exact nomark _ | rfl)) (pss_one (ps_ret (pe_ifExp (PW.pt (pw_or (pt_cmpR op_eq (pv 0) pe_str (by first | exact nomark _ | rfl)) (pw_or1 (pt_cmpR op_isN (pe_def G_l_number (hr.mono (by decide)) (by rfl) (pa_cons (pe_slice sl_str (pv 0) (po_some pe_int) po_none) (pa_cons pe_int pa_nil))) pe_non (by first | exact nomark _ | rfl))))) pe_non (pe_op op_sub pe_int (pe_def G_l_number (hr.mono (by decide)) (by rfl) (pa_cons (pe_slice sl_str (pv 0) (po_some pe_int) po_none) (pa_cons pe_int pa_nil))))))) pss_nil)
      (pss_one (ps_ret (pe_def G_l_number (hr.mono (by decide)) (by rfl) (pa_cons (pv 0) (pa_cons pe_int pa_nil)))))), body_ok h (fun ds μ Φ p => ?_)⟩
  (try dsimp only [cxOf, Cx.nox, Cx.wish, List.map_cons, List.map_nil])
  obtain ⟨w, rfl, hw, q⟩ := p
  show AS K _ [some _] _ _
  have hw1 : (cutS w (some 1) none).length ≤ lng := Nat.le_trans (cut_le _ _ _) hw
  walk_at "go"
  by_cases hd : cutS w none (some 1) = "-"
  rotate_left
  · rw [show decide (cutS w none (some 1) = Str.ofString "-") = false from decide_eq_false hd]
    simp only [Bool.false_eq_true, if_false]
    walk_at "go"
    unfold wholeIn at q
    rw [if_neg hd] at q
    exact use_l_num hw q
  rw [show decide (cutS w none (some 1) = Str.ofString "-") = true from decide_eq_true hd]
  simp only [if_true]
  walk_at "go"
  unfold wholeIn at q
  rw [if_pos hd] at q
  refine ite_d (fun h0 => ?_) (fun h0 => ?_)
  · rw [if_pos rfl]
    have e0 : numIn 30 (cutS w (some 1) none) = some 0 := by rw [h0]; decide +kernel
    rw [e0] at q
    walk_at "go"
    exact q
  have nz := fun n e => mt (dash_zero (n := n) hd e).mp h0
  walk_at "go"
  refine use_l_num hw1 ?_
  cases eo : numIn 30 (cutS w (some 1) none) with
  | none =>
    rw [eo] at q
    walk_at "go"
    rw [show isN (oD none) = true from rfl]
    simp only [if_true]
    walk_at "go"
    exact q
  | some n =>
    have hn : n ≠ 0 := nz n eo
    rw [eo] at q
    have q : Φ (oD (if n = 0 then none else some (0 - n))) μ := q
    rw [if_neg hn] at q
    walk_at "go"
    rw [show isN (oD (some n)) = false from rfl]
    simp only [Bool.false_eq_true, if_false]
    walk_at "go"
    refine use_l_num hw1 ?_
    rw [eo]
    dsimp only [oD]
    walk_at "go"
    exact q))) only [↓Hold.on]
theorem ok_l_board_in {f : Addr} {fd : FuncData} (F : Fun K "_law_board_in" "_law_board_in" s_l_board_in f fd) (B : Bs mg) (G_l_whole : Def P w K mg base "_law_whole" ["_law_word"] 3 (spI K P_l_whole)) : FnOk P w K mg base CX0 4 f fd ["_law_text_here"] (spI K P_l_board_in) := by
  refine Hold.out ?_
  simp (disch := (
  refine Hold.as ?_
  with_unfolding_all (
  refine F.ok sc_l_board_in (fun vs H Q E h => spI_len h len_l_board_in) (fun cdv A outer s H vs Q E hr h => ?_)
  have hu65 := hu65_of hr
  refine ⟨_, (pss_cons (ps_setLc (i := 1) (own := [("_law_part", 11)]) (g := gName 11) (tt := tYes) rfl sc_l_board_in.nd rfl rfl (sw_true rfl rfl rfl (by decide +kernel)) (pi_listK (K := K) rfl (pe_split (pv 0) pe_str)) (blkOk_by (own := [("_law_part", 11)]) (N := N_l_board_in) (sc := defScope s_l_board_in) (by decide +kernel)) (fun _ _ _ _ _ => (pg_name (i := 11) sc_l_board_in.nd rfl (by first | exact Or.inl rfl | exact Or.inr rfl))) (fun _ _ _ _ _ => pts_nil) (fun _ _ _ _ _ => (pe_lc (own := [("_law_word", 12)]) (g := gName 12) (tt := tYes) rfl sc_l_board_in.nd (pi_listK (K := K) rfl (pe_split (pv 11) pe_str)) (blkOk_by (own := [("_law_word", 12)]) (N := N_l_board_in) (by rfl)) (fun _ _ _ _ _ => (pg_name (i := 12) sc_l_board_in.nd rfl (by first | exact Or.inl rfl | exact Or.inr rfl))) (fun _ _ _ _ _ => pts_nil) (fun _ _ _ _ _ => (pe_def G_l_whole (hr.mono (by decide)) (by rfl) (pa_cons (pv 12) pa_nil))))))
      (pss_cons (ps_if (pt_not (pt_val (pe_callB (cr_allK (K := K) rfl rfl) (by rfl) B.b_all (by decide +kernel) (pa_cons (pe_lc (own := [("_law_row", 13)]) (g := gName 13) (tt := tYes) rfl sc_l_board_in.nd (pi_listK (K := K) rfl (pv 1)) (blkOk_by (own := [("_law_row", 13)]) (N := N_l_board_in) (sc := defScope s_l_board_in) (by decide +kernel)) (fun _ _ _ _ _ => (pg_name (i := 13) sc_l_board_in.nd rfl (by first | exact Or.inl rfl | exact Or.inr rfl))) (fun _ _ _ _ _ => pts_nil) (fun _ _ _ _ _ => (pe_and (pe_cmpR op_eq (pe_callB (call_lenK (K := K) rfl) (by rfl) B.b_len (by decide +kernel) (pa_cons (pv 13) pa_nil)) pe_int (by first | exact nomark _ | rfl)) (pe_one (pe_cmpR (op_notInSK (K := K) rfl hu65) pe_non (pv 13) (by first | exact nomark _ | rfl)))))) pa_nil)))) (pss_one (ps_ret pe_non)) pss_nil)
      (pss_cons (ps_asg (pe_ix (ix_seqK (K := K) rfl) (pv 1) pe_int (fun _ _ => rfl)) (pg_lst (by rfl) (pgs_cons (pg_name (i := 2) sc_l_board_in.nd rfl (by first | exact Or.inl rfl | exact Or.inr rfl)) (pgs_cons (pg_name (i := 3) sc_l_board_in.nd rfl (by first | exact Or.inl rfl | exact Or.inr rfl)) (pgs_cons (pg_name (i := 4) sc_l_board_in.nd rfl (by first | exact Or.inl rfl | exact Or.inr rfl)) (pgs_cons (pg_name (i := 5) sc_l_board_in.nd rfl (by first | exact Or.inl rfl | exact Or.inr rfl)) pgs_nil))))))
      (pss_cons (ps_setLc (i := 6) (own := [("_law_row", 13)]) (g := gName 13) (tt := tYes) rfl sc_l_board_in.nd rfl rfl (sw_true rfl rfl rfl (by decide +kernel)) (pi_listK (K := K) rfl (pe_slice (sl_listK (K := K) rfl) (pv 1) (po_some pe_int) po_none)) (blkOk_by (own := [("_law_row", 13)]) (N := N_l_board_in) (sc := defScope s_l_board_in) (by decide +kernel)) (fun _ _ _ _ _ => (pg_name (i := 13) sc_l_board_in.nd rfl (by first | exact Or.inl rfl | exact Or.inr rfl))) (fun _ _ _ _ _ => pts_nil) (fun _ _ _ _ _ => (pe_callTy (call_tupleK (K := K) rfl) (by rfl) B.b_tuple (by decide +kernel) (pa_cons (pv 13) pa_nil))))
      (pss_cons (ps_if (PW.pt (pw_or (pt_not (pt_val (pe_callB (cr_allK (K := K) rfl rfl) (by rfl) B.b_all (by decide +kernel) (pa_cons (pe_lc (own := [("_law_one", 14)]) (g := gName 14) (tt := tYes) rfl sc_l_board_in.nd (pi_tupK (K := K) rfl (pe_tup (pa_cons (pv 2) (pa_cons (pv 3) pa_nil)))) (blkOk_by (own := [("_law_one", 14)]) (N := N_l_board_in) (sc := defScope s_l_board_in) (by decide +kernel)) (fun _ _ _ _ _ => (pg_name (i := 14) sc_l_board_in.nd rfl (by first | exact Or.inl rfl | exact Or.inr rfl))) (fun _ _ _ _ _ => pts_nil) (fun _ _ _ _ _ => (pe_chain op_le op_le pe_int (pv 14) (pe_op op_pow pe_int pe_int)))) pa_nil)))) (pw_or (pt_not (pt_chain op_le op_le pe_int (pv 4) pe_int)) (pw_or1 (pt_not (pt_chain op_le op_le pe_int (pv 5) (pe_op op_pow pe_int pe_int))))))) (pss_one (ps_ret pe_non)) pss_nil)
      (pss_cons (ps_for PassesOwn.never rfl (pi_listK (K := K) rfl (pv 6)) (pg_tup (by rfl) (pgs_cons (pg_name (i := 7) sc_l_board_in.nd rfl (by first | exact Or.inl rfl | exact Or.inr rfl)) (pgs_cons (pg_name (i := 8) sc_l_board_in.nd rfl (by first | exact Or.inl rfl | exact Or.inr rfl)) (pgs_cons (pg_name (i := 9) sc_l_board_in.nd rfl (by first | exact Or.inl rfl | exact Or.inr rfl)) (pgs_cons (pg_name (i := 10) sc_l_board_in.nd rfl (by first | exact Or.inl rfl | exact Or.inr rfl)) pgs_nil)))))
      (pss_one (ps_if (PW.pt (pw_or (pt_not (pt_chain op_lt op_lt pe_int (pv 7) (pv 2))) (pw_or (pt_not (pt_chain op_lt op_lt pe_int (pv 8) (pv 3))) (pw_or1 (pt_not (pt_chain3 op_le op_le op_lt pe_int (pv 9) (pv 10) (pv 4))))))) (pss_one (ps_ret pe_non)) pss_nil)))
      (pss_cons (ps_if (PW.pt (pw_or (pt_cmpR op_gt (pe_callB (call_lenK (K := K) rfl) (by rfl) B.b_len (by decide +kernel) (pa_cons (pv 6) pa_nil)) pe_int (by first | exact nomark _ | rfl)) (pw_or1 (pt_cmpR op_lt (pe_callB (ZQ.cr_lenSN rfl rfl) (by rfl) B.b_len (by decide +kernel) (pa_cons (pe_callTy (cr_setOfTK (K := K) rfl rfl rfl rfl hr.units) (by rfl) B.b_set (by decide +kernel) (pa_cons (pe_lc (own := [("_law_pin", 15)]) (g := gName 15) (tt := tYes) rfl sc_l_board_in.nd (pi_listK (K := K) rfl (pv 6)) (blkOk_by (own := [("_law_pin", 15)]) (N := N_l_board_in) (sc := defScope s_l_board_in) (by decide +kernel)) (fun _ _ _ _ _ => (pg_name (i := 15) sc_l_board_in.nd rfl (by first | exact Or.inl rfl | exact Or.inr rfl))) (fun _ _ _ _ _ => pts_nil) (fun _ _ _ _ _ => (pe_slice (sl_tupAK (K := K) rfl) (pv 15) po_none (po_some pe_int)))) pa_nil)) pa_nil)) (pe_callB (call_lenK (K := K) rfl) (by rfl) B.b_len (by decide +kernel) (pa_cons (pv 6) pa_nil)) (by first | exact nomark _ | rfl))))) (pss_one (ps_ret pe_non)) pss_nil)
      (pss_one (ps_ret (pe_tup (pa_cons (pv 2) (pa_cons (pv 3) (pa_cons (pe_callTy (call_tupleK (K := K) rfl) (by rfl) B.b_tuple (by decide +kernel) (pa_cons (pv 6) pa_nil)) (pa_cons (pv 4) (pa_cons (pv 5) pa_nil))))))))))))))), body_okU h (fun ds μ Φ p => ?_)⟩
  (try dsimp only [cxOf, Cx.nox, Cx.wish, List.map_cons, List.map_nil])
  obtain ⟨s, rfl, hs, q⟩ := p
  show AS K _ [some _, none, none, none, none, none, none, none, none, none, none, none, none, none, none, none] _ _
  have hz := lng_line hs
  have lw : (bparts s).length ≤ lng + 2 := Nat.le_trans (bparts_few s) (Nat.add_le_add_right hs 2)
  refine s_seq ?_
  refine s_asg ?_
  refine a_lcS tg_name ?_
  refine m_split (a := s) (b := " ; ") ?_
  walk_at "go"
  refine ⟨rfl, ?_⟩
  walk_at "go"
  refine ⟨rfl, by decide +kernel, Nat.le_trans (Nat.add_le_add_right hs 2) (by decide), fun l hl => ?_⟩
  have s1 : Sub μ (μ.set l (MO.lst (List.map D.str (Txt.split s (Str.ofString " ; "))))) := sub_new Sub.refl hl
  have h1 : (μ.set l (MO.lst (List.map D.str (Txt.split s (Str.ofString " ; "))))) l = some (.lst ((bparts s).map D.str)) := set_same
  generalize μ.set l (MO.lst (List.map D.str (Txt.split s (Str.ofString " ; ")))) = μ1 at s1 h1 ⊢
  refine ⟨l, (bparts s).map D.str, fun i acc μ' => ∃ rs : List (Addr × Str), acc = rs.map (fun r => D.ref r.1) ∧ rs.map (·.2) = (bparts s).take i ∧ Sub μ1 μ' ∧ ∀ r ∈ rs, μ' r.1 = some (.lst (fourW r.2)), rfl, ⟨[], rfl, rfl, Sub.refl, by simp⟩, fun i acc μ' ⟨_, _, _, sb, _⟩ => sb _ _ h1, ?_, ?_⟩
  · rintro i x acc μ' hx ⟨rs, rfl, e, sb, hr⟩
    rw [List.getElem?_map] at hx
    obtain ⟨p, hp, rfl⟩ := Option.map_eq_some_iff.mp hx
    have pm : p ∈ bparts s := List.mem_of_getElem? hp
    have pl : p.length ≤ lng := Nat.le_trans (bpart_le pm) hs
    have il : i < (bparts s).length := (List.getElem?_eq_some_iff.mp hp).1
    have rl : rs.length = i := by
      have := congrArg List.length e
      rw [List.length_map, List.length_take] at this
      omega
    refine ⟨_, rfl, rfl, at_yes ?_⟩
    rw [if_pos rfl]
    walk_at "nf"
    refine a_lc1 (fun d => oD (wholeIn (strN d))) (fun _ => true) (ai_L ?_)
    refine m_split (a := p) (b := " ") ?_
    walk_at "go"
    refine ⟨rfl, ?_⟩
    walk_at "go"
    refine ⟨rfl, by decide +kernel, Nat.le_trans (Nat.add_le_add_right pl 2) (by decide), fun l0 hl0 => ?_⟩
    refine ⟨l0, _, rfl, set_same, by rw [strs_len]; exact Nat.lt_of_le_of_lt (words_few p) (Nat.lt_of_le_of_lt (Nat.add_le_add_right pl 2) (by decide)), fun x hx => at_yes ⟨rfl, rfl⟩, fun x hx _ => ?_, fun l2 hl2 => ?_⟩
    · obtain ⟨u, hu, rfl⟩ := List.mem_map.mp hx
      walk_at "nf"
      walk_at "go"
      exact ⟨u, rfl, Nat.le_trans (words_le hu) pl, rfl, rfl⟩
    rw [List.filter_eq_self.mpr (fun _ _ => rfl), List.map_map, show (Txt.split p " ").map ((fun d => oD (wholeIn (strN d))) ∘ D.str) = fourW p from by unfold fourW; rw [List.map_map]; rfl]
    dsimp only at hl2 ⊢
    rw [show ((μ'.set l0 (MO.lst (List.map D.str (Txt.split p (Str.ofString " "))))).del l0).set l0 (MO.lst (List.map D.str (Txt.split p (Str.ofString " ")))) = μ'.set l0 (MO.lst (List.map D.str (Txt.split p (Str.ofString " ")))) from back_same] at hl2 ⊢
    have s2 : Sub μ' ((μ'.set l0 (MO.lst (List.map D.str (Txt.split p (Str.ofString " "))))).set l2 (.lst (fourW p))) := sub_new (sub_new Sub.refl hl0) hl2
    refine ⟨?_, rs ++ [(l2, p)], by rw [List.map_append]; rfl, ?_, fun a m ea => s2 _ _ (sb _ _ ea), fun r hr2 => ?_⟩
    · rw [List.length_map, rl]
      exact Nat.lt_of_lt_of_le il (Nat.le_trans lw (by decide))
    · rw [List.take_add_one, hp, List.map_append, e]
      rfl
    · rcases List.mem_append.mp hr2 with z | z
      · exact s2 _ _ (hr r z)
      · rw [List.mem_singleton.mp z]
        exact set_same
  rintro acc μ2 ⟨rs, rfl, e, sb, hr⟩ l2 hl2
  rw [List.length_map, List.take_length] at e
  have s3 : Sub μ (μ2.set l2 (.lst (rs.map fun r => D.ref r.1))) := sub_new (fun a m ea => sb _ _ (s1 _ _ ea)) hl2
  have hr3 : ∀ r ∈ rs, (μ2.set l2 (.lst (rs.map fun r => D.ref r.1))) r.1 = some (.lst (fourW r.2)) := fun r m => by
    have := hr r m
    rw [set_ne (ne_of_some hl2 this).symm]
    exact this
  have h3 : (μ2.set l2 (.lst (rs.map fun r => D.ref r.1))) l2 = some (.lst (rs.map fun r => D.ref r.1)) := set_same
  generalize (μ2.set l2 (.lst (rs.map fun r => D.ref r.1))) = μ3 at s3 hr3 h3 ⊢
  clear hr sb hl2 h1 s1 hl
  refine g_name ?_
  walk_at "nf"
  walk_at "go"
  refine a_lcS tg_name ?_
  walk_at "go"
  refine ⟨l2, rs.map fun r => D.ref r.1, fun i acc μ' => acc = ((rs.take i).map fun r => (fourIn r.2).isSome).map D.bl ∧ μ' = μ3, rfl, ⟨rfl, rfl⟩, fun i acc μ' ⟨_, e⟩ => by rw [e]; exact h3, ?_, ?_⟩
  · rintro i x acc μ' hx ⟨rfl, rfl⟩
    rw [List.getElem?_map] at hx
    obtain ⟨r, hr, rfl⟩ := Option.map_eq_some_iff.mp hx
    have hr4 := hr3 r (List.mem_of_getElem? hr)
    refine ⟨_, rfl, rfl, at_yes ?_⟩
    rw [if_pos rfl]
    walk_at "nf"
    walk_at "go"
    have few : (((rs.take i).map fun r => (fourIn r.2).isSome).map D.bl).length < sizeLine := by
      have il : i < rs.length := (List.getElem?_eq_some_iff.mp hr).1
      have rl : rs.length = (bparts s).length := by rw [← e, List.length_map]
      rw [List.length_map, List.length_map, List.length_take]
      exact Nat.lt_of_lt_of_le (show min i rs.length < lng + 2 by omega) (by decide)
    have add : ∀ b, (fourIn r.2).isSome = b → ((rs.take i).map fun r => (fourIn r.2).isSome).map D.bl ++ [D.bl b] = ((rs.take (i + 1)).map fun r => (fourIn r.2).isSome).map D.bl := fun b eb => by
      rw [List.take_add_one, hr, List.map_append, List.map_append]
      show _ = _ ++ [D.bl (fourIn r.2).isSome]
      rw [eb]
    have lf : ((words r.2).map wholeIn).length = (fourW r.2).length := by unfold fourW; simp
    refine ite_d (fun h4 => ?_) (fun h4 => ?_)
    rotate_left
    · refine ⟨few, add false ?_, rfl⟩
      unfold fourIn
      rw [fourOf_len (by omega)]
      rfl
    walk_at "go"
    refine ro_inS (ds := fourW r.2) (seq_ref hr4) rfl ((okn_tup (n := 0) fun x hx => by obtain ⟨o, _, rfl⟩ := List.mem_map.mp hx; exact okn_o o).ok (by decide)) ?_
    unfold fourW
    rw [inD_non]
    refine ⟨few, add _ ?_, rfl⟩
    by_cases h6 : none ∈ (words r.2).map wholeIn
    · unfold fourIn
      rw [fourOf_non h6, decide_eq_true h6]
      rfl
    · obtain ⟨q, e1, _⟩ := fourOf_some (by omega) h6
      unfold fourIn
      rw [e1, decide_eq_false h6]
      rfl
  rintro acc μ' ⟨rfl, rfl⟩ l5 hl5
  rw [List.length_map, List.take_length]
  have s6 : Sub μ (μ'.set l5 (.lst ((rs.map fun r => (fourIn r.2).isSome).map D.bl))) := sub_new s3 hl5
  have hr5 : ∀ r ∈ rs, (μ'.set l5 (.lst ((rs.map fun r => (fourIn r.2).isSome).map D.bl))) r.1 = some (.lst (fourW r.2)) := fun r m => sub_new Sub.refl hl5 _ _ (hr3 r m)
  have h5 : (μ'.set l5 (.lst ((rs.map fun r => (fourIn r.2).isSome).map D.bl))) l2 = some (.lst (rs.map fun r => D.ref r.1)) := sub_new Sub.refl hl5 _ _ h3
  walk_at "go"
  refine rc_all set_same ?_
  refine ⟨_, rfl, ?_⟩
  generalize (μ'.set l5 (.lst ((rs.map fun r => (fourIn r.2).isSome).map D.bl))) = μ5 at s6 hr5 h5 ⊢
  clear hl5 h3 hr3 s3
  have lrs : rs.length = (bparts s).length := by rw [← e, List.length_map]
  have ea : (rs.map fun r => (fourIn r.2).isSome).all id = rs.all fun r => (fourIn r.2).isSome := by rw [List.all_map]; rfl
  rw [ea]
  by_cases h6 : (rs.all fun r => (fourIn r.2).isSome) = true
  rotate_left
  · rw [show (rs.all fun r => (fourIn r.2).isSome) = false by simpa using h6]
    have : boardRes s = none := by
      rw [List.all_eq_true] at h6
      obtain ⟨r, hr⟩ := Classical.not_forall.mp h6
      obtain ⟨hm, hn⟩ := Classical.not_imp.mp hr
      refine boardRes_bad (p := r.2) (by rw [← e]; exact List.mem_map.mpr ⟨r, hm, rfl⟩) ?_
      cases eo : fourIn r.2 with
      | none => rfl
      | some q => rw [eo] at hn; exact absurd rfl hn
    rw [this] at q
    walk_at "go"
    exact up_of s6 q
  rw [h6]
  obtain ⟨rq, g1, g2, g3⟩ := fourW_all hr5 (List.all_eq_true.mp h6)
  rw [← g1] at h5
  rw [e] at g2
  have lrq : rq.length = (bparts s).length := by
    have := congrArg List.length g1
    rw [List.length_map, List.length_map] at this
    omega
  clear g1 hr5 h6 ea e
  cases rq with
  | nil => exact absurd (List.length_eq_zero_iff.mp lrq.symm) (bparts_ne s)
  | cons r0 rt =>
  obtain ⟨p0, q0⟩ := r0
  have lo := parts_low (s := s) fun p hp => by
    have m : fourIn p ∈ (((p0, q0) :: rt).map (·.2)).map some := by rw [← g2]; exact List.mem_map.mpr ⟨p, hp, rfl⟩
    obtain ⟨q, _, e2⟩ := List.mem_map.mp m
    exact ⟨q, e2.symm⟩
  rw [← lrq, List.length_cons] at lo
  have few : rt.length ≤ 1000 := by
    have hs' : s.length ≤ 10000 := hs
    omega
  rw [List.map_cons] at g2
  have eR := boardRes_eq g2
  have fin : ∀ b, madeOk q0 (rt.map (·.2)) = b → ∀ μ', Sub μ μ' → Up Φ (if b = true then mkD q0.1 q0.2.1 (rt.map (·.2)) q0.2.2.1 q0.2.2.2 else .non) μ' := fun b eb μ' sb => by
    refine up_of sb ?_
    rw [eR, eb] at q
    cases b with
    | true => exact q
    | false => exact q
  clear q eR lrs lrq lo
  walk_at "go"
  have i0 : atI (((p0, q0) :: rt).map fun r => D.ref r.1) 0 = some (.ref p0) := by unfold atI ixN; rw [if_pos (by decide), if_pos (by simp only [List.length_map, List.length_cons]; omega)]; rfl
  refine ro_ix (seq_ref h5) i0 ?_
  refine g_lst (ds := fourD q0) (seq_ref (g3 _ List.mem_cons_self)) (fun es z => by cases z) rfl ?_
  walk_at "go"
  refine a_lcS tg_name ?_
  walk_at "go"
  intro l4 hl4
  have ec : cutD (((p0, q0) :: rt).map fun r => D.ref r.1) (some 1) none = rt.map fun r => D.ref r.1 := by
    unfold cutD
    simp [HT.sIx]
    exact List.take_of_length_le (by rw [List.length_map]; exact Nat.le_refl _)
  rw [ec]
  have s7 : Sub μ (μ5.set l4 (.lst (rt.map fun r => D.ref r.1))) := sub_new s6 hl4
  have g7 : ∀ r ∈ rt, (μ5.set l4 (.lst (rt.map fun r => D.ref r.1))) r.1 = some (.lst (fourD r.2)) := fun r m => sub_new Sub.refl hl4 _ _ (g3 r (List.mem_cons_of_mem _ m))
  have h7 : (μ5.set l4 (.lst (rt.map fun r => D.ref r.1))) l4 = some (.lst (rt.map fun r => D.ref r.1)) := set_same
  generalize (μ5.set l4 (.lst (rt.map fun r => D.ref r.1))) = μ7 at s7 g7 h7 ⊢
  clear hl4 s6 g3 h5 ec
  refine ⟨l4, rt.map fun r => D.ref r.1, fun i acc μ' => acc = ((rt.take i).map (·.2)).map encR ∧ μ' = μ7, rfl, ⟨rfl, rfl⟩, fun i acc μ' ⟨_, e⟩ => by rw [e]; exact h7, ?_, ?_⟩
  · rintro i x acc μ' hx ⟨rfl, rfl⟩
    rw [List.getElem?_map] at hx
    obtain ⟨r, hr, rfl⟩ := Option.map_eq_some_iff.mp hx
    have il : i < rt.length := (List.getElem?_eq_some_iff.mp hr).1
    refine ⟨_, rfl, rfl, at_yes ?_⟩
    rw [if_pos rfl]
    walk_at "nf"
    walk_at "go"
    refine rc_tuple (ds := fourD r.2) (seq_ref (g7 r (List.mem_of_getElem? hr))) ?_
    refine ⟨?_, ?_, rfl⟩
    · rw [List.length_map, List.length_map, List.length_take]
      have := sizeLine_eq
      omega
    · rw [List.take_add_one, hr, List.map_append, List.map_append]
      rfl
  rintro acc μ' ⟨rfl, rfl⟩ l5 hl5
  rw [List.length_map, List.take_length]
  have s8 : Sub μ (μ'.set l5 (.lst ((rt.map (·.2)).map encR))) := sub_new s7 hl5
  have h8 : (μ'.set l5 (.lst ((rt.map (·.2)).map encR))) l5 = some (.lst ((rt.map (·.2)).map encR)) := set_same
  generalize (μ'.set l5 (.lst ((rt.map (·.2)).map encR))) = μ8 at s8 h8 ⊢
  clear hl5 s7 g7 h7
  have few2 : (rt.map (·.2)).length ≤ 1000 := by rw [List.length_map]; exact few
  generalize rt.map (·.2) = rows at s8 h8 few2 fin ⊢
  obtain ⟨wn, hn, ln, sn⟩ := q0
  dsimp only at fin ⊢
  refine g_name ?_
  walk_at "nf"
  walk_at "go"
  refine a_lc1 (fun d => .bl (wi d 2 1000000)) (fun _ => true) (ai_T ?_)
  walk_at "go"
  refine ⟨fun x hx => at_yes ⟨rfl, rfl⟩, fun x hx _ => ?_, fun l6 hl6 => ?_⟩
  · have hi : ∃ i : Int, x = .int i := by
      simp only [List.mem_cons, List.not_mem_nil, or_false] at hx
      rcases hx with rfl | rfl <;> exact ⟨_, rfl⟩
    obtain ⟨i, rfl⟩ := hi
    walk_at "nf"
    walk_at "go"
    refine ite_d (fun c1 => ?_) (fun c1 => ?_)
    · walk_at "go"
      exact ⟨by simp [wi, c1], rfl⟩
    · exact ⟨by simp [wi, c1], rfl⟩
  rw [show List.map (fun d => D.bl (wi d 2 1000000)) (List.filter (fun x => true) [D.int wn, D.int hn]) = [wi (.int wn) 2 1000000, wi (.int hn) 2 1000000].map D.bl from by rw [List.filter_eq_self.mpr (fun _ _ => rfl)]; rfl]
  have s9 : Sub μ (μ8.set l6 (.lst ([wi (.int wn) 2 1000000, wi (.int hn) 2 1000000].map D.bl))) := sub_new s8 hl6
  have h9 : (μ8.set l6 (.lst ([wi (.int wn) 2 1000000, wi (.int hn) 2 1000000].map D.bl))) l5 = some (.lst (rows.map encR)) := sub_new Sub.refl hl6 _ _ h8
  have h9a : (μ8.set l6 (.lst ([wi (.int wn) 2 1000000, wi (.int hn) 2 1000000].map D.bl))) l6 = some (.lst ([wi (.int wn) 2 1000000, wi (.int hn) 2 1000000].map D.bl)) := set_same
  show AA K _ _ (μ8.set l6 (.lst ([wi (.int wn) 2 1000000, wi (.int hn) 2 1000000].map D.bl))) _
  generalize (μ8.set l6 (.lst ([wi (.int wn) 2 1000000, wi (.int hn) 2 1000000].map D.bl))) = μ9 at s9 h9 h9a ⊢
  clear hl6 h8 s8
  walk_at "go"
  refine rc_all h9a ?_
  refine ⟨_, rfl, ?_⟩
  have none_ : ∀ μ', Sub μ μ' → madeOk (wn, hn, ln, sn) rows = false → Up Φ .non μ' := fun μ' sb e => fin false e μ' sb
  have mk : madeOk (wn, hn, ln, sn) rows = (wi (.int wn) 2 1000000 && wi (.int hn) 2 1000000 && wi (.int ln) 1 3 && wi (.int sn) 1 1000000 && (decide ((rows.map encR).length ≤ 16) && (rows.map encR).all (fun r => pr r wn hn ln) && decide ((rows.map encR).map spot).Nodup)) := rfl
  by_cases c12 : (wi (.int wn) 2 1000000 && wi (.int hn) 2 1000000) = true
  rotate_left
  · have c12 : (wi (.int wn) 2 1000000 && wi (.int hn) 2 1000000) = false := by simpa using c12
    rw [show [wi (.int wn) 2 1000000, wi (.int hn) 2 1000000].all id = false from by simpa [List.all_cons] using c12]
    walk_at "go"
    exact none_ _ s9 (by rw [mk, c12]; rfl)
  rw [show [wi (.int wn) 2 1000000, wi (.int hn) 2 1000000].all id = true from by simpa [List.all_cons] using c12]
  rw [c12] at mk
  walk_at "go"
  refine ite_d (fun d1 => ?_) (fun d1 => ?_)
  rotate_left
  · walk_at "go"
    exact none_ _ s9 (by rw [mk]; simp [wi, d1])
  walk_at "go"
  refine ite_nd (fun d2 => ?_) (fun d2 => ?_)
  · walk_at "go"
    exact none_ _ s9 (by rw [mk]; simp [wi, d1, d2])
  walk_at "go"
  refine ite_d (fun d3 => ?_) (fun d3 => ?_)
  rotate_left
  · walk_at "go"
    exact none_ _ s9 (by rw [mk]; simp [wi, d1, d2, d3])
  walk_at "go"
  refine ite_nd (fun d4 => ?_) (fun d4 => ?_)
  · walk_at "go"
    exact none_ _ s9 (by rw [mk]; simp [wi, d1, d2, d3, d4])
  have c3 : wi (.int ln) 1 3 = true := by simp [wi, d1, d2]
  have c4 : wi (.int sn) 1 1000000 = true := by simp [wi, d3, d4]
  rw [c3, c4] at mk
  refine s_next ?_
  refine s_seq ?_
  refine s_forK ?_
  walk_at "go"
  refine ⟨l5, rows.map encR, fun i τ' μ' => μ' = μ9 ∧ (∀ r ∈ rows.take i, pr (encR r) wn hn ln = true) ∧ ∃ o1 o2 o3 o4 : Option D, τ' = [some (.str s), some (.ref l2), some (.int wn), some (.int hn), some (.int ln), some (.int sn), some (.ref l5), o1, o2, o3, o4, none, none, none, none, none], rfl, ⟨rfl, by simp, _, _, _, _, rfl⟩, fun i τ' μ' ⟨e, _⟩ => by rw [e]; exact h9, ?_, ?_⟩
  · rintro i x τ' μ' hx ⟨rfl, al, o1, o2, o3, o4, rfl⟩
    rw [List.getElem?_map] at hx
    obtain ⟨r, hr, rfl⟩ := Option.map_eq_some_iff.mp hx
    obtain ⟨x, y, u, v⟩ := r
    have rm : (x, y, u, v) ∈ rows := List.mem_of_getElem? hr
    have bad : pr (encR (x, y, u, v)) wn hn ln = false → Up Φ .non μ' := fun e => none_ _ s9 (by
      have : ((rows.map encR).all fun r => pr r wn hn ln) = false := by
        rw [List.all_eq_false]
        exact ⟨_, List.mem_map.mpr ⟨_, rm, rfl⟩, by rw [e]; exact Bool.false_ne_true⟩
      rw [mk, this]
      simp)
    have pe : pr (encR (x, y, u, v)) wn hn ln = ((decide (0 < x) && decide (x < wn)) && (decide (0 < y) && decide (y < hn)) && (decide (0 ≤ u) && decide (u ≤ v) && decide (v < ln))) := rfl
    dsimp only [encR]
    walk_at "go"
    refine ite_d (fun e1 => ?_) (fun e1 => ?_)
    rotate_left
    · walk_at "go"
      exact bad (by rw [pe]; simp [e1])
    walk_at "go"
    refine ite_nd (fun e2 => ?_) (fun e2 => ?_)
    · walk_at "go"
      exact bad (by rw [pe]; simp [e1, e2])
    walk_at "go"
    refine ite_d (fun e3 => ?_) (fun e3 => ?_)
    rotate_left
    · walk_at "go"
      exact bad (by rw [pe]; simp [e1, e2, e3])
    walk_at "go"
    refine ite_nd (fun e4 => ?_) (fun e4 => ?_)
    · walk_at "go"
      exact bad (by rw [pe]; simp [e1, e2, e3, e4])
    walk_at "go"
    refine ite_d (fun e5 => ?_) (fun e5 => ?_)
    rotate_left
    · walk_at "go"
      exact bad (by rw [pe]; simp [e1, e2, e3, e4, e5])
    walk_at "go"
    refine ite_d (fun e6 => ?_) (fun e6 => ?_)
    rotate_left
    · walk_at "go"
      exact bad (by rw [pe]; simp [e1, e2, e3, e4, e5, e6])
    walk_at "go"
    refine ite_nd (fun e7 => ?_) (fun e7 => ?_)
    · walk_at "go"
      exact bad (by rw [pe]; simp [e1, e2, e3, e4, e5, e6, e7])
    walk_at "go"
    refine ⟨rfl, fun r hr2 => ?_, _, _, _, _, rfl⟩
    rw [List.take_add_one, hr, List.mem_append] at hr2
    rcases hr2 with z | z
    · exact al r z
    · rw [List.mem_singleton.mp z, pe]
      simp [e1, e2, e3, e4, e5, e6, e7]
  rintro τ' μ' ⟨rfl, al, o1, o2, o3, o4, rfl⟩
  rw [List.length_map, List.take_length] at al
  have c5 : ((rows.map encR).all fun r => pr r wn hn ln) = true := by
    rw [List.all_map]
    exact List.all_eq_true.mpr al
  rw [c5] at mk
  walk_at "go"
  refine ite_d (fun g16 => ?_) (fun g16 => ?_)
  · rw [if_pos rfl]
    walk_at "go"
    refine none_ _ s9 ?_
    have z : ¬ (rows.map encR).length ≤ 16 := by omega
    rw [mk]
    simp [z]
    intro z2
    rw [List.length_map] at z
    exact absurd z2 z
  have l16 : (rows.map encR).length ≤ 16 := by omega
  refine at_test ?_
  refine a_op ?_
  refine a_lenSetT (gs := (rows.map encR).map spot) ?_
  refine a_lcS tg_name ?_
  walk_at "go"
  refine ⟨l5, rows.map encR, fun i acc μ2 => acc = ((rows.map encR).take i).map (fun r => D.tup ((spot r).map D.int)) ∧ μ2 = μ', rfl, ⟨rfl, rfl⟩, fun i acc μ2 ⟨_, e⟩ => by rw [e]; exact h9, ?_, ?_⟩
  · rintro i x acc μ2 hx ⟨rfl, rfl⟩
    have il : i < (rows.map encR).length := (List.getElem?_eq_some_iff.mp hx).1
    have hx2 := hx
    rw [List.getElem?_map] at hx
    obtain ⟨r, hr, rfl⟩ := Option.map_eq_some_iff.mp hx
    refine ⟨_, rfl, rfl, at_yes ?_⟩
    rw [if_pos rfl]
    walk_at "nf"
    walk_at "go"
    refine ⟨?_, ?_, rfl⟩
    · rw [List.length_map, List.length_take]
      have := sizeLine_eq
      omega
    · rw [List.take_add_one, hx2, List.map_append]
      rfl
  rintro acc μ2 ⟨rfl, rfl⟩ l7 hl7
  rw [List.take_length]
  have sA : Sub μ (μ2.set l7 (.lst ((rows.map encR).map fun r => D.tup ((spot r).map D.int)))) := sub_new s9 hl7
  have hA : (μ2.set l7 (.lst ((rows.map encR).map fun r => D.tup ((spot r).map D.int)))) l5 = some (.lst (rows.map encR)) := sub_new Sub.refl hl7 _ _ h9
  refine ⟨l7, rfl, by rw [set_same]; simp only [List.map_map]; rfl, by rw [List.length_map]; omega, fun n hnum => ?_⟩
  generalize (μ2.set l7 (.lst ((rows.map encR).map fun r => D.tup ((spot r).map D.int)))) = μA at sA hA ⊢
  clear hl7
  have nl := num_lt hnum
  rw [List.length_map] at nl
  walk_at "go"
  have no : ∀ b, decide ((rows.map encR).map spot).Nodup = b → madeOk (wn, hn, ln, sn) rows = b := fun b e => by
    rw [mk, e, decide_eq_true l16]
    rfl
  refine ite_d (fun gl => ?_) (fun gl => ?_)
  · walk_at "go"
    exact none_ _ sA (no _ (decide_eq_false (nl.mp (by omega))))
  have nd : ((rows.map encR).map spot).Nodup := Classical.byContradiction fun z => gl (by have := nl.mpr z; omega)
  walk_at "go"
  refine rc_tuple (seq_ref hA) ?_
  walk_at "go"
  exact fin true (no _ (decide_eq_true nd)) _ sA))) only [↓Hold.on]
theorem num7 {n : Int} (h0 : 0 ≤ n) (h1 : n ≤ 1000000) : (numS n).length ≤ 7 := by
  rw [TL.len_tl, tl_numS h0]
  exact TL.numL_len (by decide) (show n.toNat < 10 ^ 7 by omega)
theorem q4S31 {q : Q4} (a : (numS q.1).length ≤ 7) (b : (numS q.2.1).length ≤ 7) (c : (numS q.2.2.1).length ≤ 7) (d : (numS q.2.2.2).length ≤ 7) : (q4S q).length ≤ 31 := by
  rw [q4S_app]
  simp only [app_len]
  rw [show (Str.ofString " ").length = 1 from rfl]
  omega
theorem brd_len {q : Q4} {rows : List R4} (k : ab (.int q.1) (.int q.2.1) (.tup (rows.map encR)) (.int q.2.2.1) (.int q.2.2.2) = true) : (brdS q rows).length ≤ 600 := by
  simp only [ab, Bool.and_eq_true, decide_eq_true_eq, List.length_map] at k
  obtain ⟨⟨⟨⟨k1, k2⟩, k3⟩, k4⟩, ⟨k6, k5⟩, _⟩ := k
  simp only [wi, Bool.and_eq_true, decide_eq_true_eq] at k1 k2 k3 k4
  unfold brdS
  refine Nat.le_trans (join_len _ _) ?_
  have sl := sum_le (ws := q4S q :: rows.map q4S) (k := 31) fun w hw => by
    rcases List.mem_cons.mp hw with rfl | hw
    · exact q4S31 (num7 (by omega) (by omega)) (num7 (by omega) (by omega)) (num7 (by omega) (by omega)) (num7 (by omega) (by omega))
    · obtain ⟨r, hr, rfl⟩ := List.mem_map.mp hw
      have h5 := List.all_eq_true.mp k5 _ (List.mem_map.mpr ⟨r, hr, rfl⟩)
      obtain ⟨x, y, f, g, e, a1, a2, a3, a4⟩ := pr_int h5
      simp only [encR, D.tup.injEq, List.cons.injEq, D.int.injEq, and_true] at e
      obtain ⟨e1, e2, e3, e4⟩ := e
      exact q4S31 (num7 (by omega) (by omega)) (num7 (by omega) (by omega)) (num7 (by omega) (by omega)) (num7 (by omega) (by omega))
  rw [List.length_cons, List.length_map] at sl ⊢
  rw [show (" ; " : Str).length = 3 from rfl]
  omega
theorem brd_sub {C : Addr} {μ μ' : M} {b : Addr} {w h : Int} {rows : List R4} {l s : Int} {sp kg kt : Addr} (BR : Brd C μ b w h rows l s sp kg kt) (sb : Sub μ μ') : Brd C μ' b w h rows l s sp kg kt := by
  obtain ⟨dx, gl, tl, lvs, hb, hsp, hkg, hkt⟩ := BR
  exact ⟨dx, gl, tl, lvs, sb _ _ hb, sb _ _ hsp, sb _ _ hkg, sb _ _ hkt⟩
/-- a list of texts, and others shown behind it -/
theorem cat_on {K : PySem.W.Frag} {μ : M} {Φ : D → M → Prop} {a b l : Addr} {X : MO} {ts : List Str} (us : List Str) (g : μ a = some (.lst (ts.map D.str))) (few : ts.length ≤ 100) (fu : us.length ≤ 100) (gb : μ b = some X) (hl : μ l = none)
    (q : ∀ q2 μ', μ' q2 = some (.lst ((ts ++ us).map D.str)) → μ' b = some X → Φ (.ref q2) μ') : RO K rCat (.ref a) (.ref l) (μ.set l (.lst (us.map D.str))) Φ := by
  have na : a ≠ l := by rintro rfl; rw [g] at hl; cases hl
  have nb : b ≠ l := by rintro rfl; rw [gb] at hl; cases hl
  refine ro_cat (ds := ts.map D.str) (es := us.map D.str) (by rw [set_ne na]; exact g) set_same (by rw [List.length_map, List.length_map]; exact Nat.le_trans (show ts.length + us.length ≤ 200 by omega) (by decide)) fun q2 hq2 => ?_
  have nb2 : b ≠ q2 := by rintro rfl; rw [set_ne nb, gb] at hq2; cases hq2
  exact q q2 _ (by rw [set_same, List.map_append]) (by rw [set_ne nb2, set_ne nb]; exact gb)
def P_l_right : PT3 := fun ds μ Φ => ∃ s : Str, ds = [.str s] ∧ s.length ≤ lng ∧ Φ (.bl true) μ
theorem len_l_right (ds : List D) (μ : M) (Φ : D → M → Prop) (h : P_l_right ds μ Φ) : ds.length = 1 := by
  obtain ⟨_, rfl, _⟩ := h
  rfl
def lawM3 (ns : List Int) : Int := if (if ((ns.map D.int).length : Int) < 3 then ((ns.map D.int).length : Int) else 3) > 1 then (if ((ns.map D.int).length : Int) < 3 then ((ns.map D.int).length : Int) else 3) else 1
theorem lawM3_le (ns : List Int) : 1 ≤ lawM3 ns ∧ lawM3 ns ≤ 3 := by
  unfold lawM3
  split <;> split <;> omega
theorem ok_l_right {f : Addr} {fd : FuncData} (F : Fun K "_law_right" "_law_right" s_l_right f fd) (B : Bs mg) {C_Board : Addr} (K_Board : Cl_Board K C_Board) (O_Board : OwnC K C_Board) (V_Board : Cst mg "Board" (.ref C_Board)) {C_read_board : Addr} (V_read_board : Cst mg "read_board" (.ref C_read_board)) (G_board_eq : Mth P w K mg base C_Board "__eq__" ["self", "other"] 2 (spI K (P_board_eq C_Board))) (G_board_made_of : Mth P w K mg base C_Board "made_of" ["self"] 1 (spI K (P_board_made_of C_Board))) (G_l_board : Def P w K mg base "_law_board" ["_law_made"] 8 (spI K (P_l_board C_Board))) (G_l_board_in : Def P w K mg base "_law_board_in" ["_law_text_here"] 4 (spI K P_l_board_in)) (G_l_read : Def P w K mg base "_law_read" ["_law_reader", "_law_text_here"] 10 (spI K (P_l_read C_read_board C_Board))) (G_show_board : Def P w K mg base "show_board" ["board"] 4 (spI K (P_show_board C_Board))) : FnOk P w K mg base CX0 12 f fd ["_law_text_here"] (spI K P_l_right) := by
  refine Hold.out ?_
  simp (disch := (
  refine Hold.as ?_
  with_unfolding_all (
  refine F.ok sc_l_right (fun vs H Q E h => spI_len h len_l_right) (fun cdv A outer s H vs Q E hr h => ?_)
  have hu65 := hu65_of hr
  refine ⟨_, (pss_cons (ps_set (i := 1) sc_l_right.nd rfl (by first | exact Or.inl rfl | exact Or.inr rfl) (pe_def G_l_board_in (hr.mono (by decide)) (by rfl) (pa_cons (pv 0) pa_nil)))
      (pss_cons (ps_set (i := 2) sc_l_right.nd rfl (by first | exact Or.inl rfl | exact Or.inr rfl) (pe_def G_l_read (hr.mono (by decide)) (by rfl) (pa_cons (pe_cst V_read_board (by rfl)) (pa_cons (pv 0) pa_nil))))
      (pss_cons (ps_if (pt_cmpR op_isN (pv 1) pe_non (by first | exact nomark _ | rfl)) (pss_one (ps_ret (pe_and (pe_callB (call_isiK1 (K := K) rfl) (by rfl) B.b_isinstance (by decide +kernel) (pa_cons (pv 2) (pa_cons (pe_bltn (v := .ty "str") (by rfl) B.b_str (by decide +kernel) rfl) pa_nil))) (pe_one (pe_cmpR op_eq (pv 2) pe_str (by first | exact nomark _ | rfl)))))) pss_nil)
      (pss_one (ps_ret (pe_and (pe_callB (call_isiK1 (K := K) rfl) (by rfl) B.b_isinstance (by decide +kernel) (pa_cons (pv 2) (pa_cons (pe_cst V_Board (by rfl)) pa_nil))) (pe_and (pe_cmpR (op_eqDK (K := K) rfl hr.units) (pe_mthN0 G_board_made_of (hr.mono (by decide)) (pv 2)) (pv 1) (by first | exact nomark _ | rfl)) (pe_and (pe_cmpR (OWN.op_eqO G_board_eq (hr.mono (by decide))) (pv 2) (pe_def G_l_board (hr.mono (by decide)) (by rfl) (pa_cons (pv 1) pa_nil)) (by first | exact nomark _ | rfl)) (pe_one (pe_cmpR op_eq (pe_def G_show_board (hr.mono (by decide)) (by rfl) (pa_cons (pv 2) pa_nil)) (pv 0) (by first | exact nomark _ | rfl))))))))))), body_okU h (fun ds μ Φ p => ?_)⟩
  (try dsimp only [cxOf, Cx.nox, Cx.wish, List.map_cons, List.map_nil])
  obtain ⟨s, rfl, hs, q⟩ := p
  show AS K _ [some _, none, none] _ _
  walk_at "go"
  refine ⟨s, rfl, hs, ?_⟩
  walk_at "go"
  refine ⟨_, "str", true, rfl, rfl, by decide +kernel, fun h => (by cases h), fun _ => ⟨s, rfl, hs, fun w rows er μ' a sp kg kt sb n1 n2 n3 n4 BR => ?_, fun er => ?_⟩⟩
  · rw [er]
    dsimp only [resD]
    obtain ⟨eb, mk⟩ := board_back er
    obtain ⟨ok, oks, few⟩ := ab_q4 (q := w) mk
    obtain ⟨dx, gl, tl, lvs, hb, _⟩ := id BR
    walk_at "go"
    rw [if_neg (show ¬ (isN (D.tup _) = true) from Bool.false_ne_true)]
    walk_at "go"
    refine rc_isiO hb K_Board.cls O_Board.isi (.inr ⟨_, rfl, rfl⟩) O_Board.self ?_
    walk_at "go"
    refine ⟨a, dx, _, rfl, hb, rfl, ?_⟩
    walk_at "go"
    refine ⟨a, _, _, _, _, _, _, _, _, rfl, BR, ?_⟩
    walk_at "go"
    refine ro_eqD (okn_mk.ok (by decide)) (okn_mk.ok (by decide)) ?_
    rw [eqv_mk, same_self]
    refine ⟨_, rfl, ?_⟩
    rw [if_pos rfl]
    walk_at "go"
    refine ⟨_, _, _, _, _, rfl, mk, fun μ2 b2 sp2 kg2 kt2 sb2 m1 m2 m3 m4 BR2 => ?_⟩
    have BR3 := brd_sub BR sb2
    obtain ⟨dx3, gl3, tl3, lvs3, hb3, _⟩ := id BR3
    obtain ⟨dx4, gl4, tl4, lvs4, hb4, _⟩ := id BR2
    refine ro_eqO hb3 hb4 ⟨a, _, _, _, _, _, _, _, _, _, rfl, BR3, .inl ⟨b2, _, _, _, _, _, _, _, _, rfl, BR2, ?_⟩⟩
    rw [same_self]
    refine ⟨_, rfl, ?_⟩
    rw [if_pos rfl]
    walk_at "go"
    refine ⟨a, _, _, _, _, _, _, _, _, rfl, BR3, ok, oks, few, ?_⟩
    walk_at "go"
    rw [decide_eq_true (show brdS (w.1, w.2.1, w.2.2.1, w.2.2.2) rows = s from eb)]
    exact up_of (fun a m e => sb2 _ _ (sb _ _ e)) q
  · rw [er]
    walk_at "go"
    rw [if_pos (show isN (resD none) = true from rfl)]
    walk_at "go"
    rw [decide_eq_true rfl]
    exact up q))) only [↓Hold.on]
theorem ok_law {f : Addr} {fd : FuncData} (F : Fun K "law" "law" s_law f fd) (B : Bs mg) {C_Board : Addr} (K_Board : Cl_Board K C_Board) {C_read_board : Addr} (V_read_board : Cst mg "read_board" (.ref C_read_board)) (G_board_str : Mth P w K mg base C_Board "__str__" ["self"] 1 (spI K (P_board_str C_Board))) (G_l_bag : Def P w K mg base "_law_bag" ["_law_script", "_law_at"] 2 (spI K P_l_bag)) (G_l_bent : Def P w K mg base "_law_bent" ["_law_bag_here", "_law_text_here"] 4 (spI K P_l_bent)) (G_l_board : Def P w K mg base "_law_board" ["_law_made"] 8 (spI K (P_l_board C_Board))) (G_l_made_of : Def P w K mg base "_law_made_of" ["_law_bag_here", "_law_most"] 3 (spI K P_l_made_of)) (G_l_read : Def P w K mg base "_law_read" ["_law_reader", "_law_text_here"] 10 (spI K (P_l_read C_read_board C_Board))) (G_l_right : Def P w K mg base "_law_right" ["_law_text_here"] 12 (spI K P_l_right)) (G_l_text : Def P w K mg base "_law_text" ["_law_made"] 1 (spI K P_l_text)) (G_l_word_bent : Def P w K mg base "_law_word_bent" ["_law_bag_here", "_law_text_here"] 3 (spI K P_l_word_bent)) (G_show_board : Def P w K mg base "show_board" ["board"] 4 (spI K (P_show_board C_Board))) : FnOk P w K mg base CX0 13 f fd ["_law_script"] (spI K P_law) := by
  refine F.ok sc_law (fun vs H Q E h => spI_len h len_law) (fun cdv A outer s H vs Q E hr h => ?_)
  have hu65 := hu65_of hr
  refine ⟨_, (pss_cons (ps_for PassesOwn.never rfl (pi_range1 (by rfl) B.b_range (pa_cons (pe_callB (call_max2 rfl) (by rfl) B.b_max (by decide +kernel) (pa_cons pe_int (pa_cons (pe_callB (call_min2 rfl) (by rfl) B.b_min (by decide +kernel) (pa_cons pe_int (pa_cons (pe_callB (call_lenK (K := K) rfl) (by rfl) B.b_len (by decide +kernel) (pa_cons (pv 0) pa_nil)) pa_nil))) pa_nil))) pa_nil)) (pg_name (i := 1) sc_law.nd rfl (by first | exact Or.inl rfl | exact Or.inr rfl))
      (pss_cons (ps_set (i := 2) sc_law.nd rfl (by first | exact Or.inl rfl | exact Or.inr rfl) (pe_def G_l_bag (hr.mono (by decide)) (by rfl) (pa_cons (pv 0) (pa_cons (pv 1) pa_nil))))
      (pss_cons (ps_set (i := 3) sc_law.nd rfl (by first | exact Or.inl rfl | exact Or.inr rfl) (pe_def G_l_made_of (hr.mono (by decide)) (by rfl) (pa_cons (pv 2) (pa_cons pe_int pa_nil))))
      (pss_cons (ps_set (i := 4) sc_law.nd rfl (by first | exact Or.inl rfl | exact Or.inr rfl) (pe_def G_l_text (hr.mono (by decide)) (by rfl) (pa_cons (pv 3) pa_nil)))
      (pss_cons (ps_set (i := 5) sc_law.nd rfl (by first | exact Or.inl rfl | exact Or.inr rfl) (pe_def G_l_board (hr.mono (by decide)) (by rfl) (pa_cons (pv 3) pa_nil)))
      (pss_cons (ps_if (PW.pt (pw_or (pt_cmpR op_ne (pe_def G_show_board (hr.mono (by decide)) (by rfl) (pa_cons (pv 5) pa_nil)) (pv 4) (by first | exact nomark _ | rfl)) (pw_or (pt_cmpR op_ne (pe_callTy (OWN.cr_strO G_board_str (hr.mono (by decide))) (by rfl) B.b_str (by decide +kernel) (pa_cons (pv 5) pa_nil)) (pv 4) (by first | exact nomark _ | rfl)) (pw_or1 (pt_not (pt_val (pe_def G_l_right (hr.mono (by decide)) (by rfl) (pa_cons (pv 4) pa_nil)))))))) (pss_one (ps_ret pe_bl)) pss_nil)
      (pss_cons (ps_set (i := 6) sc_law.nd rfl (by first | exact Or.inl rfl | exact Or.inr rfl) (pe_op op_cat (pe_lc (own := [("_law_turn", 10)]) (g := gName 10) (tt := tYes) rfl sc_law.nd (pi_range1 (by rfl) B.b_range (pa_cons pe_int pa_nil)) (blkOk_by (own := [("_law_turn", 10)]) (N := N_law) (sc := defScope s_law) (by decide +kernel)) (fun _ _ _ _ _ => (pg_name (i := 10) sc_law.nd rfl (by first | exact Or.inl rfl | exact Or.inr rfl))) (fun _ _ _ _ _ => pts_nil) (fun _ _ _ _ _ => (pe_def G_l_bent (hr.mono (by decide)) (by rfl) (pa_cons (pv 2) (pa_cons (pv 4) pa_nil))))) (pe_lst (pa_cons (pe_def G_l_word_bent (hr.mono (by decide)) (by rfl) (pa_cons (pv 2) (pa_cons (pv 4) pa_nil))) (pa_cons (pe_def G_l_word_bent (hr.mono (by decide)) (by rfl) (pa_cons (pv 2) (pa_cons (pv 4) pa_nil))) pa_nil)))))
      (pss_cons (ps_set (i := 6) sc_law.nd rfl (by first | exact Or.inl rfl | exact Or.inr rfl) (pe_op op_cat (pv 6) (pe_lst (pa_cons (pe_def G_l_bent (hr.mono (by decide)) (by rfl) (pa_cons (pv 2) (pa_cons (pe_def G_l_bent (hr.mono (by decide)) (by rfl) (pa_cons (pv 2) (pa_cons pe_str pa_nil))) pa_nil))) (pa_cons pe_str (pa_cons pe_str (pa_cons pe_str (pa_cons pe_str (pa_cons pe_str (pa_cons pe_str pa_nil))))))))))
      (pss_cons (ps_set (i := 6) sc_law.nd rfl (by first | exact Or.inl rfl | exact Or.inr rfl) (pe_op op_cat (pv 6) (pe_lst (pa_cons pe_str (pa_cons pe_str (pa_cons pe_str (pa_cons pe_str pa_nil)))))))
      (pss_cons (ps_set (i := 6) sc_law.nd rfl (by first | exact Or.inl rfl | exact Or.inr rfl) (pe_op op_cat (pv 6) (pe_lst (pa_cons pe_str (pa_cons pe_str (pa_cons pe_str (pa_cons pe_str (pa_cons pe_str (pa_cons pe_str pa_nil)))))))))
      (pss_cons (ps_set (i := 6) sc_law.nd rfl (by first | exact Or.inl rfl | exact Or.inr rfl) (pe_op op_cat (pv 6) (pe_lst (pa_cons pe_str (pa_cons pe_str (pa_cons pe_str (pa_cons (pe_op op_add_str pe_str pe_str) (pa_cons (pe_op op_add_str pe_str (pe_op op_mul_sN pe_str pe_int)) (pa_cons (pe_op op_add_str (pv 4) pe_str) pa_nil)))))))))
      (pss_cons (ps_expr (pe_bm PySem.F.plainAttrs_list PySem.F.slot_list_append PySem.F.type_list_append mt_append (pv 6) (pa_cons (pe_op op_add_str pe_str (pe_joinK (K := K) rfl pe_str (pe_lc (own := [("_law_one", 11)]) (g := gName 11) (tt := tYes) rfl sc_law.nd (pi_range1 (by rfl) B.b_range (pa_cons pe_int pa_nil)) (blkOk_by (own := [("_law_one", 11)]) (N := N_law) (sc := defScope s_law) (by decide +kernel)) (fun _ _ _ _ _ => (pg_name (i := 11) sc_law.nd rfl (by first | exact Or.inl rfl | exact Or.inr rfl))) (fun _ _ _ _ _ => pts_nil) (fun _ _ _ _ _ => (pe_op op_add_str (pe_op op_add_str pe_str (pe_callTy call_str_int (by rfl) B.b_str (by decide +kernel) (pa_cons (pe_op op_add pe_int (pv 11)) pa_nil))) pe_str))))) pa_nil)))
      (pss_cons (ps_for PassesOwn.never rfl (pi_listK (K := K) rfl (pv 6)) (pg_name (i := 7) sc_law.nd rfl (by first | exact Or.inl rfl | exact Or.inr rfl))
      (pss_one (ps_if (pt_not (pt_val (pe_def G_l_right (hr.mono (by decide)) (by rfl) (pa_cons (pv 7) pa_nil)))) (pss_one (ps_ret pe_bl)) pss_nil)))
      (pss_one (ps_for PassesOwn.never rfl (pi_tupK (K := K) rfl (pe_tup (pa_cons pe_non (pa_cons pe_int (pa_cons pe_bl (pa_cons (pv 3) (pa_cons (pe_lst (pa_cons (pv 4) pa_nil)) pa_nil))))))) (pg_name (i := 8) sc_law.nd rfl (by first | exact Or.inl rfl | exact Or.inr rfl))
      (pss_cons (ps_set (i := 9) sc_law.nd rfl (by first | exact Or.inl rfl | exact Or.inr rfl) (pe_def G_l_read (hr.mono (by decide)) (by rfl) (pa_cons (pe_cst V_read_board (by rfl)) (pa_cons (pv 8) pa_nil))))
      (pss_one (ps_if (PW.pt (pw_or (pt_not (pt_val (pe_callB (call_isiK1 (K := K) rfl) (by rfl) B.b_isinstance (by decide +kernel) (pa_cons (pv 9) (pa_cons (pe_bltn (v := .ty "str") (by rfl) B.b_str (by decide +kernel) rfl) pa_nil))))) (pw_or1 (pt_cmpR op_ne (pv 9) pe_str (by first | exact nomark _ | rfl))))) (pss_one (ps_ret pe_bl)) pss_nil))))))))))))))))))
      (pss_one (ps_ret pe_bl))), body_okU h (fun ds μ Φ p => ?_)⟩
  (try dsimp only [cxOf, Cx.nox, Cx.wish, List.map_cons, List.map_nil])
  obtain ⟨ns, rfl, hl, q⟩ := p
  show AS K _ [some _, none, none, none, none, none, none, none, none, none, none, none] _ _
  walk_at "go"
  refine s_for1 (lawM3 ns) (fun i τ' μ' => ∃ o1 o2 o3 o4 o5 o6 o7 o8 o9 o10 o11 : Option D, τ' = [some (.rol (ns.map D.int)), o1, o2, o3, o4, o5, o6, o7, o8, o9, o10, o11]) ?h ?hs ?hd
  case h =>
    walk_at "go"
    refine ⟨rfl, ?_, ?_, ?_⟩
    · have := lawM3_le ns; omega
    · have := lawM3_le ns; omega
    · exact ⟨_, _, _, _, _, _, _, _, _, _, _, rfl⟩
  case hd =>
    rintro τ' μ' ⟨o1, o2, o3, o4, o5, o6, o7, o8, o9, o10, o11, rfl⟩
    walk_at "go"
    exact up (q _)
  case hs =>
    rintro i τ' μ' hi ⟨o1, o2, o3, o4, o5, o6, o7, o8, o9, o10, o11, rfl⟩
    have hi6 : (i : Int) ≤ 6 := by have := lawM3_le ns; omega
    walk_at "go"
    refine use_bag (by omega) (by omega) fun b c m hb hm => ?_
    walk_at "go"
    refine use_made set_same hm (by decide) (by decide) fun w h rows fl gap c1 m1 MD hm1 => ?_
    rw [set_set]
    have gb0 : (μ'.set b (.lst [.int c1, .int m1])) b = some (.lst [.int c1, .int m1]) := set_same
    generalize μ'.set b (.lst [.int c1, .int m1]) = μ0 at gb0 ⊢
    clear hb hm
    obtain ⟨ok, oks, few⟩ := ab_q4 (q := (w, h, fl, gap)) MD.ok
    have wt := brd_len (q := (w, h, fl, gap)) (rows := rows) MD.ok
    walk_at "go"
    refine ⟨w, h, rows, fl, gap, rfl, ok, oks, few, ?_⟩
    walk_at "go"
    refine ⟨w, h, rows, fl, gap, rfl, MD.ok, fun μ1 bd sp kg kt sb n1 n2 n3 n4 BR => ?_⟩
    have gb1 := sb _ _ gb0
    walk_at "go"
    refine ⟨bd, w, h, rows, fl, gap, sp, kg, kt, rfl, BR, ok, oks, few, ?_⟩
    have wl : (brdS (w, h, fl, gap) rows).length ≤ lng := Nat.le_trans wt (by decide)
    walk_at "go"
    refine ite_nd (fun z => absurd rfl z) (fun _ => ?_)
    walk_at "go"
    obtain ⟨dx, gl, tl, lvs, hbd, _⟩ := id BR
    refine rc_strO hbd ⟨bd, w, h, rows, fl, gap, sp, kg, kt, rfl, BR, ok, oks, few, _, rfl, ?_⟩
    walk_at "go"
    refine ite_nd (fun z => absurd rfl z) (fun _ => ?_)
    walk_at "go"
    refine ⟨_, rfl, wl, ?_⟩
    clear BR hbd lvs n1 n2 n3 n4 sb gb0 oks ok few
    generalize brdS (w, h, fl, gap) rows = S at wt wl ⊢
    walk_at "go"
    simp only [Bool.not_true, Bool.false_eq_true, if_false]
    walk_at "go"
    refine a_lc tg_name (ai_1 ?_)
    walk_at "go"
    refine ⟨by decide, by decide, fun j acc μ2 => ∃ (zs : List Str) (c m : Int), zs.length = j ∧ (∀ z ∈ zs, z.length ≤ lng) ∧ acc = zs.map D.str ∧ BgOk m ∧ μ2 = μ1.set b (.lst [.int c, .int m]), ⟨[], c1, m1, rfl, by simp, rfl, hm1, (set_id gb1).symm⟩, ?_, ?_⟩
    · rintro j e acc μ2 he ⟨zs, c2, m2, lz, hz, rfl, hm2, rfl⟩
      have hj : j < 4 := by
        have := (List.getElem?_eq_some_iff.mp he).1
        simpa using this
      refine ⟨_, rfl, rfl, ?_⟩
      refine at_yes ?_
      rw [if_pos rfl]
      walk_at "nf"
      walk_at "go"
      refine ⟨b, S, c2, m2, rfl, set_same, hm2, Nat.le_trans wt (by decide), fun z c3 m3 z1 hm3 => ?_⟩
      refine ⟨by rw [List.length_map]; exact Nat.lt_of_le_of_lt (show zs.length ≤ 4 by omega) (by decide), zs ++ [z], c3, m3, by simp [lz], fun f hf => (List.mem_append.mp hf).elim (hz f) fun e => ?_, by simp, hm3, by rw [set_set]⟩
      rw [List.mem_singleton.mp e]
      exact Nat.le_trans z1 (Nat.le_trans (Nat.add_le_add_right wt 2) (by decide))
    rintro acc μ2 ⟨zs, c2, m2, lz, hz, rfl, hm2, rfl⟩ p6 hp6
    replace lz : zs.length = 4 := by rw [lz]; rfl
    have hp6' : (μ1.set b (.lst [.int c2, .int m2])) p6 = none := hp6
    have n6b : p6 ≠ b := by rintro rfl; rw [set_same] at hp6'; cases hp6'
    have gb7 : ((μ1.set b (.lst [.int c2, .int m2])).set p6 (.lst (zs.map D.str))) b = some (.lst [.int c2, .int m2]) := by rw [set_ne (Ne.symm n6b)]; exact set_same
    have g67 : ((μ1.set b (.lst [.int c2, .int m2])).set p6 (.lst (zs.map D.str))) p6 = some (.lst (zs.map D.str)) := set_same
    show AE K _ _ ((μ1.set b (.lst [.int c2, .int m2])).set p6 (.lst (zs.map D.str))) _
    generalize ((μ1.set b (.lst [.int c2, .int m2])).set p6 (.lst (zs.map D.str))) = μ7 at gb7 g67 ⊢
    clear hp6 hp6' gb1
    walk_at "go"
    refine ⟨b, S, c2, m2, rfl, gb7, hm2, Nat.le_trans wt (by decide), fun z4 c3 m3 hz4 hm3 => ?_⟩
    walk_at "go"
    refine ⟨b, S, c3, m3, rfl, set_same, hm3, Nat.le_trans wt (by decide), fun z5 c4 m4 hz5 hm4 => ?_⟩
    rw [set_set]
    have gb8 : (μ7.set b (.lst [.int c4, .int m4])) b = some (.lst [.int c4, .int m4]) := set_same
    have g68 : (μ7.set b (.lst [.int c4, .int m4])) p6 = some (.lst (zs.map D.str)) := by rw [set_ne n6b]; exact g67
    generalize μ7.set b (.lst [.int c4, .int m4]) = μ8 at gb8 g68 ⊢
    clear gb7 g67 hm2 hm3
    walk_at "go"
    intro q1 hq1
    refine cat_on [z4, z5] g68 (by omega) (Nat.le_of_ble_eq_true rfl) gb8 hq1 fun q2 μ9 g9 gb9 => ?_
    have hz9 : ∀ z ∈ zs ++ [z4, z5], z.length ≤ lng := by
      intro z h
      simp only [List.mem_append, List.mem_cons, List.not_mem_nil, or_false] at h
      rcases h with h | rfl | rfl
      · exact hz z h
      · exact hz4
      · exact hz5
    have l9 : (zs ++ [z4, z5]).length = 6 := by rw [List.length_append, lz]; rfl
    generalize zs ++ [z4, z5] = t9 at g9 hz9 l9
    clear hq1 gb8 g68 hz4 hz5 hz lz
    walk_at "go"
    refine ⟨b, "9 9 1 1 ; 4 5 0 0", c4, m4, rfl, gb9, hm4, by decide +kernel, fun z6 c5 m5 hz6 hm5 => ?_⟩
    have hz6' : z6.length ≤ 20 := Nat.le_trans hz6 (by decide +kernel)
    walk_at "go"
    refine ⟨b, z6, c5, m5, rfl, set_same, hm5, Nat.le_trans hz6' (by decide), fun z7 c6 m6 hz7 hm6 => ?_⟩
    rw [set_set]
    have n2b : q2 ≠ b := by
      rintro rfl
      rw [gb9] at g9
      have := MO.lst.inj (Option.some.inj g9)
      have := congrArg List.length this
      rw [List.length_map, l9] at this
      cases this
    have gbA : (μ9.set b (.lst [.int c6, .int m6])) b = some (.lst [.int c6, .int m6]) := set_same
    have gA : (μ9.set b (.lst [.int c6, .int m6])) q2 = some (.lst (t9.map D.str)) := by rw [set_ne n2b]; exact g9
    generalize μ9.set b (.lst [.int c6, .int m6]) = μA at gbA gA ⊢
    clear gb9 g9 hm4 hm5
    walk_at "go"
    intro q3 hq3
    refine cat_on [z7, "", " ", ";", " ; ", "9 9 1", "9 9 1 1 ;"] gA (by omega) (Nat.le_of_ble_eq_true rfl) gbA hq3 fun q4 μB gB gbB => ?_
    have hzB : ∀ z ∈ t9 ++ ([z7, "", " ", ";", " ; ", "9 9 1", "9 9 1 1 ;"] : List Str), z.length ≤ lng := by
      intro z h
      simp only [List.mem_append, List.mem_cons, List.not_mem_nil, or_false] at h
      rcases h with h | rfl | rfl | rfl | rfl | rfl | rfl | rfl
      · exact hz9 z h
      · exact Nat.le_trans hz7 (Nat.le_trans (Nat.add_le_add_right hz6' 2) (by decide))
      all_goals decide +kernel
    have lB : (t9 ++ ([z7, "", " ", ";", " ; ", "9 9 1", "9 9 1 1 ;"] : List Str)).length = 13 := by rw [List.length_append, l9]; rfl
    generalize t9 ++ ([z7, "", " ", ";", " ; ", "9 9 1", "9 9 1 1 ;"] : List Str) = tB at gB hzB lB
    clear hq3 gA gbA hz9 l9 hz6 hz6' hz7 n2b
    walk_at "go"
    intro q5 hq5
    refine cat_on ["9 9 1 1 ; 4 5 0", "9 9 1 1 ; 4 5 0 0 ; 4 5 0 0", "9 9 1 1 ; 0 5 0 0", "9 9 1 1 ; 9 5 0 0"] gB (by omega) (Nat.le_of_ble_eq_true rfl) gbB hq5 fun q6 μC gC gbC => ?_
    have hzC : ∀ z ∈ tB ++ (["9 9 1 1 ; 4 5 0", "9 9 1 1 ; 4 5 0 0 ; 4 5 0 0", "9 9 1 1 ; 0 5 0 0", "9 9 1 1 ; 9 5 0 0"] : List Str), z.length ≤ lng := by
      intro z h
      simp only [List.mem_append, List.mem_cons, List.not_mem_nil, or_false] at h
      rcases h with h | rfl | rfl | rfl | rfl
      · exact hzB z h
      all_goals decide +kernel
    have lC : (tB ++ (["9 9 1 1 ; 4 5 0", "9 9 1 1 ; 4 5 0 0 ; 4 5 0 0", "9 9 1 1 ; 0 5 0 0", "9 9 1 1 ; 9 5 0 0"] : List Str)).length = 17 := by rw [List.length_append, lB]; rfl
    generalize tB ++ (["9 9 1 1 ; 4 5 0", "9 9 1 1 ; 4 5 0 0 ; 4 5 0 0", "9 9 1 1 ; 0 5 0 0", "9 9 1 1 ; 9 5 0 0"] : List Str) = tC at gC hzC lC
    clear hq5 gB gbB hzB lB
    walk_at "go"
    intro q7 hq7
    refine cat_on ["9 9 4 1", "9 9 2 1 ; 4 5 1 0", "9 9 1 1 ; 4 5 0 1", "1 9 1 1", "9 9 1 0", "1000001 9 1 1"] gC (by omega) (Nat.le_of_ble_eq_true rfl) gbC hq7 fun q8 μD gD gbD => ?_
    have hzD : ∀ z ∈ tC ++ (["9 9 4 1", "9 9 2 1 ; 4 5 1 0", "9 9 1 1 ; 4 5 0 1", "1 9 1 1", "9 9 1 0", "1000001 9 1 1"] : List Str), z.length ≤ lng := by
      intro z h
      simp only [List.mem_append, List.mem_cons, List.not_mem_nil, or_false] at h
      rcases h with h | rfl | rfl | rfl | rfl | rfl | rfl
      · exact hzC z h
      all_goals decide +kernel
    have lD : (tC ++ (["9 9 4 1", "9 9 2 1 ; 4 5 1 0", "9 9 1 1 ; 4 5 0 1", "1 9 1 1", "9 9 1 0", "1000001 9 1 1"] : List Str)).length = 23 := by rw [List.length_append, lC]; rfl
    generalize tC ++ (["9 9 4 1", "9 9 2 1 ; 4 5 1 0", "9 9 1 1 ; 4 5 0 1", "1 9 1 1", "9 9 1 0", "1000001 9 1 1"] : List Str) = tD at gD hzD lD
    clear hq7 gC gbC hzC lC
    walk_at "go"
    refine ro_mul_sN (by decide) (by decide) (by decide +kernel) (by decide +kernel) ?_
    have hm30 := mulS_len "1" 30
    generalize mulS (Str.ofString "1") 30 = m30 at hm30 ⊢
    have hm30 : m30.length = 30 := hm30
    refine ro_addS (by rw [hm30]; decide +kernel) ?_
    walk_at "go"
    refine ro_addS (Nat.le_trans (Nat.add_le_add_right wt _) (by decide +kernel)) ?_
    walk_at "go"
    intro q9 hq9
    refine cat_on ["9 9 -1 1", "9 -9 1 1", "09 9 1 1", Str.ofString "9 9 1 1 " ++ Str.ofString "; 1 1 0 0", Str.ofString "9 9 1 " ++ m30, S ++ Str.ofString " "] gD (by omega) (Nat.le_of_ble_eq_true rfl) gbD hq9 fun q10 μE gE gbE => ?_
    have hzE : ∀ z ∈ tD ++ (["9 9 -1 1", "9 -9 1 1", "09 9 1 1", Str.ofString "9 9 1 1 " ++ Str.ofString "; 1 1 0 0", Str.ofString "9 9 1 " ++ m30, S ++ Str.ofString " "] : List Str), z.length ≤ lng := by
      intro z h
      simp only [List.mem_append, List.mem_cons, List.not_mem_nil, or_false] at h
      rcases h with h | rfl | rfl | rfl | rfl | rfl | rfl
      · exact hzD z h
      · decide +kernel
      · decide +kernel
      · decide +kernel
      · decide +kernel
      · rw [len_app, hm30]; decide +kernel
      · rw [len_app]; exact Nat.le_trans (Nat.add_le_add_right wt _) (by decide +kernel)
    have lE : (tD ++ (["9 9 -1 1", "9 -9 1 1", "09 9 1 1", Str.ofString "9 9 1 1 " ++ Str.ofString "; 1 1 0 0", Str.ofString "9 9 1 " ++ m30, S ++ Str.ofString " "] : List Str)).length = 29 := by rw [List.length_append, lD]; rfl
    generalize tD ++ (["9 9 -1 1", "9 -9 1 1", "09 9 1 1", Str.ofString "9 9 1 1 " ++ Str.ofString "; 1 1 0 0", Str.ofString "9 9 1 " ++ m30, S ++ Str.ofString " "] : List Str) = tE at gE hzE lE
    clear hq9 gD gbD hzD lD hm30
    walk_at "go"
    refine m_append (a := q10) (ds := tE.map D.str) ?_
    walk_at "go"
    refine ⟨rfl, ⟨_, gE⟩, ?_⟩
    walk_at "go"
    refine m_joinV (a := "") ?_
    walk_at "go"
    refine ⟨rfl, ?_⟩
    walk_at "go"
    refine a_lc1 (fun d => .str (" ; " ++ numS (1 + ofI5 d) ++ " 1 0 0")) (fun _ => true) (ai_1 ?_)
    walk_at "go"
    refine ⟨by decide, by decide, by rw [List.length_map, List.length_range]; decide, fun x hx => at_yes ⟨rfl, rfl⟩, fun x hx _ => ?_, fun l hl => ?_⟩
    · obtain ⟨n, hn, rfl⟩ := List.mem_map.mp hx
      have hn17 : n < 17 := List.mem_range.mp hn
      have ln : (numS (1 + (0 + (n : Int)))).length ≤ 31 := num_len (by omega)
      walk_at "nf"
      walk_at "go"
      refine rc_strI (big_log (by omega)) ?_
      refine ro_addS (Nat.le_trans (Nat.add_le_add_left ln _) (by decide +kernel)) ?_
      walk_at "go"
      refine ro_addS (by rw [len_app]; exact Nat.le_trans (Nat.add_le_add_right (Nat.add_le_add_left ln _) _) (by decide +kernel)) ?_
      exact ⟨rfl, rfl⟩
    have each : ∀ z ∈ ((List.range 17).map fun n => Str.ofString " ; " ++ numS (1 + (0 + ((n : Nat) : Int))) ++ Str.ofString " 1 0 0"), z.length ≤ 40 := by
      intro z hz
      obtain ⟨n, hn, rfl⟩ := List.mem_map.mp hz
      have hn17 : n < 17 := List.mem_range.mp hn
      have ln : (numS (1 + (0 + (n : Int)))).length ≤ 31 := num_len (by omega)
      rw [len_app, len_app]
      exact Nat.le_trans (Nat.add_le_add_right (Nat.add_le_add_left ln _) _) (by decide +kernel)
    have sm := sum_le each
    have jl := join_len (Str.ofString "") ((List.range 17).map fun n => Str.ofString " ; " ++ numS (1 + (0 + ((n : Nat) : Int))) ++ Str.ofString " 1 0 0")
    rw [List.length_map, List.length_range] at sm jl
    rw [show (Str.ofString "").length = 0 from rfl] at jl
    refine ⟨(List.range 17).map fun n => Str.ofString " ; " ++ numS (1 + (0 + ((n : Nat) : Int))) ++ Str.ofString " 1 0 0", ?_, ?_, ?_⟩
    · rw [seq_ref set_same, List.filter_eq_self.mpr (fun _ _ => rfl), List.map_map, List.map_map]
      rfl
    · rw [List.length_map, List.length_range, show (Str.ofString "").length = 0 from rfl]
      omega
    generalize Txt.join (Str.ofString "") ((List.range 17).map fun n => Str.ofString " ; " ++ numS (1 + (0 + ((n : Nat) : Int))) ++ Str.ofString " 1 0 0") = jt at jl ⊢
    have jl : jt.length ≤ 680 := by omega
    clear sm each
    refine ro_addS (Nat.le_trans (Nat.add_le_add_left jl _) (by decide +kernel)) ?_
    have nq : q10 ≠ l := by
      rintro rfl
      have hl : μE q10 = none := hl
      rw [gE] at hl
      cases hl
    refine ⟨by rw [set_ne nq]; exact gE, by rw [List.length_map, lE]; exact Nat.lt_of_lt_of_le (show 29 < 30 by decide) (by decide), ?_⟩
    have zj : (Str.ofString "99 9 1 1" ++ jt).length ≤ lng := by
      rw [len_app]
      exact Nat.le_trans (Nat.add_le_add_left jl _) (by decide +kernel)
    generalize Str.ofString "99 9 1 1" ++ jt = jt2 at zj ⊢
    have hzF : ∀ z ∈ tE ++ [jt2], z.length ≤ lng := fun z h => (List.mem_append.mp h).elim (hzE z) fun e => by rw [List.mem_singleton.mp e]; exact zj
    have gF : ((M.set (id μE) l (.lst (List.map (fun d => D.str (Str.ofString " ; " ++ numS (1 + ofI5 d) ++ Str.ofString " 1 0 0")) (List.filter (fun x => true) (List.map (fun i => D.int (0 + (i : Nat))) (List.range (Int.toNat 17))))))).set q10 (.lst (tE.map D.str ++ [D.str jt2]))) q10 = some (.lst ((tE ++ [jt2]).map D.str)) := by rw [set_same, List.map_append]; rfl
    show AS K _ _ ((M.set (id μE) l (.lst (List.map (fun d => D.str (Str.ofString " ; " ++ numS (1 + ofI5 d) ++ Str.ofString " 1 0 0")) (List.filter (fun x => true) (List.map (fun i => D.int (0 + (i : Nat))) (List.range (Int.toNat 17))))))).set q10 (.lst (tE.map D.str ++ [D.str jt2]))) _
    generalize ((M.set (id μE) l (.lst (List.map (fun d => D.str (Str.ofString " ; " ++ numS (1 + ofI5 d) ++ Str.ofString " 1 0 0")) (List.filter (fun x => true) (List.map (fun i => D.int (0 + (i : Nat))) (List.range (Int.toNat 17))))))).set q10 (.lst (tE.map D.str ++ [D.str jt2]))) = μF at gF ⊢
    generalize tE ++ [jt2] = ts at gF hzF
    clear gE gbE hzE lE hl nq jl zj
    refine s_seq ?_
    refine s_forK ?_
    walk_at "go"
    refine ⟨q10, ts.map D.str, fun j τ' μ' => μ' = μF ∧ ∃ o7 : Option D, τ' = [some (.rol (List.map D.int ns)), some (.int i), some (.ref b), some (mdD w h rows fl gap), some (.str S), some (.ref bd), some (.ref q10), o7, o8, o9, o10, o11], rfl, ⟨rfl, _, rfl⟩, fun j τ' μ' ⟨e, _⟩ => by rw [e]; exact gF, ?_, ?_⟩
    · rintro j x τ' μ' hx ⟨rfl, o7', rfl⟩
      obtain ⟨z, hz, rfl⟩ := List.mem_map.mp (List.mem_of_getElem? hx)
      walk_at "go"
      refine ⟨z, rfl, hzF z hz, ?_⟩
      walk_at "go"
      exact ⟨rfl, _, rfl⟩
    rintro τ' μ' ⟨rfl, o7', rfl⟩
    refine s_for (ai_T ?_)
    walk_at "go"
    intro l7 hl7
    have g7 : (μ'.set l7 (.lst [.str S])) l7 = some (.lst [.str S]) := set_same
    show AA K _ _ (μ'.set l7 (.lst [.str S])) _
    generalize μ'.set l7 (.lst [.str S]) = μG at g7 ⊢
    walk_at "go"
    refine ⟨fun j τ' μ2 => μ2 = μG ∧ ∃ o8 o9 : Option D, τ' = [some (.rol (List.map D.int ns)), some (.int i), some (.ref b), some (mdD w h rows fl gap), some (.str S), some (.ref bd), some (.ref q10), o7', o8, o9, o10, o11], ⟨rfl, _, _, rfl⟩, ?_, ?_⟩
    · rintro j e τ' μ2 he ⟨rfl, o8', o9', rfl⟩
      have kind : ∃ n, tyn μ2 e = some n ∧ kitB n "str" = some false := by
        have he := List.mem_of_getElem? he
        simp only [List.mem_cons, List.not_mem_nil, or_false] at he
        rcases he with rfl | rfl | rfl | rfl | rfl
        · exact ⟨"NoneType", rfl, by decide +kernel⟩
        · exact ⟨"int", rfl, by decide +kernel⟩
        · exact ⟨"bool", rfl, by decide +kernel⟩
        · exact ⟨"tuple", rfl, by decide +kernel⟩
        · exact ⟨"list", by unfold tyn; simp only; rw [g7], by decide +kernel⟩
      obtain ⟨n, hn, hk⟩ := kind
      walk_at "go"
      refine ⟨_, n, false, rfl, hn, hk, fun _ => ?_, fun h => (by cases h)⟩
      walk_at "go"
      refine ite_nd (fun z => absurd rfl z) (fun _ => ?_)
      walk_at "go"
      exact ⟨rfl, _, _, rfl⟩
    rintro τ' μ2 ⟨rfl, o8', o9', rfl⟩
    exact ⟨_, _, _, _, _, _, _, _, _, _, _, rfl⟩
end
theorem all_mk {l : PySem.W.OpenLaw} {w : World} {K : PySem.W.Frag} {h : Heap} {mg : Str → Option Value} {fa : Addr} (X : K.In h) (G : h.Ns mainGlobals mg) (hfa : mg "law" = some (.ref fa))
    {f1 f2 f3 f4 f5 f6 f7 f8 f9 f10 f11 f12 f13 f14 f15 f16 f17 f18 f19 f20 f21 f22 f23 f24 f25 f26 f27 f28 f29 f30 f31 f32 : Addr}
    {od1 an1 od2 an2 od3 an3 od4 an4 od5 an5 od6 an6 od7 an7 od8 an8 od9 an9 od10 an10 od11 an11 od12 an12 od13 an13 od14 an14 od15 an15 od16 an16 od17 an17 od18 an18 od19 an19 od20 an20 od21 an21 od22 an22 od23 an23 od24 an24 od25 an25 od26 an26 od27 an27 od28 an28 od29 an29 od30 an30 od31 an31 od32 an32 : Option Addr}
    {sl1 sl2 sl3 sl4 sl5 sl6 sl7 sl8 sl9 sl10 sl11 sl12 sl13 sl14 sl15 sl16 sl17 sl18 sl19 sl20 sl21 sl22 sl23 sl24 sl25 sl26 sl27 sl28 sl29 sl30 sl31 sl32 : Array (Option Value)}
    {oc1 kV1 dc1 pm1 cd1 ct1 oc2 kV2 dc2 pm2 cd2 ct2 oc3 kV3 dc3 pm3 cd3 ct3 oc4 kV4 dc4 pm4 cd4 ct4 oc5 kV5 dc5 pm5 cd5 ct5 oc6 kV6 dc6 pm6 cd6 ct6 oc7 dc7 pm7 cd7 ct7 oc8 kV8 dc8 pm8 cd8 ct8 oc9 kV9 dc9 pm9 cd9 ct9 oc10 kV10 dc10 pm10 cd10 ct10 oc11 kV11 dc11 pm11 cd11 ct11 oc12 kV12 dc12 pm12 cd12 ct12 oc13 kV13 dc13 pm13 cd13 ct13 oc14 kV14 dc14 pm14 cd14 ct14 oc15 kV15 dc15 pm15 cd15 ct15 oc16 kV16 dc16 pm16 cd16 ct16 oc17 dc17 pm17 cd17 ct17 oc18 kV18 dc18 pm18 cd18 ct18 oc19 kV19 dc19 pm19 cd19 ct19 oc20 kV20 dc20 pm20 cd20 ct20 oc21 kV21 dc21 pm21 cd21 ct21 oc22 kV22 dc22 pm22 cd22 ct22 oc23 kV23 dc23 pm23 cd23 ct23 oc24 kV24 dc24 pm24 cd24 ct24 oc25 kV25 dc25 pm25 cd25 ct25 oc26 kV26 dc26 pm26 cd26 ct26 oc27 kV27 dc27 pm27 cd27 ct27 oc28 kV28 dc28 pm28 cd28 ct28 oc29 kV29 dc29 pm29 cd29 ct29 oc30 kV30 dc30 pm30 cd30 ct30 oc31 kV31 dc31 pm31 cd31 ct31 oc32 kV32 dc32 pm32 cd32 ct32 : Value}
    {C_Board : Addr}
    {C_NoText : Addr}
    {C_NoBoard : Addr}
    {C_NoPin : Addr}
    {nm_NoPin qn_NoPin : Str} {N_NoPin fI_NoPin : Addr} {bs_NoPin : List Value} {sn_NoPin : List Str} {sub_NoPin : List Value} {ab_NoPin : Bool} {col_NoPin : Option Bool} {dd_NoPin od_NoPin an_NoPin : Option Addr} {m0_NoPin m1_NoPin m2_NoPin m3_NoPin m5_NoPin : Option Value} {osl_NoPin : Array (Option Value)} {oc_NoPin kV_NoPin dc_NoPin pm_NoPin cd_NoPin ct_NoPin : Value}
    {C_BoardError : Addr}
    {C_Crossed : Addr}
    {C_NoFraction : Addr}
    {C_NoGate : Addr}
    {C_NoLayer : Addr}
    {C_NoLine : Addr}
    {C_NoNet : Addr}
    {C_NoNets : Addr}
    {C_NoRoom : Addr}
    {C_NoRoute : Addr}
    {C_NoRow : Addr}
    {C_NoWay : Addr}
    {C_NoWire : Addr}
    {C_Taken : Addr}
    {C_Undone : Addr}
    {tk_FIGURES : Tok}
    {tk_MOST : Tok}
    {tk_MOST_FIGURES : Tok}
    {tk_MOST_LAYERS : Tok}
    {tk_MOST_PINS : Tok}
    {D7 : Addr}
    {tk7_layers : Tok}
    {tk7_spacing : Tok}
    {D17 : Addr}
    {tk17_figures : Tok}
    (aC_Board : PySem.W.nsIn K mainGlobals "Board" = some (some (.ref C_Board)))
    (pg_Board : PySem.W.plainGet K C_Board Str.empty = true)
    (hd_Board : PySem.W.hasDictIn K C_Board = true)
    (po_Board : PySem.W.plainOver K C_Board = true)
    (sa_Board : PySem.W.findIn K (.ref C_Board) "__setattr__" = some (some (.builtin "object.__setattr__")))
    (n_Board_wide : PySem.W.findIn K (.ref C_Board) "wide" = some none)
    (n_Board_high : PySem.W.findIn K (.ref C_Board) "high" = some none)
    (n_Board_pin_rows : PySem.W.findIn K (.ref C_Board) "pin_rows" = some none)
    (n_Board_layer_count : PySem.W.findIn K (.ref C_Board) "layer_count" = some none)
    (n_Board_apart_by : PySem.W.findIn K (.ref C_Board) "apart_by" = some none)
    (n_Board_spots : PySem.W.findIn K (.ref C_Board) "spots" = some none)
    (n_Board_kept_gates : PySem.W.findIn K (.ref C_Board) "kept_gates" = some none)
    (n_Board_kept_triangles : PySem.W.findIn K (.ref C_Board) "kept_triangles" = some none)
    (oa_Board : PySem.W.findIn K (.ref C_Board) "__class__" = some (some (.builtin "object.__class__")))
    (on_Board : PySem.W.specialIn K (.builtin "object.__class__") "__get__" = some (some (.builtin "getset_descriptor.__get__")))
    (ot_Board : PySem.W.takesIn K (.builtin "object.__class__") = some true)
    (om_Board : PySem.W.mroIn K C_Board (.type "object") = some true)
    (oe_Board : PySem.W.findIn K (.ref C_Board) "__ne__" = some (some (.builtin "object.__ne__")))
    (oi_Board : PySem.W.isClsIn K C_Board = true)
    (oy_Board : PySem.W.typeIn K (.ref C_Board) = some (.type "type"))
    (oNoneType_Board : PySem.W.subIn K (.ref C_Board) (.type "NoneType") = some false)
    (oint_Board : PySem.W.subIn K (.ref C_Board) (.type "int") = some false)
    (otuple_Board : PySem.W.subIn K (.ref C_Board) (.type "tuple") = some false)
    (ostr_Board : PySem.W.subIn K (.ref C_Board) (.type "str") = some false)
    (mk_Board : PySem.W.makesIn K C_Board = true)
    (kc_Board : PySem.W.keepIn K (.ref C_Board) = true)
    (aC_NoText : PySem.W.nsIn K mainGlobals "NoText" = some (some (.ref C_NoText)))
    (kc_NoText : PySem.W.keepIn K (.ref C_NoText) = true)
    (eC_NoText : PySem.W.subIn K (.ref C_NoText) (.type "BaseException") = some true)
    (tC_NoText : PySem.W.typeIn K (.ref C_NoText) = some (.type "type"))
    (iS_NoText : PySem.W.isClsIn K C_NoText = true)
    (q_NoText : PySem.W.excIn K C_NoText [.type "ValueError", .type "Exception", .type "BaseException", .type "object"] "ValueError.__new__" = true)
    (aC_NoBoard : PySem.W.nsIn K mainGlobals "NoBoard" = some (some (.ref C_NoBoard)))
    (kc_NoBoard : PySem.W.keepIn K (.ref C_NoBoard) = true)
    (eC_NoBoard : PySem.W.subIn K (.ref C_NoBoard) (.type "BaseException") = some true)
    (tC_NoBoard : PySem.W.typeIn K (.ref C_NoBoard) = some (.type "type"))
    (iS_NoBoard : PySem.W.isClsIn K C_NoBoard = true)
    (q_NoBoard : PySem.W.excIn K C_NoBoard [.type "ValueError", .type "Exception", .type "BaseException", .type "object"] "ValueError.__new__" = true)
    (aC_NoPin : PySem.W.nsIn K mainGlobals "NoPin" = some (some (.ref C_NoPin)))
    (kc_NoPin : PySem.W.keepIn K (.ref C_NoPin) = true)
    (eC_NoPin : PySem.W.subIn K (.ref C_NoPin) (.type "BaseException") = some true)
    (tC_NoPin : PySem.W.typeIn K (.ref C_NoPin) = some (.type "type"))
    (xL_NoPin : K.lookup C_NoPin = some (PySem.excClassObj nm_NoPin qn_NoPin C_NoPin N_NoPin bs_NoPin XO.tlIE true sn_NoPin sub_NoPin ab_NoPin col_NoPin dd_NoPin m0_NoPin m1_NoPin m2_NoPin m3_NoPin m5_NoPin "IndexError.__new__"))
    (sa_NoPin : PySem.W.findIn K (.ref C_NoPin) "__setattr__" = some (some (.builtin "object.__setattr__")))
    (ga_NoPin : PySem.W.findIn K (.ref C_NoPin) "__getattribute__" = some (some (.builtin "BaseException.__getattribute__")))
    (gg_NoPin : PySem.W.findIn K (.ref C_NoPin) "__getattr__" = some none)
    (nf_NoPin : PySem.W.findIn K (.ref C_NoPin) "pin" = some none)
    (hC_NoPin : PySem.W.hasDictIn K C_NoPin = true)
    (iC_NoPin : PySem.W.findIn K (.ref C_NoPin) "__init__" = some (some (.ref fI_NoPin)))
    (tI_NoPin : PySem.W.typeIn K (.ref fI_NoPin) = some (.type "function"))
    (lI_NoPin : K.lookup fI_NoPin = some ⟨oc_NoPin, od_NoPin, .func (PySem.W.fnOf "__init__" "NoPin.__init__" (defArgs s_nopin_init) (defBody s_nopin_init) (defScope s_nopin_init) .none kV_NoPin dc_NoPin pm_NoPin an_NoPin cd_NoPin ct_NoPin), osl_NoPin⟩)
    (cI_NoPin : PySem.W.codeIn K cd_NoPin "NoPin.__init__" = true)
    (kI_NoPin : PySem.W.keepIn K (.ref fI_NoPin) = true)
    (sub_NoText_NoText : PySem.W.subIn K (.ref C_NoText) (.ref C_NoText) = some true)
    (sub_NoText_NoBoard : PySem.W.subIn K (.ref C_NoText) (.ref C_NoBoard) = some false)
    (sub_NoBoard_NoText : PySem.W.subIn K (.ref C_NoBoard) (.ref C_NoText) = some false)
    (sub_NoBoard_NoBoard : PySem.W.subIn K (.ref C_NoBoard) (.ref C_NoBoard) = some true)
    (sub_NoPin_NoText : PySem.W.subIn K (.ref C_NoPin) (.ref C_NoText) = some false)
    (sub_NoPin_NoBoard : PySem.W.subIn K (.ref C_NoPin) (.ref C_NoBoard) = some false)
    (aC_BoardError : PySem.W.nsIn K mainGlobals "BoardError" = some (some (.ref C_BoardError)))
    (aC_Crossed : PySem.W.nsIn K mainGlobals "Crossed" = some (some (.ref C_Crossed)))
    (aC_NoFraction : PySem.W.nsIn K mainGlobals "NoFraction" = some (some (.ref C_NoFraction)))
    (aC_NoGate : PySem.W.nsIn K mainGlobals "NoGate" = some (some (.ref C_NoGate)))
    (aC_NoLayer : PySem.W.nsIn K mainGlobals "NoLayer" = some (some (.ref C_NoLayer)))
    (aC_NoLine : PySem.W.nsIn K mainGlobals "NoLine" = some (some (.ref C_NoLine)))
    (aC_NoNet : PySem.W.nsIn K mainGlobals "NoNet" = some (some (.ref C_NoNet)))
    (aC_NoNets : PySem.W.nsIn K mainGlobals "NoNets" = some (some (.ref C_NoNets)))
    (aC_NoRoom : PySem.W.nsIn K mainGlobals "NoRoom" = some (some (.ref C_NoRoom)))
    (aC_NoRoute : PySem.W.nsIn K mainGlobals "NoRoute" = some (some (.ref C_NoRoute)))
    (aC_NoRow : PySem.W.nsIn K mainGlobals "NoRow" = some (some (.ref C_NoRow)))
    (aC_NoWay : PySem.W.nsIn K mainGlobals "NoWay" = some (some (.ref C_NoWay)))
    (aC_NoWire : PySem.W.nsIn K mainGlobals "NoWire" = some (some (.ref C_NoWire)))
    (aC_Taken : PySem.W.nsIn K mainGlobals "Taken" = some (some (.ref C_Taken)))
    (aC_Undone : PySem.W.nsIn K mainGlobals "Undone" = some (some (.ref C_Undone)))
    (xg_NoText : PySem.W.findIn K (.ref C_NoText) "__getattribute__" = some (some (.builtin "BaseException.__getattribute__")))
    (xk_NoText : PySem.W.findIn K (.ref C_NoText) "__getattr__" = some none)
    (xd_NoText : PySem.W.hasDictIn K C_NoText = true)
    (xa_NoText : PySem.W.findIn K (.ref C_NoText) "__class__" = some (some (.builtin "object.__class__")))
    (xn_NoText : PySem.W.specialIn K (.builtin "object.__class__") "__get__" = some (some (.builtin "getset_descriptor.__get__")))
    (xt_NoText : PySem.W.takesIn K (.builtin "object.__class__") = some true)
    (xm_NoText : PySem.W.mroIn K C_NoText (.type "object") = some true)
    (xs_NoText : PySem.W.subIn K (.ref C_NoText) (.ref C_NoText) = some true)
    (yi_BoardError : PySem.W.isClsIn K C_BoardError = true)
    (yt_BoardError : PySem.W.typeIn K (.ref C_BoardError) = some (.type "type"))
    (yi_Crossed : PySem.W.isClsIn K C_Crossed = true)
    (yt_Crossed : PySem.W.typeIn K (.ref C_Crossed) = some (.type "type"))
    (yi_NoBoard : PySem.W.isClsIn K C_NoBoard = true)
    (yt_NoBoard : PySem.W.typeIn K (.ref C_NoBoard) = some (.type "type"))
    (yi_NoFraction : PySem.W.isClsIn K C_NoFraction = true)
    (yt_NoFraction : PySem.W.typeIn K (.ref C_NoFraction) = some (.type "type"))
    (yi_NoGate : PySem.W.isClsIn K C_NoGate = true)
    (yt_NoGate : PySem.W.typeIn K (.ref C_NoGate) = some (.type "type"))
    (yi_NoLayer : PySem.W.isClsIn K C_NoLayer = true)
    (yt_NoLayer : PySem.W.typeIn K (.ref C_NoLayer) = some (.type "type"))
    (yi_NoLine : PySem.W.isClsIn K C_NoLine = true)
    (yt_NoLine : PySem.W.typeIn K (.ref C_NoLine) = some (.type "type"))
    (yi_NoNet : PySem.W.isClsIn K C_NoNet = true)
    (yt_NoNet : PySem.W.typeIn K (.ref C_NoNet) = some (.type "type"))
    (yi_NoNets : PySem.W.isClsIn K C_NoNets = true)
    (yt_NoNets : PySem.W.typeIn K (.ref C_NoNets) = some (.type "type"))
    (yi_NoPin : PySem.W.isClsIn K C_NoPin = true)
    (yt_NoPin : PySem.W.typeIn K (.ref C_NoPin) = some (.type "type"))
    (yi_NoRoom : PySem.W.isClsIn K C_NoRoom = true)
    (yt_NoRoom : PySem.W.typeIn K (.ref C_NoRoom) = some (.type "type"))
    (yi_NoRoute : PySem.W.isClsIn K C_NoRoute = true)
    (yt_NoRoute : PySem.W.typeIn K (.ref C_NoRoute) = some (.type "type"))
    (yi_NoRow : PySem.W.isClsIn K C_NoRow = true)
    (yt_NoRow : PySem.W.typeIn K (.ref C_NoRow) = some (.type "type"))
    (yi_NoText : PySem.W.isClsIn K C_NoText = true)
    (yt_NoText : PySem.W.typeIn K (.ref C_NoText) = some (.type "type"))
    (yi_NoWay : PySem.W.isClsIn K C_NoWay = true)
    (yt_NoWay : PySem.W.typeIn K (.ref C_NoWay) = some (.type "type"))
    (yi_NoWire : PySem.W.isClsIn K C_NoWire = true)
    (yt_NoWire : PySem.W.typeIn K (.ref C_NoWire) = some (.type "type"))
    (yi_Taken : PySem.W.isClsIn K C_Taken = true)
    (yt_Taken : PySem.W.typeIn K (.ref C_Taken) = some (.type "type"))
    (yi_Undone : PySem.W.isClsIn K C_Undone = true)
    (yt_Undone : PySem.W.typeIn K (.ref C_Undone) = some (.type "type"))
    (ys_NoText_BoardError : PySem.W.subIn K (.ref C_NoText) (.ref C_BoardError) = some true)
    (ys_NoText_Crossed : PySem.W.subIn K (.ref C_NoText) (.ref C_Crossed) = some false)
    (ys_NoText_NoBoard : PySem.W.subIn K (.ref C_NoText) (.ref C_NoBoard) = some false)
    (ys_NoText_NoFraction : PySem.W.subIn K (.ref C_NoText) (.ref C_NoFraction) = some false)
    (ys_NoText_NoGate : PySem.W.subIn K (.ref C_NoText) (.ref C_NoGate) = some false)
    (ys_NoText_NoLayer : PySem.W.subIn K (.ref C_NoText) (.ref C_NoLayer) = some false)
    (ys_NoText_NoLine : PySem.W.subIn K (.ref C_NoText) (.ref C_NoLine) = some false)
    (ys_NoText_NoNet : PySem.W.subIn K (.ref C_NoText) (.ref C_NoNet) = some false)
    (ys_NoText_NoNets : PySem.W.subIn K (.ref C_NoText) (.ref C_NoNets) = some false)
    (ys_NoText_NoPin : PySem.W.subIn K (.ref C_NoText) (.ref C_NoPin) = some false)
    (ys_NoText_NoRoom : PySem.W.subIn K (.ref C_NoText) (.ref C_NoRoom) = some false)
    (ys_NoText_NoRoute : PySem.W.subIn K (.ref C_NoText) (.ref C_NoRoute) = some false)
    (ys_NoText_NoRow : PySem.W.subIn K (.ref C_NoText) (.ref C_NoRow) = some false)
    (ys_NoText_NoText : PySem.W.subIn K (.ref C_NoText) (.ref C_NoText) = some true)
    (ys_NoText_NoWay : PySem.W.subIn K (.ref C_NoText) (.ref C_NoWay) = some false)
    (ys_NoText_NoWire : PySem.W.subIn K (.ref C_NoText) (.ref C_NoWire) = some false)
    (ys_NoText_Taken : PySem.W.subIn K (.ref C_NoText) (.ref C_Taken) = some false)
    (ys_NoText_Undone : PySem.W.subIn K (.ref C_NoText) (.ref C_Undone) = some false)
    (ys_NoText_ValueError : PySem.W.subIn K (.ref C_NoText) (.type "ValueError") = some true)
    (v_FIGURES : PySem.W.nsIn K mainGlobals "FIGURES" = some (some (.str "0123456789" tk_FIGURES)))
    (v_MOST : PySem.W.nsIn K mainGlobals "MOST" = some (some (.int 1000000 tk_MOST)))
    (v_MOST_FIGURES : PySem.W.nsIn K mainGlobals "MOST_FIGURES" = some (some (.int 30 tk_MOST_FIGURES)))
    (v_MOST_LAYERS : PySem.W.nsIn K mainGlobals "MOST_LAYERS" = some (some (.int 3 tk_MOST_LAYERS)))
    (v_MOST_PINS : PySem.W.nsIn K mainGlobals "MOST_PINS" = some (some (.int 16 tk_MOST_PINS)))
    (a1 : PySem.W.nsIn K mainGlobals "is_whole" = some (some (.ref f1)))
    (l1 : K.lookup f1 = some ⟨oc1, od1, .func (PySem.W.fnOf "is_whole" "is_whole" (defArgs s_is_whole) (defBody s_is_whole) (defScope s_is_whole) .none kV1 dc1 pm1 an1 cd1 ct1), sl1⟩)
    (c1 : PySem.W.codeIn K cd1 "is_whole" = true)
    (k1 : PySem.W.keepIn K (.ref f1) = true)
    (a2 : PySem.W.nsIn K mainGlobals "is_within" = some (some (.ref f2)))
    (l2 : K.lookup f2 = some ⟨oc2, od2, .func (PySem.W.fnOf "is_within" "is_within" (defArgs s_is_within) (defBody s_is_within) (defScope s_is_within) .none kV2 dc2 pm2 an2 cd2 ct2), sl2⟩)
    (c2 : PySem.W.codeIn K cd2 "is_within" = true)
    (k2 : PySem.W.keepIn K (.ref f2) = true)
    (a3 : PySem.W.nsIn K mainGlobals "is_row" = some (some (.ref f3)))
    (l3 : K.lookup f3 = some ⟨oc3, od3, .func (PySem.W.fnOf "is_row" "is_row" (defArgs s_is_row) (defBody s_is_row) (defScope s_is_row) .none kV3 dc3 pm3 an3 cd3 ct3), sl3⟩)
    (c3 : PySem.W.codeIn K cd3 "is_row" = true)
    (k3 : PySem.W.keepIn K (.ref f3) = true)
    (a4 : PySem.W.nsIn K mainGlobals "are_whole" = some (some (.ref f4)))
    (l4 : K.lookup f4 = some ⟨oc4, od4, .func (PySem.W.fnOf "are_whole" "are_whole" (defArgs s_are_whole) (defBody s_are_whole) (defScope s_are_whole) .none kV4 dc4 pm4 an4 cd4 ct4), sl4⟩)
    (c4 : PySem.W.codeIn K cd4 "are_whole" = true)
    (k4 : PySem.W.keepIn K (.ref f4) = true)
    (a5 : PySem.W.nsIn K mainGlobals "is_pin_row" = some (some (.ref f5)))
    (l5 : K.lookup f5 = some ⟨oc5, od5, .func (PySem.W.fnOf "is_pin_row" "is_pin_row" (defArgs s_is_pin_row) (defBody s_is_pin_row) (defScope s_is_pin_row) .none kV5 dc5 pm5 an5 cd5 ct5), sl5⟩)
    (c5 : PySem.W.codeIn K cd5 "is_pin_row" = true)
    (k5 : PySem.W.keepIn K (.ref f5) = true)
    (a6 : PySem.W.nsIn K mainGlobals "are_board" = some (some (.ref f6)))
    (l6 : K.lookup f6 = some ⟨oc6, od6, .func (PySem.W.fnOf "are_board" "are_board" (defArgs s_are_board) (defBody s_are_board) (defScope s_are_board) .none kV6 dc6 pm6 an6 cd6 ct6), sl6⟩)
    (c6 : PySem.W.codeIn K cd6 "are_board" = true)
    (k6 : PySem.W.keepIn K (.ref f6) = true)
    (a7 : PySem.W.findIn K (.ref C_Board) "__init__" = some (some (.ref f7)))
    (i7 : PySem.W.isFn K (.ref f7) = true)
    (l7 : K.lookup f7 = some ⟨oc7, od7, .func (PySem.W.fnOf "__init__" "Board.__init__" (defArgs s_board_init) (defBody s_board_init) (defScope s_board_init) .none (.ref D7) dc7 pm7 an7 cd7 ct7), sl7⟩)
    (c7 : PySem.W.codeIn K cd7 "Board.__init__" = true)
    (k7 : PySem.W.keepIn K (.ref f7) = true)
    (d7_layers : PySem.W.nsIn K D7 "layers" = some (some (.int 1 tk7_layers)))
    (d7_spacing : PySem.W.nsIn K D7 "spacing" = some (some (.int 1 tk7_spacing)))
    (a8 : PySem.W.findIn K (.ref C_Board) "look_pin" = some (some (.ref f8)))
    (i8 : PySem.W.isFn K (.ref f8) = true)
    (l8 : K.lookup f8 = some ⟨oc8, od8, .func (PySem.W.fnOf "look_pin" "Board.look_pin" (defArgs s_board_look_pin) (defBody s_board_look_pin) (defScope s_board_look_pin) .none kV8 dc8 pm8 an8 cd8 ct8), sl8⟩)
    (c8 : PySem.W.codeIn K cd8 "Board.look_pin" = true)
    (k8 : PySem.W.keepIn K (.ref f8) = true)
    (a9 : PySem.W.nsIn K mainGlobals "_law_bag" = some (some (.ref f9)))
    (l9 : K.lookup f9 = some ⟨oc9, od9, .func (PySem.W.fnOf "_law_bag" "_law_bag" (defArgs s_l_bag) (defBody s_l_bag) (defScope s_l_bag) .none kV9 dc9 pm9 an9 cd9 ct9), sl9⟩)
    (c9 : PySem.W.codeIn K cd9 "_law_bag" = true)
    (k9 : PySem.W.keepIn K (.ref f9) = true)
    (a10 : PySem.W.nsIn K mainGlobals "_law_take" = some (some (.ref f10)))
    (l10 : K.lookup f10 = some ⟨oc10, od10, .func (PySem.W.fnOf "_law_take" "_law_take" (defArgs s_l_take) (defBody s_l_take) (defScope s_l_take) .none kV10 dc10 pm10 an10 cd10 ct10), sl10⟩)
    (c10 : PySem.W.codeIn K cd10 "_law_take" = true)
    (k10 : PySem.W.keepIn K (.ref f10) = true)
    (a11 : PySem.W.nsIn K mainGlobals "_law_made_of" = some (some (.ref f11)))
    (l11 : K.lookup f11 = some ⟨oc11, od11, .func (PySem.W.fnOf "_law_made_of" "_law_made_of" (defArgs s_l_made_of) (defBody s_l_made_of) (defScope s_l_made_of) .none kV11 dc11 pm11 an11 cd11 ct11), sl11⟩)
    (c11 : PySem.W.codeIn K cd11 "_law_made_of" = true)
    (k11 : PySem.W.keepIn K (.ref f11) = true)
    (a12 : PySem.W.nsIn K mainGlobals "_law_board" = some (some (.ref f12)))
    (l12 : K.lookup f12 = some ⟨oc12, od12, .func (PySem.W.fnOf "_law_board" "_law_board" (defArgs s_l_board) (defBody s_l_board) (defScope s_l_board) .none kV12 dc12 pm12 an12 cd12 ct12), sl12⟩)
    (c12 : PySem.W.codeIn K cd12 "_law_board" = true)
    (k12 : PySem.W.keepIn K (.ref f12) = true)
    (a13 : PySem.W.findIn K (.ref C_Board) "made_of" = some (some (.ref f13)))
    (i13 : PySem.W.isFn K (.ref f13) = true)
    (l13 : K.lookup f13 = some ⟨oc13, od13, .func (PySem.W.fnOf "made_of" "Board.made_of" (defArgs s_board_made_of) (defBody s_board_made_of) (defScope s_board_made_of) .none kV13 dc13 pm13 an13 cd13 ct13), sl13⟩)
    (c13 : PySem.W.codeIn K cd13 "Board.made_of" = true)
    (k13 : PySem.W.keepIn K (.ref f13) = true)
    (a14 : PySem.W.findIn K (.ref C_Board) "__eq__" = some (some (.ref f14)))
    (i14 : PySem.W.isFn K (.ref f14) = true)
    (l14 : K.lookup f14 = some ⟨oc14, od14, .func (PySem.W.fnOf "__eq__" "Board.__eq__" (defArgs s_board_eq) (defBody s_board_eq) (defScope s_board_eq) .none kV14 dc14 pm14 an14 cd14 ct14), sl14⟩)
    (c14 : PySem.W.codeIn K cd14 "Board.__eq__" = true)
    (k14 : PySem.W.keepIn K (.ref f14) = true)
    (a15 : PySem.W.findIn K (.ref C_Board) "__len__" = some (some (.ref f15)))
    (i15 : PySem.W.isFn K (.ref f15) = true)
    (l15 : K.lookup f15 = some ⟨oc15, od15, .func (PySem.W.fnOf "__len__" "Board.__len__" (defArgs s_board_len) (defBody s_board_len) (defScope s_board_len) .none kV15 dc15 pm15 an15 cd15 ct15), sl15⟩)
    (c15 : PySem.W.codeIn K cd15 "Board.__len__" = true)
    (k15 : PySem.W.keepIn K (.ref f15) = true)
    (a16 : PySem.W.findIn K (.ref C_Board) "__str__" = some (some (.ref f16)))
    (i16 : PySem.W.isFn K (.ref f16) = true)
    (l16 : K.lookup f16 = some ⟨oc16, od16, .func (PySem.W.fnOf "__str__" "Board.__str__" (defArgs s_board_str) (defBody s_board_str) (defScope s_board_str) .none kV16 dc16 pm16 an16 cd16 ct16), sl16⟩)
    (c16 : PySem.W.codeIn K cd16 "Board.__str__" = true)
    (k16 : PySem.W.keepIn K (.ref f16) = true)
    (a17 : PySem.W.nsIn K mainGlobals "number_in" = some (some (.ref f17)))
    (l17 : K.lookup f17 = some ⟨oc17, od17, .func (PySem.W.fnOf "number_in" "number_in" (defArgs s_number_in) (defBody s_number_in) (defScope s_number_in) .none (.ref D17) dc17 pm17 an17 cd17 ct17), sl17⟩)
    (c17 : PySem.W.codeIn K cd17 "number_in" = true)
    (k17 : PySem.W.keepIn K (.ref f17) = true)
    (d17_figures : PySem.W.nsIn K D17 "figures" = some (some (.int 4 tk17_figures)))
    (a18 : PySem.W.nsIn K mainGlobals "whole_in" = some (some (.ref f18)))
    (l18 : K.lookup f18 = some ⟨oc18, od18, .func (PySem.W.fnOf "whole_in" "whole_in" (defArgs s_whole_in) (defBody s_whole_in) (defScope s_whole_in) .none kV18 dc18 pm18 an18 cd18 ct18), sl18⟩)
    (c18 : PySem.W.codeIn K cd18 "whole_in" = true)
    (k18 : PySem.W.keepIn K (.ref f18) = true)
    (a19 : PySem.W.nsIn K mainGlobals "four_in" = some (some (.ref f19)))
    (l19 : K.lookup f19 = some ⟨oc19, od19, .func (PySem.W.fnOf "four_in" "four_in" (defArgs s_four_in) (defBody s_four_in) (defScope s_four_in) .none kV19 dc19 pm19 an19 cd19 ct19), sl19⟩)
    (c19 : PySem.W.codeIn K cd19 "four_in" = true)
    (k19 : PySem.W.keepIn K (.ref f19) = true)
    (a20 : PySem.W.nsIn K mainGlobals "show_board" = some (some (.ref f20)))
    (l20 : K.lookup f20 = some ⟨oc20, od20, .func (PySem.W.fnOf "show_board" "show_board" (defArgs s_show_board) (defBody s_show_board) (defScope s_show_board) .none kV20 dc20 pm20 an20 cd20 ct20), sl20⟩)
    (c20 : PySem.W.codeIn K cd20 "show_board" = true)
    (k20 : PySem.W.keepIn K (.ref f20) = true)
    (a21 : PySem.W.nsIn K mainGlobals "read_board" = some (some (.ref f21)))
    (l21 : K.lookup f21 = some ⟨oc21, od21, .func (PySem.W.fnOf "read_board" "read_board" (defArgs s_read_board) (defBody s_read_board) (defScope s_read_board) .none kV21 dc21 pm21 an21 cd21 ct21), sl21⟩)
    (c21 : PySem.W.codeIn K cd21 "read_board" = true)
    (k21 : PySem.W.keepIn K (.ref f21) = true)
    (a22 : PySem.W.nsIn K mainGlobals "_law_sign" = some (some (.ref f22)))
    (l22 : K.lookup f22 = some ⟨oc22, od22, .func (PySem.W.fnOf "_law_sign" "_law_sign" (defArgs s_l_sign) (defBody s_l_sign) (defScope s_l_sign) .none kV22 dc22 pm22 an22 cd22 ct22), sl22⟩)
    (c22 : PySem.W.codeIn K cd22 "_law_sign" = true)
    (k22 : PySem.W.keepIn K (.ref f22) = true)
    (a23 : PySem.W.nsIn K mainGlobals "_law_bent" = some (some (.ref f23)))
    (l23 : K.lookup f23 = some ⟨oc23, od23, .func (PySem.W.fnOf "_law_bent" "_law_bent" (defArgs s_l_bent) (defBody s_l_bent) (defScope s_l_bent) .none kV23 dc23 pm23 an23 cd23 ct23), sl23⟩)
    (c23 : PySem.W.codeIn K cd23 "_law_bent" = true)
    (k23 : PySem.W.keepIn K (.ref f23) = true)
    (a24 : PySem.W.nsIn K mainGlobals "_law_word_bent" = some (some (.ref f24)))
    (l24 : K.lookup f24 = some ⟨oc24, od24, .func (PySem.W.fnOf "_law_word_bent" "_law_word_bent" (defArgs s_l_word_bent) (defBody s_l_word_bent) (defScope s_l_word_bent) .none kV24 dc24 pm24 an24 cd24 ct24), sl24⟩)
    (c24 : PySem.W.codeIn K cd24 "_law_word_bent" = true)
    (k24 : PySem.W.keepIn K (.ref f24) = true)
    (a25 : PySem.W.nsIn K mainGlobals "_law_number" = some (some (.ref f25)))
    (l25 : K.lookup f25 = some ⟨oc25, od25, .func (PySem.W.fnOf "_law_number" "_law_number" (defArgs s_l_number) (defBody s_l_number) (defScope s_l_number) .none kV25 dc25 pm25 an25 cd25 ct25), sl25⟩)
    (c25 : PySem.W.codeIn K cd25 "_law_number" = true)
    (k25 : PySem.W.keepIn K (.ref f25) = true)
    (a26 : PySem.W.nsIn K mainGlobals "_law_alone" = some (some (.ref f26)))
    (l26 : K.lookup f26 = some ⟨oc26, od26, .func (PySem.W.fnOf "_law_alone" "_law_alone" (defArgs s_l_alone) (defBody s_l_alone) (defScope s_l_alone) .none kV26 dc26 pm26 an26 cd26 ct26), sl26⟩)
    (c26 : PySem.W.codeIn K cd26 "_law_alone" = true)
    (k26 : PySem.W.keepIn K (.ref f26) = true)
    (a27 : PySem.W.nsIn K mainGlobals "_law_text" = some (some (.ref f27)))
    (l27 : K.lookup f27 = some ⟨oc27, od27, .func (PySem.W.fnOf "_law_text" "_law_text" (defArgs s_l_text) (defBody s_l_text) (defScope s_l_text) .none kV27 dc27 pm27 an27 cd27 ct27), sl27⟩)
    (c27 : PySem.W.codeIn K cd27 "_law_text" = true)
    (k27 : PySem.W.keepIn K (.ref f27) = true)
    (a28 : PySem.W.nsIn K mainGlobals "_law_read" = some (some (.ref f28)))
    (l28 : K.lookup f28 = some ⟨oc28, od28, .func (PySem.W.fnOf "_law_read" "_law_read" (defArgs s_l_read) (defBody s_l_read) (defScope s_l_read) .none kV28 dc28 pm28 an28 cd28 ct28), sl28⟩)
    (c28 : PySem.W.codeIn K cd28 "_law_read" = true)
    (k28 : PySem.W.keepIn K (.ref f28) = true)
    (a29 : PySem.W.nsIn K mainGlobals "_law_whole" = some (some (.ref f29)))
    (l29 : K.lookup f29 = some ⟨oc29, od29, .func (PySem.W.fnOf "_law_whole" "_law_whole" (defArgs s_l_whole) (defBody s_l_whole) (defScope s_l_whole) .none kV29 dc29 pm29 an29 cd29 ct29), sl29⟩)
    (c29 : PySem.W.codeIn K cd29 "_law_whole" = true)
    (k29 : PySem.W.keepIn K (.ref f29) = true)
    (a30 : PySem.W.nsIn K mainGlobals "_law_board_in" = some (some (.ref f30)))
    (l30 : K.lookup f30 = some ⟨oc30, od30, .func (PySem.W.fnOf "_law_board_in" "_law_board_in" (defArgs s_l_board_in) (defBody s_l_board_in) (defScope s_l_board_in) .none kV30 dc30 pm30 an30 cd30 ct30), sl30⟩)
    (c30 : PySem.W.codeIn K cd30 "_law_board_in" = true)
    (k30 : PySem.W.keepIn K (.ref f30) = true)
    (a31 : PySem.W.nsIn K mainGlobals "_law_right" = some (some (.ref f31)))
    (l31 : K.lookup f31 = some ⟨oc31, od31, .func (PySem.W.fnOf "_law_right" "_law_right" (defArgs s_l_right) (defBody s_l_right) (defScope s_l_right) .none kV31 dc31 pm31 an31 cd31 ct31), sl31⟩)
    (c31 : PySem.W.codeIn K cd31 "_law_right" = true)
    (k31 : PySem.W.keepIn K (.ref f31) = true)
    (a32 : PySem.W.nsIn K mainGlobals "law" = some (some (.ref f32)))
    (l32 : K.lookup f32 = some ⟨oc32, od32, .func (PySem.W.fnOf "law" "law" (defArgs s_law) (defBody s_law) (defScope s_law) .none kV32 dc32 pm32 an32 cd32 ct32), sl32⟩)
    (c32 : PySem.W.codeIn K cd32 "law" = true)
    (k32 : PySem.W.keepIn K (.ref f32) = true)
    (z_ValueError : PySem.W.nsIn K mainGlobals "ValueError" = some none)
    (z_abs : PySem.W.nsIn K mainGlobals "abs" = some none)
    (z_all : PySem.W.nsIn K mainGlobals "all" = some none)
    (z_bool : PySem.W.nsIn K mainGlobals "bool" = some none)
    (z_int : PySem.W.nsIn K mainGlobals "int" = some none)
    (z_isinstance : PySem.W.nsIn K mainGlobals "isinstance" = some none)
    (z_len : PySem.W.nsIn K mainGlobals "len" = some none)
    (z_list : PySem.W.nsIn K mainGlobals "list" = some none)
    (z_max : PySem.W.nsIn K mainGlobals "max" = some none)
    (z_min : PySem.W.nsIn K mainGlobals "min" = some none)
    (z_range : PySem.W.nsIn K mainGlobals "range" = some none)
    (z_set : PySem.W.nsIn K mainGlobals "set" = some none)
    (z_str : PySem.W.nsIn K mainGlobals "str" = some none)
    (z_tuple : PySem.W.nsIn K mainGlobals "tuple" = some none) :
    ∃ fd : FuncData, (∀ (s : Shared) (v : Value), BindsTo s fd ⟨[v], []⟩ [("_law_script", v)]) ∧ ∀ base : Heap, K.In base → base.Ns mainGlobals mg → FnOk l.prog w K mg base CX0 13 fa fd ["_law_script"] (spI K P_law) := by
  refine Hold.out ?_
  simp (disch := (
  refine Hold.as ?_
  with_unfolding_all (
  have e := hfa.symm.trans (PySem.W.mg_of X G a32)
  cases e
  have B : Bs mg := ⟨PySem.W.mg_none_of X G z_ValueError, PySem.W.mg_none_of X G z_abs, PySem.W.mg_none_of X G z_all, PySem.W.mg_none_of X G z_bool, PySem.W.mg_none_of X G z_int, PySem.W.mg_none_of X G z_isinstance, PySem.W.mg_none_of X G z_len, PySem.W.mg_none_of X G z_list, PySem.W.mg_none_of X G z_max, PySem.W.mg_none_of X G z_min, PySem.W.mg_none_of X G z_range, PySem.W.mg_none_of X G z_set, PySem.W.mg_none_of X G z_str, PySem.W.mg_none_of X G z_tuple⟩
  have K_Board : Cl_Board K C_Board := ⟨⟨pg_Board, hd_Board, po_Board, sa_Board⟩, n_Board_wide, n_Board_high, n_Board_pin_rows, n_Board_layer_count, n_Board_apart_by, n_Board_spots, n_Board_kept_gates, n_Board_kept_triangles⟩
  have O_Board : OwnC K C_Board := ⟨⟨oa_Board, on_Board, ot_Board, om_Board⟩, oe_Board, oi_Board, oy_Board, oNoneType_Board, oint_Board, otuple_Board, ostr_Board⟩
  have V_Board : Cst mg "Board" (.ref C_Board) := ⟨_, PySem.W.mg_of X G aC_Board, rfl⟩
  have V_FIGURES : Cst mg "FIGURES" (.str "0123456789") := ⟨_, PySem.W.mg_of X G v_FIGURES, ⟨_, rfl⟩⟩
  have V_MOST : Cst mg "MOST" (.int 1000000) := ⟨_, PySem.W.mg_of X G v_MOST, ⟨_, rfl⟩⟩
  have V_MOST_FIGURES : Cst mg "MOST_FIGURES" (.int 30) := ⟨_, PySem.W.mg_of X G v_MOST_FIGURES, ⟨_, rfl⟩⟩
  have V_MOST_LAYERS : Cst mg "MOST_LAYERS" (.int 3) := ⟨_, PySem.W.mg_of X G v_MOST_LAYERS, ⟨_, rfl⟩⟩
  have V_MOST_PINS : Cst mg "MOST_PINS" (.int 16) := ⟨_, PySem.W.mg_of X G v_MOST_PINS, ⟨_, rfl⟩⟩
  have V_read_board : Cst mg "read_board" (.ref f21) := ⟨_, PySem.W.mg_of X G a21, rfl⟩
  have X_NoText : ExcC K C_NoText := ⟨xg_NoText, xk_NoText, eC_NoText, xd_NoText, xa_NoText, xn_NoText, xt_NoText, xm_NoText⟩
  have V_BoardError : Cst mg "BoardError" (.ref C_BoardError) := ⟨_, PySem.W.mg_of X G aC_BoardError, rfl⟩
  have V_Crossed : Cst mg "Crossed" (.ref C_Crossed) := ⟨_, PySem.W.mg_of X G aC_Crossed, rfl⟩
  have V_NoBoard : Cst mg "NoBoard" (.ref C_NoBoard) := ⟨_, PySem.W.mg_of X G aC_NoBoard, rfl⟩
  have V_NoFraction : Cst mg "NoFraction" (.ref C_NoFraction) := ⟨_, PySem.W.mg_of X G aC_NoFraction, rfl⟩
  have V_NoGate : Cst mg "NoGate" (.ref C_NoGate) := ⟨_, PySem.W.mg_of X G aC_NoGate, rfl⟩
  have V_NoLayer : Cst mg "NoLayer" (.ref C_NoLayer) := ⟨_, PySem.W.mg_of X G aC_NoLayer, rfl⟩
  have V_NoLine : Cst mg "NoLine" (.ref C_NoLine) := ⟨_, PySem.W.mg_of X G aC_NoLine, rfl⟩
  have V_NoNet : Cst mg "NoNet" (.ref C_NoNet) := ⟨_, PySem.W.mg_of X G aC_NoNet, rfl⟩
  have V_NoNets : Cst mg "NoNets" (.ref C_NoNets) := ⟨_, PySem.W.mg_of X G aC_NoNets, rfl⟩
  have V_NoPin : Cst mg "NoPin" (.ref C_NoPin) := ⟨_, PySem.W.mg_of X G aC_NoPin, rfl⟩
  have V_NoRoom : Cst mg "NoRoom" (.ref C_NoRoom) := ⟨_, PySem.W.mg_of X G aC_NoRoom, rfl⟩
  have V_NoRoute : Cst mg "NoRoute" (.ref C_NoRoute) := ⟨_, PySem.W.mg_of X G aC_NoRoute, rfl⟩
  have V_NoRow : Cst mg "NoRow" (.ref C_NoRow) := ⟨_, PySem.W.mg_of X G aC_NoRow, rfl⟩
  have V_NoText : Cst mg "NoText" (.ref C_NoText) := ⟨_, PySem.W.mg_of X G aC_NoText, rfl⟩
  have V_NoWay : Cst mg "NoWay" (.ref C_NoWay) := ⟨_, PySem.W.mg_of X G aC_NoWay, rfl⟩
  have V_NoWire : Cst mg "NoWire" (.ref C_NoWire) := ⟨_, PySem.W.mg_of X G aC_NoWire, rfl⟩
  have V_Taken : Cst mg "Taken" (.ref C_Taken) := ⟨_, PySem.W.mg_of X G aC_Taken, rfl⟩
  have V_Undone : Cst mg "Undone" (.ref C_Undone) := ⟨_, PySem.W.mg_of X G aC_Undone, rfl⟩
  have Q_NoText_BoardError : PySem.W.kitOne K (.ref C_NoText) (.ref C_BoardError) = some true := kit_own xs_NoText yi_BoardError yt_BoardError ys_NoText_BoardError
  have Q_NoText_Crossed : PySem.W.kitOne K (.ref C_NoText) (.ref C_Crossed) = some false := kit_own xs_NoText yi_Crossed yt_Crossed ys_NoText_Crossed
  have Q_NoText_NoBoard : PySem.W.kitOne K (.ref C_NoText) (.ref C_NoBoard) = some false := kit_own xs_NoText yi_NoBoard yt_NoBoard ys_NoText_NoBoard
  have Q_NoText_NoFraction : PySem.W.kitOne K (.ref C_NoText) (.ref C_NoFraction) = some false := kit_own xs_NoText yi_NoFraction yt_NoFraction ys_NoText_NoFraction
  have Q_NoText_NoGate : PySem.W.kitOne K (.ref C_NoText) (.ref C_NoGate) = some false := kit_own xs_NoText yi_NoGate yt_NoGate ys_NoText_NoGate
  have Q_NoText_NoLayer : PySem.W.kitOne K (.ref C_NoText) (.ref C_NoLayer) = some false := kit_own xs_NoText yi_NoLayer yt_NoLayer ys_NoText_NoLayer
  have Q_NoText_NoLine : PySem.W.kitOne K (.ref C_NoText) (.ref C_NoLine) = some false := kit_own xs_NoText yi_NoLine yt_NoLine ys_NoText_NoLine
  have Q_NoText_NoNet : PySem.W.kitOne K (.ref C_NoText) (.ref C_NoNet) = some false := kit_own xs_NoText yi_NoNet yt_NoNet ys_NoText_NoNet
  have Q_NoText_NoNets : PySem.W.kitOne K (.ref C_NoText) (.ref C_NoNets) = some false := kit_own xs_NoText yi_NoNets yt_NoNets ys_NoText_NoNets
  have Q_NoText_NoPin : PySem.W.kitOne K (.ref C_NoText) (.ref C_NoPin) = some false := kit_own xs_NoText yi_NoPin yt_NoPin ys_NoText_NoPin
  have Q_NoText_NoRoom : PySem.W.kitOne K (.ref C_NoText) (.ref C_NoRoom) = some false := kit_own xs_NoText yi_NoRoom yt_NoRoom ys_NoText_NoRoom
  have Q_NoText_NoRoute : PySem.W.kitOne K (.ref C_NoText) (.ref C_NoRoute) = some false := kit_own xs_NoText yi_NoRoute yt_NoRoute ys_NoText_NoRoute
  have Q_NoText_NoRow : PySem.W.kitOne K (.ref C_NoText) (.ref C_NoRow) = some false := kit_own xs_NoText yi_NoRow yt_NoRow ys_NoText_NoRow
  have Q_NoText_NoText : PySem.W.kitOne K (.ref C_NoText) (.ref C_NoText) = some true := kit_own xs_NoText yi_NoText yt_NoText ys_NoText_NoText
  have Q_NoText_NoWay : PySem.W.kitOne K (.ref C_NoText) (.ref C_NoWay) = some false := kit_own xs_NoText yi_NoWay yt_NoWay ys_NoText_NoWay
  have Q_NoText_NoWire : PySem.W.kitOne K (.ref C_NoText) (.ref C_NoWire) = some false := kit_own xs_NoText yi_NoWire yt_NoWire ys_NoText_NoWire
  have Q_NoText_Taken : PySem.W.kitOne K (.ref C_NoText) (.ref C_Taken) = some false := kit_own xs_NoText yi_Taken yt_Taken ys_NoText_Taken
  have Q_NoText_Undone : PySem.W.kitOne K (.ref C_NoText) (.ref C_Undone) = some false := kit_own xs_NoText yi_Undone yt_Undone ys_NoText_Undone
  have Q_NoText_ValueError : PySem.W.kitOne K (.ref C_NoText) (.type "ValueError") = some true := kit_bt (by decide +kernel) ys_NoText_ValueError
  have H_NoText_NoText := exm_pair eC_NoText iS_NoText tC_NoText sub_NoText_NoText
  have H_NoText_NoBoard := exm_pair eC_NoBoard iS_NoBoard tC_NoBoard sub_NoText_NoBoard
  have H_NoBoard_NoText := exm_pair eC_NoText iS_NoText tC_NoText sub_NoBoard_NoText
  have H_NoBoard_NoBoard := exm_pair eC_NoBoard iS_NoBoard tC_NoBoard sub_NoBoard_NoBoard
  have H_NoPin_NoText := exm_pair eC_NoText iS_NoText tC_NoText sub_NoPin_NoText
  have H_NoPin_NoBoard := exm_pair eC_NoBoard iS_NoBoard tC_NoBoard sub_NoPin_NoBoard
  have F1 := fun_mk (st := s_is_whole) l1 c1 k1
  have F2 := fun_mk (st := s_is_within) l2 c2 k2
  have F3 := fun_mk (st := s_is_row) l3 c3 k3
  have F4 := fun_mk (st := s_are_whole) l4 c4 k4
  have F5 := fun_mk (st := s_is_pin_row) l5 c5 k5
  have F6 := fun_mk (st := s_are_board) l6 c6 k6
  have F7 : FunD K "__init__" "Board.__init__" (defArgs s_board_init) (defBody s_board_init) (defScope s_board_init) [] [("layers", .int 1), ("spacing", .int 1)] f7 _ := ⟨⟨oc7, od7, .none, .ref D7, dc7, pm7, an7, cd7, ct7, sl7, rfl, l7, c7, .inl ⟨rfl, rfl⟩, .inr ⟨D7, rfl, fun q hq => by
    simp only [List.mem_cons, List.not_mem_nil, or_false] at hq
    rcases hq with rfl | rfl
    · exact ⟨_, d7_layers, ⟨_, rfl⟩⟩
    · exact ⟨_, d7_spacing, ⟨_, rfl⟩⟩⟩⟩, k7⟩
  have F8 := fun_mk (st := s_board_look_pin) l8 c8 k8
  have F9 := fun_mk (st := s_l_bag) l9 c9 k9
  have F10 := fun_mk (st := s_l_take) l10 c10 k10
  have F11 := fun_mk (st := s_l_made_of) l11 c11 k11
  have F12 := fun_mk (st := s_l_board) l12 c12 k12
  have F13 := fun_mk (st := s_board_made_of) l13 c13 k13
  have F14 := fun_mk (st := s_board_eq) l14 c14 k14
  have F15 := fun_mk (st := s_board_len) l15 c15 k15
  have F16 := fun_mk (st := s_board_str) l16 c16 k16
  have F17 : FunD K "number_in" "number_in" (defArgs s_number_in) (defBody s_number_in) (defScope s_number_in) [] [("figures", .int 4)] f17 _ := ⟨⟨oc17, od17, .none, .ref D17, dc17, pm17, an17, cd17, ct17, sl17, rfl, l17, c17, .inl ⟨rfl, rfl⟩, .inr ⟨D17, rfl, fun q hq => by
    simp only [List.mem_cons, List.not_mem_nil, or_false] at hq
    rcases hq with rfl
    · exact ⟨_, d17_figures, ⟨_, rfl⟩⟩⟩⟩, k17⟩
  have F18 := fun_mk (st := s_whole_in) l18 c18 k18
  have F19 := fun_mk (st := s_four_in) l19 c19 k19
  have F20 := fun_mk (st := s_show_board) l20 c20 k20
  have F21 := fun_mk (st := s_read_board) l21 c21 k21
  have F22 := fun_mk (st := s_l_sign) l22 c22 k22
  have F23 := fun_mk (st := s_l_bent) l23 c23 k23
  have F24 := fun_mk (st := s_l_word_bent) l24 c24 k24
  have F25 := fun_mk (st := s_l_number) l25 c25 k25
  have F26 := fun_mk (st := s_l_alone) l26 c26 k26
  have F27 := fun_mk (st := s_l_text) l27 c27 k27
  have F28 := fun_mk (st := s_l_read) l28 c28 k28
  have F29 := fun_mk (st := s_l_whole) l29 c29 k29
  have F30 := fun_mk (st := s_l_board_in) l30 c30 k30
  have F31 := fun_mk (st := s_l_right) l31 c31 k31
  have F32 := fun_mk (st := s_law) l32 c32 k32
  refine ⟨PySem.W.fnOf "law" "law" (defArgs s_law) (defBody s_law) (defScope s_law) .none kV32 dc32 pm32 an32 cd32 ct32, fun s v => .of_eq rfl, fun base _ _ => ?_⟩
  have E_NoText : Exc0 K mg "NoText" C_NoText := ⟨⟨"ValueError", _, _, XO.tlVE, PySem.F.excBase_ValueError, q_NoText⟩, PySem.W.mg_of X G aC_NoText, kc_NoText, eC_NoText, tC_NoText⟩
  have E_NoBoard : Exc0 K mg "NoBoard" C_NoBoard := ⟨⟨"ValueError", _, _, XO.tlVE, PySem.F.excBase_ValueError, q_NoBoard⟩, PySem.W.mg_of X G aC_NoBoard, kc_NoBoard, eC_NoBoard, tC_NoBoard⟩
  have FX_NoPin := fun_mk (st := s_nopin_init) lI_NoPin cI_NoPin kI_NoPin
  have bX_NoPin := FX_NoPin.binds (ps := ["self", "pin"]) fun _ _ _ _ _ _ us hl => match us, hl with | [_, _], _ => rfl
  have E_NoPin : Exc1 l.prog w K mg base "NoPin" "pin" C_NoPin := ⟨⟨"IndexError", _, _, _, XO.tlIE, fI_NoPin, _, "self", "pin", PySem.F.excBase_IndexError, ⟨by decide +kernel, by decide +kernel, by decide +kernel⟩, ⟨⟨_, _, _, _, _, _, _, _, _, _, _, _, _, _, _, xL_NoPin, by first | decide +kernel | exact XO.rT_more (by decide +kernel)⟩, XO.bt_IE, sa_NoPin, eC_NoPin, tC_NoPin, kc_NoPin⟩, iC_NoPin, tI_NoPin, xi_NoPin FX_NoPin, bX_NoPin⟩, nf_NoPin, PySem.W.mg_of X G aC_NoPin, ⟨ga_NoPin, gg_NoPin, eC_NoPin, hC_NoPin⟩⟩
  have b1 := F1.binds (ps := ["thing"]) fun _ _ _ _ _ _ us hl => match us, hl with | [_], _ => rfl
  have G1 : Def l.prog w K mg base "is_whole" ["thing"] 1 (spI K P_is_whole) := ⟨f1, _, ok_is_whole F1 B, PySem.W.mg_of X G a1, k1, b1⟩
  have b2 := F2.binds (ps := ["thing", "least", "most"]) fun _ _ _ _ _ _ us hl => match us, hl with | [_, _, _], _ => rfl
  have G2 : Def l.prog w K mg base "is_within" ["thing", "least", "most"] 2 (spI K P_is_within) := ⟨f2, _, ok_is_within F2 B G1, PySem.W.mg_of X G a2, k2, b2⟩
  have b3 := F3.binds (ps := ["thing", "least", "most"]) fun _ _ _ _ _ _ us hl => match us, hl with | [_, _, _], _ => rfl
  have G3 : Def l.prog w K mg base "is_row" ["thing", "least", "most"] 1 (spI K P_is_row) := ⟨f3, _, ok_is_row F3 B, PySem.W.mg_of X G a3, k3, b3⟩
  have b4 := F4.binds (ps := ["thing", "many"]) fun _ _ _ _ _ _ us hl => match us, hl with | [_, _], _ => rfl
  have G4 : Def l.prog w K mg base "are_whole" ["thing", "many"] 2 (spI K P_are_whole) := ⟨f4, _, ok_are_whole F4 B G3 G1, PySem.W.mg_of X G a4, k4, b4⟩
  have b5 := F5.binds (ps := ["thing", "width", "height", "layers"]) fun _ _ _ _ _ _ us hl => match us, hl with | [_, _, _, _], _ => rfl
  have G5 : Def l.prog w K mg base "is_pin_row" ["thing", "width", "height", "layers"] 3 (spI K P_is_pin_row) := ⟨f5, _, ok_is_pin_row F5 B G4, PySem.W.mg_of X G a5, k5, b5⟩
  have b6 := F6.binds (ps := ["width", "height", "pins", "layers", "spacing"]) fun _ _ _ _ _ _ us hl => match us, hl with | [_, _, _, _, _], _ => rfl
  have G6 : Def l.prog w K mg base "are_board" ["width", "height", "pins", "layers", "spacing"] 4 (spI K P_are_board) := ⟨f6, _, ok_are_board F6 B V_MOST V_MOST_LAYERS V_MOST_PINS G5 G3 G2, PySem.W.mg_of X G a6, k6, b6⟩
  obtain ⟨g7, hb7⟩ := kbn_of (ps := ["self", "width", "height", "pins", "layers", "spacing"]) F7 4 ["layers", "spacing"] [] [(true, 0), (true, 1)] (by simp) (by simp) (fun D doc pm an cdv ct us mv ws h1 h2 h3 => match us, mv, ws, h1, h2, h3 with | [_, _, _, _], [], [_, _], _, _, _ => rfl)
  have M_Board : ZN.MkK l.prog w K mg base "Board" C_Board ["self", "width", "height", "pins", "layers", "spacing"] 3 ["layers", "spacing"] [(true, 0), (true, 1)] [] 6 (spX K (xn mg) (P_board_init C_Board)) := ⟨⟨f7, _, g7, ⟨mk_Board, a7, i7, kc_Board⟩, ok_board_init F7 B K_Board E_NoBoard G6, PySem.W.mg_of X G aC_Board, hb7⟩⟩
  have b8 := F8.binds (ps := ["self", "number"]) fun _ _ _ _ _ _ us hl => match us, hl with | [_, _], _ => rfl
  have G8 : Mth l.prog w K mg base C_Board "look_pin" ["self", "number"] 4 (spX K (xn mg) (P_board_look_pin C_Board)) := ⟨f8, _, ok_board_look_pin F8 B K_Board E_NoPin G2, K_Board.cls, ⟨a8, i8, k8⟩, b8⟩
  have b9 := F9.binds (ps := ["_law_script", "_law_at"]) fun _ _ _ _ _ _ us hl => match us, hl with | [_, _], _ => rfl
  have G9 : Def l.prog w K mg base "_law_bag" ["_law_script", "_law_at"] 2 (spI K P_l_bag) := ⟨f9, _, ok_l_bag F9 B, PySem.W.mg_of X G a9, k9, b9⟩
  have b10 := F10.binds (ps := ["_law_bag_here", "_law_many"]) fun _ _ _ _ _ _ us hl => match us, hl with | [_, _], _ => rfl
  have G10 : Def l.prog w K mg base "_law_take" ["_law_bag_here", "_law_many"] 1 (spI K P_l_take) := ⟨f10, _, ok_l_take F10 B, PySem.W.mg_of X G a10, k10, b10⟩
  have b11 := F11.binds (ps := ["_law_bag_here", "_law_most"]) fun _ _ _ _ _ _ us hl => match us, hl with | [_, _], _ => rfl
  have G11 : Def l.prog w K mg base "_law_made_of" ["_law_bag_here", "_law_most"] 3 (spI K P_l_made_of) := ⟨f11, _, ok_l_made_of F11 B G10, PySem.W.mg_of X G a11, k11, b11⟩
  have b12 := F12.binds (ps := ["_law_made"]) fun _ _ _ _ _ _ us hl => match us, hl with | [_], _ => rfl
  have G12 : Def l.prog w K mg base "_law_board" ["_law_made"] 8 (spI K (P_l_board C_Board)) := ⟨f12, _, ok_l_board F12 B K_Board M_Board, PySem.W.mg_of X G a12, k12, b12⟩
  have b13 := F13.binds (ps := ["self"]) fun _ _ _ _ _ _ us hl => match us, hl with | [_], _ => rfl
  have G13 : Mth l.prog w K mg base C_Board "made_of" ["self"] 1 (spI K (P_board_made_of C_Board)) := ⟨f13, _, fn_lift (ok_board_made_of F13 B K_Board), K_Board.cls, ⟨a13, i13, k13⟩, b13⟩
  have b14 := F14.binds (ps := ["self", "other"]) fun _ _ _ _ _ _ us hl => match us, hl with | [_, _], _ => rfl
  have G14 : Mth l.prog w K mg base C_Board "__eq__" ["self", "other"] 2 (spI K (P_board_eq C_Board)) := ⟨f14, _, fn_lift (ok_board_eq F14 B K_Board O_Board V_Board G13), K_Board.cls, ⟨a14, i14, k14⟩, b14⟩
  have b15 := F15.binds (ps := ["self"]) fun _ _ _ _ _ _ us hl => match us, hl with | [_], _ => rfl
  have G15 : Mth l.prog w K mg base C_Board "__len__" ["self"] 1 (spI K (P_board_len C_Board)) := ⟨f15, _, fn_lift (ok_board_len F15 B K_Board), K_Board.cls, ⟨a15, i15, k15⟩, b15⟩
  have b16 := F16.binds (ps := ["self"]) fun _ _ _ _ _ _ us hl => match us, hl with | [_], _ => rfl
  have G16 : Mth l.prog w K mg base C_Board "__str__" ["self"] 1 (spI K (P_board_str C_Board)) := ⟨f16, _, fn_lift (ok_board_str F16 B K_Board), K_Board.cls, ⟨a16, i16, k16⟩, b16⟩
  have O17 := ok_number_in (P := l.prog) (w := w) (base := base) F17 B V_FIGURES
  obtain ⟨g17_0, hb17_0⟩ := kbn_of (ps := ["word", "figures"]) F17 1 ["figures"] [] [(true, 0)] (by simp) (by simp) (fun D doc pm an cdv ct us mv ws h1 h2 h3 => match us, mv, ws, h1, h2, h3 with | [_], [], [_], _, _, _ => rfl)
  have N_number_in_1_figures : DefN l.prog w K mg base "number_in" ["word", "figures"] 1 ["figures"] [(true, 0)] [] 1 (spI K P_number_in) := ⟨f17, _, g17_0, fn_lift O17, PySem.W.mg_of X G a17, k17, hb17_0⟩
  have b18 := F18.binds (ps := ["word"]) fun _ _ _ _ _ _ us hl => match us, hl with | [_], _ => rfl
  have G18 : Def l.prog w K mg base "whole_in" ["word"] 2 (spI K P_whole_in) := ⟨f18, _, ok_whole_in F18 B V_MOST_FIGURES N_number_in_1_figures, PySem.W.mg_of X G a18, k18, b18⟩
  have b19 := F19.binds (ps := ["text"]) fun _ _ _ _ _ _ us hl => match us, hl with | [_], _ => rfl
  have G19 : DefX l.prog w K mg base "four_in" ["text"] 3 (spX K (xn mg) P_four_in) := ⟨f19, _, ok_four_in F19 B E_NoText G18, PySem.W.mg_of X G a19, k19, b19⟩
  have b20 := F20.binds (ps := ["board"]) fun _ _ _ _ _ _ us hl => match us, hl with | [_], _ => rfl
  have G20 : Def l.prog w K mg base "show_board" ["board"] 4 (spI K (P_show_board C_Board)) := ⟨f20, _, ok_show_board F20 B K_Board G16, PySem.W.mg_of X G a20, k20, b20⟩
  have b21 := F21.binds (ps := ["text"]) fun _ _ _ _ _ _ us hl => match us, hl with | [_], _ => rfl
  have G21 : DefX l.prog w K mg base "read_board" ["text"] 8 (spX K (xn mg) (P_read_board C_Board)) := ⟨f21, _, ok_read_board F21 B K_Board E_NoBoard E_NoPin E_NoText H_NoBoard_NoBoard H_NoPin_NoBoard H_NoText_NoBoard G19 M_Board, PySem.W.mg_of X G a21, k21, b21⟩
  have b22 := F22.binds (ps := ["_law_bag_here", "_law_most"]) fun _ _ _ _ _ _ us hl => match us, hl with | [_, _], _ => rfl
  have G22 : Def l.prog w K mg base "_law_sign" ["_law_bag_here", "_law_most"] 3 (spI K P_l_sign) := ⟨f22, _, ok_l_sign F22 B G10, PySem.W.mg_of X G a22, k22, b22⟩
  have b23 := F23.binds (ps := ["_law_bag_here", "_law_text_here"]) fun _ _ _ _ _ _ us hl => match us, hl with | [_, _], _ => rfl
  have G23 : Def l.prog w K mg base "_law_bent" ["_law_bag_here", "_law_text_here"] 4 (spI K P_l_bent) := ⟨f23, _, ok_l_bent F23 B G22 G10, PySem.W.mg_of X G a23, k23, b23⟩
  have b24 := F24.binds (ps := ["_law_bag_here", "_law_text_here"]) fun _ _ _ _ _ _ us hl => match us, hl with | [_, _], _ => rfl
  have G24 : Def l.prog w K mg base "_law_word_bent" ["_law_bag_here", "_law_text_here"] 3 (spI K P_l_word_bent) := ⟨f24, _, ok_l_word_bent F24 B G10, PySem.W.mg_of X G a24, k24, b24⟩
  have b25 := F25.binds (ps := ["_law_word", "_law_most"]) fun _ _ _ _ _ _ us hl => match us, hl with | [_, _], _ => rfl
  have G25 : Def l.prog w K mg base "_law_number" ["_law_word", "_law_most"] 2 (spI K P_l_number) := ⟨f25, _, ok_l_number F25 B, PySem.W.mg_of X G a25, k25, b25⟩
  have b26 := F26.binds (ps := ["_law_e"]) fun _ _ _ _ _ _ us hl => match us, hl with | [_], _ => rfl
  have G26 : DefE l.prog w K mg base "_law_alone" "_law_e" 1 (spE K (P_l_alone C_NoText)) := ⟨f26, _, ok_l_alone F26 B X_NoText V_BoardError V_Crossed V_NoBoard V_NoFraction V_NoGate V_NoLayer V_NoLine V_NoNet V_NoNets V_NoPin V_NoRoom V_NoRoute V_NoRow V_NoText V_NoWay V_NoWire V_Taken V_Undone Q_NoText_BoardError Q_NoText_Crossed Q_NoText_NoBoard Q_NoText_NoFraction Q_NoText_NoGate Q_NoText_NoLayer Q_NoText_NoLine Q_NoText_NoNet Q_NoText_NoNets Q_NoText_NoPin Q_NoText_NoRoom Q_NoText_NoRoute Q_NoText_NoRow Q_NoText_NoText Q_NoText_NoWay Q_NoText_NoWire Q_NoText_Taken Q_NoText_Undone Q_NoText_ValueError, PySem.W.mg_of X G a26, k26, b26⟩
  have b27 := F27.binds (ps := ["_law_made"]) fun _ _ _ _ _ _ us hl => match us, hl with | [_], _ => rfl
  have G27 : Def l.prog w K mg base "_law_text" ["_law_made"] 1 (spI K P_l_text) := ⟨f27, _, ok_l_text F27 B, PySem.W.mg_of X G a27, k27, b27⟩
  have b28 := F28.binds (ps := ["_law_reader", "_law_text_here"]) fun _ _ _ _ _ _ us hl => match us, hl with | [_, _], _ => rfl
  have G28 : Def l.prog w K mg base "_law_read" ["_law_reader", "_law_text_here"] 10 (spI K (P_l_read f21 C_Board)) := ⟨f28, _, ok_l_read F28 B K_Board E_NoBoard E_NoPin E_NoText V_read_board H_NoBoard_NoText H_NoPin_NoText H_NoText_NoText G26 G21, PySem.W.mg_of X G a28, k28, b28⟩
  have b29 := F29.binds (ps := ["_law_word"]) fun _ _ _ _ _ _ us hl => match us, hl with | [_], _ => rfl
  have G29 : Def l.prog w K mg base "_law_whole" ["_law_word"] 3 (spI K P_l_whole) := ⟨f29, _, ok_l_whole F29 B G25, PySem.W.mg_of X G a29, k29, b29⟩
  have b30 := F30.binds (ps := ["_law_text_here"]) fun _ _ _ _ _ _ us hl => match us, hl with | [_], _ => rfl
  have G30 : Def l.prog w K mg base "_law_board_in" ["_law_text_here"] 4 (spI K P_l_board_in) := ⟨f30, _, ok_l_board_in F30 B G29, PySem.W.mg_of X G a30, k30, b30⟩
  have b31 := F31.binds (ps := ["_law_text_here"]) fun _ _ _ _ _ _ us hl => match us, hl with | [_], _ => rfl
  have G31 : Def l.prog w K mg base "_law_right" ["_law_text_here"] 12 (spI K P_l_right) := ⟨f31, _, ok_l_right F31 B K_Board O_Board V_Board V_read_board G14 G13 G12 G30 G28 G20, PySem.W.mg_of X G a31, k31, b31⟩
  exact ok_law F32 B K_Board V_read_board G16 G9 G23 G12 G11 G28 G31 G27 G24 G20))) only [↓Hold.on]
theorem walk {l : PySem.W.OpenLaw} {q : Program} {loose : List Str} {XP : (Str → Option Value) → Heap → Prop} {YP : World → Heap → Prop} {d : DefRec} {K : Params → PySem.W.Frag} (hn : l.most = some 63) (hdf : d.params.defaults = [])
    (hY : ∀ (w : World) (h : Heap), YP w h → (K w.params).In h)
    (F : ∀ (w : World) (mg : Str → Option Value) (fa : Addr) (h : Heap), (K w.params).In h → h.Ns mainGlobals mg → mg d.name = some (.ref fa) →
      ∃ fd : FuncData, (∀ (s : Shared) (u : Value), BindsTo s fd ⟨[u], []⟩ [("_law_script", u)]) ∧ ∀ base : Heap, (K w.params).In base → base.Ns mainGlobals mg → FnOk l.prog w (K w.params) mg base CX0 13 fa fd ["_law_script"] (spI (K w.params) P_law)) :
    PySem.W.WalkO q loose XP YP l.row.toRowW d [] (fun f vs => PySem.call f vs) :=
  L2.walk_of (n := 63) (k := 13) (x := "_law_script") (CX := fun _ => CX0) (sp := fun w => spI (K w.params) P_law) hn (by decide) hdf ⟨rfl, by decide, by decide⟩ hY F (fun _ _ a ns hl hO hS => law_start hl hO hS) fun _ _ _ _ _ z => z
end W
open PySem PySem.W PyProof.Rows in
set_option maxRecDepth 100000 in
set_option maxHeartbeats 0 in
theorem PySem.Challenge.cw_rubberroutes_k69_texts_of_boards_holds : PySem.Challenge.rw_rubberroutes_k69_texts_of_boards.Holds := by
  w_on; o_law; k_head; (case hw => w_witness2)
  k_fill
  refine W.walk (l := PySem.Challenge.rw_rubberroutes_k69_texts_of_boards) rfl rfl (fun w h Y => by first | exact PySem.W.kIn_of Y | exact PySem.W.km_in_of Y) ?F
  case F =>
    intro w mg fa h KX G hmg
    refine' W.all_mk KX G hmg ?aC_Board ?pg_Board ?hd_Board ?po_Board ?sa_Board ?n_Board_wide ?n_Board_high ?n_Board_pin_rows ?n_Board_layer_count ?n_Board_apart_by ?n_Board_spots ?n_Board_kept_gates ?n_Board_kept_triangles ?oa_Board ?on_Board ?ot_Board ?om_Board ?oe_Board ?oi_Board ?oy_Board ?oNoneType_Board ?oint_Board ?otuple_Board ?ostr_Board ?mk_Board ?kc_Board ?aC_NoText ?kc_NoText ?eC_NoText ?tC_NoText ?iS_NoText ?q_NoText ?aC_NoBoard ?kc_NoBoard ?eC_NoBoard ?tC_NoBoard ?iS_NoBoard ?q_NoBoard ?aC_NoPin ?kc_NoPin ?eC_NoPin ?tC_NoPin ?xL_NoPin ?sa_NoPin ?ga_NoPin ?gg_NoPin ?nf_NoPin ?hC_NoPin ?iC_NoPin ?tI_NoPin ?lI_NoPin ?cI_NoPin ?kI_NoPin ?sub_NoText_NoText ?sub_NoText_NoBoard ?sub_NoBoard_NoText ?sub_NoBoard_NoBoard ?sub_NoPin_NoText ?sub_NoPin_NoBoard ?aC_BoardError ?aC_Crossed ?aC_NoFraction ?aC_NoGate ?aC_NoLayer ?aC_NoLine ?aC_NoNet ?aC_NoNets ?aC_NoRoom ?aC_NoRoute ?aC_NoRow ?aC_NoWay ?aC_NoWire ?aC_Taken ?aC_Undone ?xg_NoText ?xk_NoText ?xd_NoText ?xa_NoText ?xn_NoText ?xt_NoText ?xm_NoText ?xs_NoText ?yi_BoardError ?yt_BoardError ?yi_Crossed ?yt_Crossed ?yi_NoBoard ?yt_NoBoard ?yi_NoFraction ?yt_NoFraction ?yi_NoGate ?yt_NoGate ?yi_NoLayer ?yt_NoLayer ?yi_NoLine ?yt_NoLine ?yi_NoNet ?yt_NoNet ?yi_NoNets ?yt_NoNets ?yi_NoPin ?yt_NoPin ?yi_NoRoom ?yt_NoRoom ?yi_NoRoute ?yt_NoRoute ?yi_NoRow ?yt_NoRow ?yi_NoText ?yt_NoText ?yi_NoWay ?yt_NoWay ?yi_NoWire ?yt_NoWire ?yi_Taken ?yt_Taken ?yi_Undone ?yt_Undone ?ys_NoText_BoardError ?ys_NoText_Crossed ?ys_NoText_NoBoard ?ys_NoText_NoFraction ?ys_NoText_NoGate ?ys_NoText_NoLayer ?ys_NoText_NoLine ?ys_NoText_NoNet ?ys_NoText_NoNets ?ys_NoText_NoPin ?ys_NoText_NoRoom ?ys_NoText_NoRoute ?ys_NoText_NoRow ?ys_NoText_NoText ?ys_NoText_NoWay ?ys_NoText_NoWire ?ys_NoText_Taken ?ys_NoText_Undone ?ys_NoText_ValueError ?v_FIGURES ?v_MOST ?v_MOST_FIGURES ?v_MOST_LAYERS ?v_MOST_PINS ?a1 ?l1 ?c1 ?k1 ?a2 ?l2 ?c2 ?k2 ?a3 ?l3 ?c3 ?k3 ?a4 ?l4 ?c4 ?k4 ?a5 ?l5 ?c5 ?k5 ?a6 ?l6 ?c6 ?k6 ?a7 ?i7 ?l7 ?c7 ?k7 ?d7_layers ?d7_spacing ?a8 ?i8 ?l8 ?c8 ?k8 ?a9 ?l9 ?c9 ?k9 ?a10 ?l10 ?c10 ?k10 ?a11 ?l11 ?c11 ?k11 ?a12 ?l12 ?c12 ?k12 ?a13 ?i13 ?l13 ?c13 ?k13 ?a14 ?i14 ?l14 ?c14 ?k14 ?a15 ?i15 ?l15 ?c15 ?k15 ?a16 ?i16 ?l16 ?c16 ?k16 ?a17 ?l17 ?c17 ?k17 ?d17_figures ?a18 ?l18 ?c18 ?k18 ?a19 ?l19 ?c19 ?k19 ?a20 ?l20 ?c20 ?k20 ?a21 ?l21 ?c21 ?k21 ?a22 ?l22 ?c22 ?k22 ?a23 ?l23 ?c23 ?k23 ?a24 ?l24 ?c24 ?k24 ?a25 ?l25 ?c25 ?k25 ?a26 ?l26 ?c26 ?k26 ?a27 ?l27 ?c27 ?k27 ?a28 ?l28 ?c28 ?k28 ?a29 ?l29 ?c29 ?k29 ?a30 ?l30 ?c30 ?k30 ?a31 ?l31 ?c31 ?k31 ?a32 ?l32 ?c32 ?k32 ?z_ValueError ?z_abs ?z_all ?z_bool ?z_int ?z_isinstance ?z_len ?z_list ?z_max ?z_min ?z_range ?z_set ?z_str ?z_tuple
    (case aC_Board => k_is)
    (case pg_Board => k_is)
    (case hd_Board => k_is)
    (case po_Board => k_is)
    (case sa_Board => k_is)
    (case n_Board_wide => k_is)
    (case n_Board_high => k_is)
    (case n_Board_pin_rows => k_is)
    (case n_Board_layer_count => k_is)
    (case n_Board_apart_by => k_is)
    (case n_Board_spots => k_is)
    (case n_Board_kept_gates => k_is)
    (case n_Board_kept_triangles => k_is)
    (case oa_Board => k_is)
    (case on_Board => k_is)
    (case ot_Board => k_is)
    (case om_Board => k_is)
    (case oe_Board => k_is)
    (case oi_Board => k_is)
    (case oy_Board => k_is)
    (case oNoneType_Board => k_is)
    (case oint_Board => k_is)
    (case otuple_Board => k_is)
    (case ostr_Board => k_is)
    (case mk_Board => k_is)
    (case kc_Board => k_is)
    (case aC_NoText => k_is)
    (case kc_NoText => k_is)
    (case eC_NoText => k_is)
    (case tC_NoText => k_is)
    (case iS_NoText => k_is)
    (case q_NoText => k_exc)
    (case aC_NoBoard => k_is)
    (case kc_NoBoard => k_is)
    (case eC_NoBoard => k_is)
    (case tC_NoBoard => k_is)
    (case iS_NoBoard => k_is)
    (case q_NoBoard => k_exc)
    (case aC_NoPin => k_is)
    (case kc_NoPin => k_is)
    (case eC_NoPin => k_is)
    (case tC_NoPin => k_is)
    (case xL_NoPin => k_is)
    (case sa_NoPin => k_is)
    (case ga_NoPin => k_is)
    (case gg_NoPin => k_is)
    (case nf_NoPin => k_is)
    (case hC_NoPin => k_is)
    (case iC_NoPin => k_is)
    (case tI_NoPin => k_is)
    (case lI_NoPin => k_is)
    (case cI_NoPin => k_is)
    (case kI_NoPin => k_is)
    (case sub_NoText_NoText => k_is)
    (case sub_NoText_NoBoard => k_is)
    (case sub_NoBoard_NoText => k_is)
    (case sub_NoBoard_NoBoard => k_is)
    (case sub_NoPin_NoText => k_is)
    (case sub_NoPin_NoBoard => k_is)
    (case aC_BoardError => k_is)
    (case aC_Crossed => k_is)
    (case aC_NoFraction => k_is)
    (case aC_NoGate => k_is)
    (case aC_NoLayer => k_is)
    (case aC_NoLine => k_is)
    (case aC_NoNet => k_is)
    (case aC_NoNets => k_is)
    (case aC_NoRoom => k_is)
    (case aC_NoRoute => k_is)
    (case aC_NoRow => k_is)
    (case aC_NoWay => k_is)
    (case aC_NoWire => k_is)
    (case aC_Taken => k_is)
    (case aC_Undone => k_is)
    (case xg_NoText => k_is)
    (case xk_NoText => k_is)
    (case xd_NoText => k_is)
    (case xa_NoText => k_is)
    (case xn_NoText => k_is)
    (case xt_NoText => k_is)
    (case xm_NoText => k_is)
    (case xs_NoText => k_is)
    (case yi_BoardError => k_is)
    (case yt_BoardError => k_is)
    (case yi_Crossed => k_is)
    (case yt_Crossed => k_is)
    (case yi_NoBoard => k_is)
    (case yt_NoBoard => k_is)
    (case yi_NoFraction => k_is)
    (case yt_NoFraction => k_is)
    (case yi_NoGate => k_is)
    (case yt_NoGate => k_is)
    (case yi_NoLayer => k_is)
    (case yt_NoLayer => k_is)
    (case yi_NoLine => k_is)
    (case yt_NoLine => k_is)
    (case yi_NoNet => k_is)
    (case yt_NoNet => k_is)
    (case yi_NoNets => k_is)
    (case yt_NoNets => k_is)
    (case yi_NoPin => k_is)
    (case yt_NoPin => k_is)
    (case yi_NoRoom => k_is)
    (case yt_NoRoom => k_is)
    (case yi_NoRoute => k_is)
    (case yt_NoRoute => k_is)
    (case yi_NoRow => k_is)
    (case yt_NoRow => k_is)
    (case yi_NoText => k_is)
    (case yt_NoText => k_is)
    (case yi_NoWay => k_is)
    (case yt_NoWay => k_is)
    (case yi_NoWire => k_is)
    (case yt_NoWire => k_is)
    (case yi_Taken => k_is)
    (case yt_Taken => k_is)
    (case yi_Undone => k_is)
    (case yt_Undone => k_is)
    (case ys_NoText_BoardError => k_is)
    (case ys_NoText_Crossed => k_is)
    (case ys_NoText_NoBoard => k_is)
    (case ys_NoText_NoFraction => k_is)
    (case ys_NoText_NoGate => k_is)
    (case ys_NoText_NoLayer => k_is)
    (case ys_NoText_NoLine => k_is)
    (case ys_NoText_NoNet => k_is)
    (case ys_NoText_NoNets => k_is)
    (case ys_NoText_NoPin => k_is)
    (case ys_NoText_NoRoom => k_is)
    (case ys_NoText_NoRoute => k_is)
    (case ys_NoText_NoRow => k_is)
    (case ys_NoText_NoText => k_is)
    (case ys_NoText_NoWay => k_is)
    (case ys_NoText_NoWire => k_is)
    (case ys_NoText_Taken => k_is)
    (case ys_NoText_Undone => k_is)
    (case ys_NoText_ValueError => k_is)
    (case v_FIGURES => k_is)
    (case v_MOST => k_is)
    (case v_MOST_FIGURES => k_is)
    (case v_MOST_LAYERS => k_is)
    (case v_MOST_PINS => k_is)
    (case a1 => k_is)
    (case l1 => k_is)
    (case c1 => k_is)
    (case k1 => k_is)
    (case a2 => k_is)
    (case l2 => k_is)
    (case c2 => k_is)
    (case k2 => k_is)
    (case a3 => k_is)
    (case l3 => k_is)
    (case c3 => k_is)
    (case k3 => k_is)
    (case a4 => k_is)
    (case l4 => k_is)
    (case c4 => k_is)
    (case k4 => k_is)
    (case a5 => k_is)
    (case l5 => k_is)
    (case c5 => k_is)
    (case k5 => k_is)
    (case a6 => k_is)
    (case l6 => k_is)
    (case c6 => k_is)
    (case k6 => k_is)
    (case a7 => k_is)
    (case i7 => k_is)
    (case l7 => k_is)
    (case c7 => k_is)
    (case k7 => k_is)
    (case d7_layers => k_is)
    (case d7_spacing => k_is)
    (case a8 => k_is)
    (case i8 => k_is)
    (case l8 => k_is)
    (case c8 => k_is)
    (case k8 => k_is)
    (case a9 => k_is)
    (case l9 => k_is)
    (case c9 => k_is)
    (case k9 => k_is)
    (case a10 => k_is)
    (case l10 => k_is)
    (case c10 => k_is)
    (case k10 => k_is)
    (case a11 => k_is)
    (case l11 => k_is)
    (case c11 => k_is)
    (case k11 => k_is)
    (case a12 => k_is)
    (case l12 => k_is)
    (case c12 => k_is)
    (case k12 => k_is)
    (case a13 => k_is)
    (case i13 => k_is)
    (case l13 => k_is)
    (case c13 => k_is)
    (case k13 => k_is)
    (case a14 => k_is)
    (case i14 => k_is)
    (case l14 => k_is)
    (case c14 => k_is)
    (case k14 => k_is)
    (case a15 => k_is)
    (case i15 => k_is)
    (case l15 => k_is)
    (case c15 => k_is)
    (case k15 => k_is)
    (case a16 => k_is)
    (case i16 => k_is)
    (case l16 => k_is)
    (case c16 => k_is)
    (case k16 => k_is)
    (case a17 => k_is)
    (case l17 => k_is)
    (case c17 => k_is)
    (case k17 => k_is)
    (case d17_figures => k_is)
    (case a18 => k_is)
    (case l18 => k_is)
    (case c18 => k_is)
    (case k18 => k_is)
    (case a19 => k_is)
    (case l19 => k_is)
    (case c19 => k_is)
    (case k19 => k_is)
    (case a20 => k_is)
    (case l20 => k_is)
    (case c20 => k_is)
    (case k20 => k_is)
    (case a21 => k_is)
    (case l21 => k_is)
    (case c21 => k_is)
    (case k21 => k_is)
    (case a22 => k_is)
    (case l22 => k_is)
    (case c22 => k_is)
    (case k22 => k_is)
    (case a23 => k_is)
    (case l23 => k_is)
    (case c23 => k_is)
    (case k23 => k_is)
    (case a24 => k_is)
    (case l24 => k_is)
    (case c24 => k_is)
    (case k24 => k_is)
    (case a25 => k_is)
    (case l25 => k_is)
    (case c25 => k_is)
    (case k25 => k_is)
    (case a26 => k_is)
    (case l26 => k_is)
    (case c26 => k_is)
    (case k26 => k_is)
    (case a27 => k_is)
    (case l27 => k_is)
    (case c27 => k_is)
    (case k27 => k_is)
    (case a28 => k_is)
    (case l28 => k_is)
    (case c28 => k_is)
    (case k28 => k_is)
    (case a29 => k_is)
    (case l29 => k_is)
    (case c29 => k_is)
    (case k29 => k_is)
    (case a30 => k_is)
    (case l30 => k_is)
    (case c30 => k_is)
    (case k30 => k_is)
    (case a31 => k_is)
    (case l31 => k_is)
    (case c31 => k_is)
    (case k31 => k_is)
    (case a32 => k_is)
    (case l32 => k_is)
    (case c32 => k_is)
    (case k32 => k_is)
    (case z_ValueError => k_is)
    (case z_abs => k_is)
    (case z_all => k_is)
    (case z_bool => k_is)
    (case z_int => k_is)
    (case z_isinstance => k_is)
    (case z_len => k_is)
    (case z_list => k_is)
    (case z_max => k_is)
    (case z_min => k_is)
    (case z_range => k_is)
    (case z_set => k_is)
    (case z_str => k_is)
    (case z_tuple => k_is)
