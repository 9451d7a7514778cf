import PyProof.Rows.All
import Wide.All
import OpenK.AllK
import Wide.FinOn
import HandS.ForMost
import HandS.Wide
import HandS.IsInst
import HandS.Deep
import HandS.Style
import HandS.Zip
import HandS.Defaults
import HandS.TryOnly
import HandS.Zip0
import KE.KDictZip
import KE.KItemsList
import HandS.ListItems
import HandS.TupAny
import HandS.ExcOwn
import HandS.Lambda
import HandS.ExcInit
import HandS.WordsExc
import HandS.MakeKwOnly
import HandS.ExcField
import HandS.HotCalls
import HandS.SetBool
import HandS.TupSets
import HandS.Flt
import KE.SortData
import HandS.SuiteRaise
import HandS.RaiseFrom
import PyProof.NsDelKeeps
import HandS.ExcIs
import KE.KTryMore
import PySem.Challenge.RW_rubberroutes_k10_rooms
set_option Elab.async false
set_option linter.all false
set_option maxRecDepth 100000
set_option maxHeartbeats 4000000
namespace Z
open PySem L2
inductive D where
  | non | bl (b : Bool) | int (i : Int) | str (s : Str) | ty (n : String) | tup (ds : List D) | rol (ds : List D) | ref (a : Addr)
inductive MO where
  | lst (ds : List D) | dK (kvs : List (Key × D)) | dT (kvs : List (List Key × D)) | ins (C dx : Addr) (fs : List (Str × D)) | xd (fs : List (Str × D)) | fT (od : Obj) (vs : List (List Key × V)) (kvs : List (List Key × D)) | fK (od : Obj) (vs : List (Key × V)) (kvs : List (Key × D)) | fTp (od : Obj) (ds : List D) | xo (od : Obj) (C : Addr) | tab (q : Str)
abbrev M := Addr → Option MO
def M.set (μ : M) (a : Addr) (m : MO) : M := fun b => if b = a then some m else μ b
theorem set_same {μ : M} {a : Addr} {m : MO} : μ.set a m a = some m := by unfold M.set; rw [if_pos rfl]
theorem set_ne {μ : M} {a b : Addr} {m : MO} (h : b ≠ a) : μ.set a m b = μ b := by unfold M.set; rw [if_neg h]
theorem set_set {μ : M} {a : Addr} {m m' : MO} : (μ.set a m).set a m' = μ.set a m' := by
  funext b; unfold M.set; split <;> rfl
inductive TupAt (K : PySem.W.Frag) (H : Hp) (a : Addr) (xs : List V) : Prop
  | inl (h : H a = some (.tup xs)) : TupAt K H a xs
def RolAt (K : PySem.W.Frag) (H : Hp) (a : Addr) (xs : List V) : Prop :=
  (∃ o, H a = some (.frz o (.lst xs))) ∨ ∃ (o : Obj) (its : Array Value) (n : Nat), K.lookup a = some o ∧ o.cls = .type "list" ∧ o.dict = none ∧ o.data = .seq its n ∧ its.size ≤ sizeLine ∧ Vals xs its.toList
theorem TupAt.sq {K : PySem.W.Frag} {H : Hp} {a : Addr} {xs : List V} (h : TupAt K H a xs) : SqT K H a xs := by
  cases h with
  | inl h => exact .inl (.inl h)
theorem RolAt.sq {K : PySem.W.Frag} {H : Hp} {a : Addr} {xs : List V} (h : RolAt K H a xs) : SqL K H a xs := by
  rcases h with ⟨o, h⟩ | h
  · exact .inl (.inr ⟨o, h⟩)
  · exact .inr h
mutual
inductive Rel (K : PySem.W.Frag) (H : Hp) : V → D → Prop
  | non : Rel K H .non .non
  | bl (b : Bool) : Rel K H (.bl b) (.bl b)
  | int (i : Int) : Rel K H (.int i) (.int i)
  | str (s : Str) : Rel K H (.str s) (.str s)
  | ty (n : String) : Rel K H (.ty n) (.ty n)
  | ref (a : Addr) : Rel K H (.ref a) (.ref a)
  | tup {a : Addr} {xs : List V} {ds : List D} : TupAt K H a xs → Rels K H xs ds → Rel K H (.ref a) (.tup ds)
  | rol {a : Addr} {xs : List V} {ds : List D} : RolAt K H a xs → Rels K H xs ds → Rel K H (.ref a) (.rol ds)
inductive Rels (K : PySem.W.Frag) (H : Hp) : List V → List D → Prop
  | nil : Rels K H [] []
  | cons {v : V} {vs : List V} {d : D} {ds : List D} : Rel K H v d → Rels K H vs ds → Rels K H (v :: vs) (d :: ds)
end
/-- field lists, pair lists -/
def RelKV {κ : Type} (K : PySem.W.Frag) (H : Hp) : List (κ × V) → List (κ × D) → Prop := Paired fun p q => p.1 = q.1 ∧ Rel K H p.2 q.2
def MRel (K : PySem.W.Frag) (H : Hp) (a : Addr) : MO → Prop
  | .lst ds => ∃ vs, H a = some (.lst vs) ∧ Rels K H vs ds
  | .dK kvs => ∃ vs, H a = some (.dK vs) ∧ RelKV K H vs kvs
  | .dT kvs => ∃ vs, H a = some (.dT vs) ∧ RelKV K H vs kvs
  | .ins C dx fs => ∃ vs, H a = some (.ins C dx vs) ∧ RelKV K H vs fs
  | .xd fs => ∃ vs, H a = some (.xd vs) ∧ RelKV K H vs fs
  | .fT od us kvs => ∃ vs, H a = some (.frz od (.dT vs)) ∧ RelKV K H vs kvs ∧ vs = us
  | .fK od us kvs => ∃ vs, H a = some (.frz od (.dK vs)) ∧ RelKV K H vs kvs ∧ vs = us
  | .fTp od ds => ∃ vs, H a = some (.frz od (.tup vs)) ∧ Rels K H vs ds ∧ od.dict = none
  | .xo od C => ∃ z : Addr, H a = some (.frz od (.own z)) ∧ od.cls = .ref C ∧ ∃ vs, od.data = .fields vs
  | .tab q => ∃ ps : Array Value, H a = some (.tbl ps) ∧ TriplesOk ps.toList ∧ ∀ (pos : Pos) (cv : Value), codeAmong pos ps.toList = some cv → ∃ c, cv = .ref c ∧ H c = some (LamX.CodeO c q)
def Con (K : PySem.W.Frag) (H : Hp) (μ : M) : Prop := ∀ a m, μ a = some m → MRel K H a m
abbrev T := List (Option D)
def Slots (K : PySem.W.Frag) (H : Hp) (τ : T) (σ : St) : Prop := τ.length = σ.length ∧ ∀ (i : Nat) (d : D), τ[i]? = some (some d) → ∃ v, σ[i]? = some (some v) ∧ Rel K H v d
/-- what is tracked outside of the store stays, and stays outside -/
def Fr (μ μ' : M) (H H' : Hp) : Prop := ∀ a o, μ a = none → H a = some o → H' a = some o ∧ μ' a = none
section
variable {K : PySem.W.Frag} {H H' H1 H2 : Hp} {μ μ' μ1 μ2 : M} {τ : T} {σ : St}
theorem Fr.refl : Fr μ μ H H := fun _ _ h e => ⟨e, h⟩
theorem Fr.trans (a : Fr μ μ1 H H1) (b : Fr μ1 μ2 H1 H2) : Fr μ μ2 H H2 := fun x o h e => let ⟨e1, h1⟩ := a x o h e; b x o h1 e1
theorem Con.tn (c : Con K H μ) {a : Addr} {xs : List V} (e : H a = some (.tup xs)) : μ a = none := by
  cases q : μ a with
  | none => rfl
  | some m =>
    have r := c a m q
    cases m <;> (obtain ⟨vs, h, _⟩ := r; rw [e] at h; cases h)
theorem Con.fn (c : Con K H μ) {a : Addr} {o : Obj} {u : List V} (e : H a = some (.frz o (.lst u))) : μ a = none := by
  cases q : μ a with
  | none => rfl
  | some m =>
    have r := c a m q
    cases m <;> (obtain ⟨vs, h, _⟩ := r; rw [e] at h; cases h)
theorem Con.free (c : Con K H μ) {a : Addr} (e : H a = none) : μ a = none := by
  cases q : μ a with
  | none => rfl
  | some m =>
    have r := c a m q
    cases m <;> (obtain ⟨vs, h, _⟩ := r; rw [e] at h; cases h)
/-- tuples and read-only lists stay -/
structure Tx (H H' : Hp) : Prop where
  t : ∀ a xs, H a = some (.tup xs) → H' a = some (.tup xs)
  l : ∀ a o xs, H a = some (.frz o (.lst xs)) → H' a = some (.frz o (.lst xs))
  c : ∀ a q, H a = some (LamX.CodeO a q) → H' a = some (LamX.CodeO a q)
theorem Con.cn (c : Con K H μ) {a : Addr} {q : Str} (e : H a = some (LamX.CodeO a q)) : μ a = none := by
  cases h : μ a with
  | none => rfl
  | some m =>
    have r := c a m h
    unfold LamX.CodeO at e
    cases m <;> (obtain ⟨vs, h, _⟩ := r; rw [e] at h; cases h)
theorem Tx.trans (a : Tx H H1) (b : Tx H1 H2) : Tx H H2 := ⟨fun x xs h => b.t x xs (a.t x xs h), fun x o xs h => b.l x o xs (a.l x o xs h), fun x q h => b.c x q (a.c x q h)⟩
theorem Fr.tx (f : Fr μ μ' H H') (c : Con K H μ) : Tx H H' := ⟨fun a xs e => (f a _ (c.tn e) e).1, fun a o xs e => (f a _ (c.fn e) e).1, fun a q e => (f a _ (c.cn e) e).1⟩
theorem TupAt.mono {a : Addr} {xs : List V} (t : Tx H H') (h : TupAt K H a xs) : TupAt K H' a xs := by
  cases h with
  | inl h => exact .inl (t.t _ _ h)
theorem RolAt.mono {a : Addr} {xs : List V} (t : Tx H H') (h : RolAt K H a xs) : RolAt K H' a xs := by
  rcases h with ⟨o, h⟩ | h
  · exact .inl ⟨o, t.l _ _ _ h⟩
  · exact .inr h
mutual
theorem Rel.mono (t : Tx H H') : ∀ (d : D) (v : V), Rel K H v d → Rel K H' v d
  | .non, _, .non => .non
  | .bl _, _, .bl b => .bl b
  | .int _, _, .int b => .int b
  | .str _, _, .str b => .str b
  | .ty _, _, .ty b => .ty b
  | .ref _, _, .ref b => .ref b
  | .tup ds, _, .tup h r => .tup (h.mono t) (Rels.mono t ds _ r)
  | .rol ds, _, .rol h r => .rol (h.mono t) (Rels.mono t ds _ r)
theorem Rels.mono (t : Tx H H') : ∀ (ds : List D) (vs : List V), Rels K H vs ds → Rels K H' vs ds
  | [], _, .nil => .nil
  | d :: ds, _, .cons a b => .cons (Rel.mono t d _ a) (Rels.mono t ds _ b)
end
theorem RelKV.mono {κ : Type} (t : Tx H H') : ∀ {xs : List (κ × V)} {ys : List (κ × D)}, RelKV K H xs ys → RelKV K H' xs ys
  | _, _, .nil => .nil
  | _, _, .cons a b => .cons ⟨a.1, Rel.mono t _ _ a.2⟩ (RelKV.mono t b)
theorem Slots.mono (t : Tx H H') (s : Slots K H τ σ) : Slots K H' τ σ := ⟨s.1, fun i d e => let ⟨v, h, r⟩ := s.2 i d e; ⟨v, h, Rel.mono t d v r⟩⟩
theorem Rels.length : ∀ {vs : List V} {ds : List D}, Rels K H vs ds → vs.length = ds.length
  | _, _, .nil => rfl
  | _, _, .cons _ b => by rw [List.length_cons, List.length_cons, Rels.length b]
theorem Rels.append : ∀ {vs ws : List V} {ds es : List D}, Rels K H vs ds → Rels K H ws es → Rels K H (vs ++ ws) (ds ++ es)
  | _, _, _, _, .nil, h => h
  | _, _, _, _, .cons a b, h => .cons a (Rels.append b h)
theorem Rels.get : ∀ {vs : List V} {ds : List D} {i : Nat} {d : D}, Rels K H vs ds → ds[i]? = some d → ∃ v, vs[i]? = some v ∧ Rel K H v d
  | _, _, i, d, .nil, e => by simp at e
  | _, _, 0, d, .cons a _, e => ⟨_, rfl, by simp at e; subst e; exact a⟩
  | _, _, i + 1, d, .cons _ b, e => by
    obtain ⟨v, h1, h2⟩ := Rels.get (i := i) (d := d) b (by simpa using e)
    exact ⟨v, by simpa using h1, h2⟩
theorem Rels.getV : ∀ {vs : List V} {ds : List D} {i : Nat} {v : V}, Rels K H vs ds → vs[i]? = some v → ∃ d, ds[i]? = some d ∧ Rel K H v d
  | _, _, i, d, .nil, e => by simp at e
  | _, _, 0, d, .cons a _, e => ⟨_, rfl, by simp at e; subst e; exact a⟩
  | _, _, i + 1, d, .cons _ b, e => by
    obtain ⟨v, h1, h2⟩ := Rels.getV (i := i) (v := d) b (by simpa using e)
    exact ⟨v, by simpa using h1, h2⟩
theorem Rels.set {v : V} {d : D} (r : Rel K H v d) : ∀ {vs : List V} {ds : List D} (i : Nat), Rels K H vs ds → Rels K H (vs.set i v) (ds.set i d)
  | _, _, _, .nil => .nil
  | _, _, 0, .cons _ b => .cons r b
  | _, _, i + 1, .cons a b => .cons a (Rels.set r i b)
theorem Rels.take : ∀ {vs : List V} {ds : List D} (n : Nat), Rels K H vs ds → Rels K H (vs.take n) (ds.take n)
  | _, _, 0, _ => .nil
  | _, _, _ + 1, .nil => .nil
  | _, _, n + 1, .cons a b => .cons a (Rels.take n b)
theorem Rels.drop : ∀ {vs : List V} {ds : List D} (n : Nat), Rels K H vs ds → Rels K H (vs.drop n) (ds.drop n)
  | _, _, 0, h => h
  | _, _, _ + 1, .nil => .nil
  | _, _, n + 1, .cons _ b => Rels.drop n b
theorem Slots.set {v : V} {d : D} (s : Slots K H τ σ) (r : Rel K H v d) (i : Nat) : Slots K H (τ.set i (some d)) (σ.set i (some v)) := by
  refine ⟨by rw [List.length_set, List.length_set]; exact s.1, fun j e h => ?_⟩
  by_cases hj : i = j
  · subst hj
    by_cases hi : i < τ.length
    · rw [List.getElem?_set_self hi] at h
      cases h
      exact ⟨v, by rw [List.getElem?_set_self (by rw [← s.1]; exact hi)], r⟩
    · rw [List.getElem?_eq_none (by rw [List.length_set]; omega)] at h; cases h
  · rw [List.getElem?_set_ne hj] at h
    obtain ⟨v', e', r'⟩ := s.2 j e h
    exact ⟨v', by rw [List.getElem?_set_ne hj]; exact e', r'⟩
/-- objects other than p are as they were: the store but p is borne again -/
theorem MRel.mono (t : Tx H H') {a : Addr} (e : H' a = H a) : ∀ {m : MO}, MRel K H a m → MRel K H' a m
  | .lst _, ⟨vs, h, r⟩ => ⟨vs, e.trans h, Rels.mono t _ _ r⟩
  | .dK _, ⟨vs, h, r⟩ => ⟨vs, e.trans h, RelKV.mono t r⟩
  | .dT _, ⟨vs, h, r⟩ => ⟨vs, e.trans h, RelKV.mono t r⟩
  | .ins _ _ _, ⟨vs, h, r⟩ => ⟨vs, e.trans h, RelKV.mono t r⟩
  | .xd _, ⟨vs, h, r⟩ => ⟨vs, e.trans h, RelKV.mono t r⟩
  | .fT _ _ _, ⟨vs, h, r, z⟩ => ⟨vs, e.trans h, RelKV.mono t r, z⟩
  | .fK _ _ _, ⟨vs, h, r, z⟩ => ⟨vs, e.trans h, RelKV.mono t r, z⟩
  | .fTp _ _, ⟨vs, h, r, z⟩ => ⟨vs, e.trans h, Rels.mono t _ _ r, z⟩
  | .xo _ _, ⟨u, h, r⟩ => ⟨u, e.trans h, r⟩
  | .tab _, ⟨ps, h, z, r⟩ => ⟨ps, e.trans h, z, fun pos cv q => let ⟨c, e1, e2⟩ := r pos cv q; ⟨c, e1, t.c _ _ e2⟩⟩
/-- a new untracked-by-the-store object -/
theorem tx_new {p : Addr} {o : HO} (n : H p = none) : Tx H (upd H p o) := ⟨fun a xs e => by rw [upd_ne (ne_of_none e n)]; exact e, fun a ob xs e => by rw [upd_ne (ne_of_none e n)]; exact e, fun a q e => by rw [upd_ne (ne_of_none e n)]; exact e⟩
theorem con_new {p : Addr} {o : HO} (n : H p = none) (c : Con K H μ) : Con K (upd H p o) μ := fun a m e => by
  have ha : a ≠ p := fun z => by subst z; rw [c.free n] at e; cases e
  exact (c a m e).mono (tx_new n) (upd_ne ha)
theorem fr_new {p : Addr} {o : HO} (n : H p = none) : Fr μ μ H (upd H p o) := fun a u h e => ⟨by rw [upd_ne (ne_of_none e n)]; exact e, h⟩
/-- .. and in the store -/
theorem con_put {p : Addr} {o : HO} {m : MO} (n : H p = none) (c : Con K H μ) (r : MRel K (upd H p o) p m) : Con K (upd H p o) (μ.set p m) := fun a m' e => by
  by_cases ha : a = p
  · subst ha; rw [set_same] at e; cases e; exact r
  · rw [set_ne ha] at e
    exact (c a m' e).mono (tx_new n) (upd_ne ha)
theorem fr_put {p : Addr} {o : HO} {m : MO} (n : H p = none) : Fr μ (μ.set p m) H (upd H p o) := fun a u h e => by
  have ha : a ≠ p := ne_of_none e n
  exact ⟨by rw [upd_ne ha]; exact e, by rw [set_ne ha]; exact h⟩
/-- an object of the store is changed -/
theorem tx_mut {p : Addr} {o : HO} {m : MO} (c : Con K H μ) (h : μ p = some m) : Tx H (upd H p o) :=
  ⟨fun a xs e => by rw [upd_ne (fun z => by subst z; rw [c.tn e] at h; cases h)]; exact e, fun a ob xs e => by rw [upd_ne (fun z => by subst z; rw [c.fn e] at h; cases h)]; exact e, fun a q e => by rw [upd_ne (fun z => by subst z; rw [c.cn e] at h; cases h)]; exact e⟩
theorem con_mut {p : Addr} {o : HO} {m m' : MO} (c : Con K H μ) (h : μ p = some m) (r : MRel K (upd H p o) p m') : Con K (upd H p o) (μ.set p m') := fun a u e => by
  by_cases ha : a = p
  · subst ha; rw [set_same] at e; cases e; exact r
  · rw [set_ne ha] at e
    exact (c a u e).mono (tx_mut c h) (upd_ne ha)
theorem fr_mut {p : Addr} {o : HO} {m m' : MO} (h : μ p = some m) : Fr μ (μ.set p m') H (upd H p o) := fun a u n e => by
  have ha : a ≠ p := fun z => by subst z; rw [n] at h; cases h
  exact ⟨by rw [upd_ne ha]; exact e, by rw [set_ne ha]; exact n⟩
/-- the store forgotten in part -/
def Sub (μ μ' : M) : Prop := ∀ a m, μ a = some m → μ' a = some m
theorem Sub.refl : Sub μ μ := fun _ _ h => h
theorem Sub.trans (a : Sub μ μ1) (b : Sub μ1 μ2) : Sub μ μ2 := fun x m h => b x m (a x m h)
theorem Sub.set {p : Addr} {m : MO} (h : μ p = none) : Sub μ (μ.set p m) := fun a m' e => by rw [set_ne (fun z => by subst z; rw [h] at e; cases e)]; exact e
theorem Con.sub (s : Sub μ μ') (c : Con K H μ') : Con K H μ := fun a m e => c a m (s a m e)
theorem Sub.none (s : Sub μ μ') {a : Addr} (h : μ' a = Option.none) : μ a = Option.none := by
  cases q : μ a with
  | none => rfl
  | some m => rw [s a m q] at h; cases h
theorem Fr.sub (f : Fr μ μ1 H H1) (s : Sub μ2 μ1) : Fr μ μ2 H H1 := fun a o n e => let ⟨e1, h1⟩ := f a o n e; ⟨e1, s.none h1⟩
end
def AE (K : PySem.W.Frag) (t : TE) (τ : T) (μ : M) (Φ : D → M → Prop) : Prop :=
  ∀ σ H, Slots K H τ σ → Con K H μ → ∀ Q : VK, (∀ d μ' v H', Fr μ μ' H H' → Con K H' μ' → Rel K H' v d → Φ d μ' → Q v H') → t σ H Q
def AA (K : PySem.W.Frag) (t : TA) (τ : T) (μ : M) (Φ : List D → M → Prop) : Prop :=
  ∀ σ H, Slots K H τ σ → Con K H μ → ∀ Q : List V → Hp → Prop, (∀ d μ' v H', Fr μ μ' H H' → Con K H' μ' → Rels K H' v d → Φ d μ' → Q v H') → t σ H Q
def AT (K : PySem.W.Frag) (t : TT) (τ : T) (μ : M) (Φ : Bool → M → Prop) : Prop :=
  ∀ σ H, Slots K H τ σ → Con K H μ → ∀ Q : Bool → Hp → Prop, (∀ b μ' H', Fr μ μ' H H' → Con K H' μ' → Φ b μ' → Q b H') → t σ H Q
structure AEnds where
  nx : T → M → Prop
  rt : D → M → Prop
  bk : T → M → Prop := fun _ _ => False
  ct : T → M → Prop := fun _ _ => False
  /-- what is wished of an exception; what the names of classes stand for; what holds where one is raised -/
  W : WX := fun _ _ _ _ => False
  cn : Str → Option Value := fun _ => none
  xs : Str → Option Addr → T → M → Prop := fun _ _ _ _ => False
/-- the concrete ends that follow from the abstract ones -/
structure EndsOk (K : PySem.W.Frag) (N : AEnds) (μ : M) (H : Hp) (E : Ends) : Prop where
  nx : ∀ τ' μ' σ' H', Fr μ μ' H H' → Con K H' μ' → Slots K H' τ' σ' → N.nx τ' μ' → E.nx σ' H'
  rt : ∀ d μ' v H', Fr μ μ' H H' → Con K H' μ' → Rel K H' v d → N.rt d μ' → E.rt v H'
  bk : ∀ τ' μ' σ' H', Fr μ μ' H H' → Con K H' μ' → Slots K H' τ' σ' → N.bk τ' μ' → E.bk σ' H'
  ct : ∀ τ' μ' σ' H', Fr μ μ' H H' → Con K H' μ' → Slots K H' τ' σ' → N.ct τ' μ' → E.ct σ' H'
  wx : ∀ x dx τ' μ' cls σ' H', N.cn x = some cls → Fr μ μ' H H' → Con K H' μ' → Slots K H' τ' σ' → N.xs x dx τ' μ' → N.W cls dx σ' H'
def AS (K : PySem.W.Frag) (t : TS) (τ : T) (μ : M) (N : AEnds) : Prop :=
  ∀ σ H, Slots K H τ σ → Con K H μ → ∀ E : Ends, EndsOk K N μ H E → t E σ H
/-- a target -/
def AG (K : PySem.W.Frag) (g : TG) (d : D) (τ : T) (μ : M) (Φ : T → M → Prop) : Prop :=
  ∀ σ H v, Slots K H τ σ → Con K H μ → Rel K H v d → ∀ Q : St → Hp → Prop, (∀ τ' μ' σ' H', Fr μ μ' H H' → Con K H' μ' → Slots K H' τ' σ' → Φ τ' μ' → Q σ' H') → g v σ H Q
def AGs (K : PySem.W.Frag) (g : TGs) (ds : List D) (τ : T) (μ : M) (Φ : T → M → Prop) : Prop :=
  ∀ σ H vs, Slots K H τ σ → Con K H μ → Rels K H vs ds → ∀ Q : St → Hp → Prop, (∀ τ' μ' σ' H', Fr μ μ' H H' → Con K H' μ' → Slots K H' τ' σ' → Φ τ' μ' → Q σ' H') → g vs σ H Q
/-- an operation on values -/
def RO (K : PySem.W.Frag) (r : R2) (d e : D) (μ : M) (Φ : D → M → Prop) : Prop :=
  ∀ H x y, Con K H μ → Rel K H x d → Rel K H y e → ∀ Q : VK, (∀ z μ' v H', Fr μ μ' H H' → Con K H' μ' → Rel K H' v z → Φ z μ' → Q v H') → r x y H Q
def RU (K : PySem.W.Frag) (r : V → Hp → VK → Prop) (d : D) (μ : M) (Φ : D → M → Prop) : Prop :=
  ∀ H x, Con K H μ → Rel K H x d → ∀ Q : VK, (∀ z μ' v H', Fr μ μ' H H' → Con K H' μ' → Rel K H' v z → Φ z μ' → Q v H') → r x H Q
def RC (K : PySem.W.Frag) (r : List V → Hp → VK → Prop) (ds : List D) (μ : M) (Φ : D → M → Prop) : Prop :=
  ∀ H xs, Con K H μ → Rels K H xs ds → ∀ Q : VK, (∀ z μ' v H', Fr μ μ' H H' → Con K H' μ' → Rel K H' v z → Φ z μ' → Q v H') → r xs H Q
section
variable {K : PySem.W.Frag} {τ : T} {μ : M} {Φ Ψ : D → M → Prop} {ta tb te : TE} {r : R2} {t u : TT} {x y z d e : D}
theorem AE.imp (h : AE K te τ μ Φ) (k : ∀ d μ', Φ d μ' → Ψ d μ') : AE K te τ μ Ψ := fun σ H s c Q q => h σ H s c Q fun d μ' v H' f c' r p => q d μ' v H' f c' r (k d μ' p)
theorem AT.imp {Φ Ψ : Bool → M → Prop} (h : AT K t τ μ Φ) (k : ∀ d μ', Φ d μ' → Ψ d μ') : AT K t τ μ Ψ := fun σ H s c Q q => h σ H s c Q fun d μ' H' f c' p => q d μ' H' f c' (k d μ' p)
theorem a_var {i : Nat} (h : τ[i]? = some (some d)) (q : Φ d μ) : AE K (tVar i) τ μ Φ := fun σ H s c Q k => by
  obtain ⟨v, e, r⟩ := s.2 i d h
  exact ⟨v, e, k d μ v H Fr.refl c r q⟩
theorem a_int {n : Int} (q : Φ (.int n) μ) : AE K (tC (.int n)) τ μ Φ := fun σ H s c Q k => k _ μ _ H Fr.refl c (.int n) q
theorem a_bl {n : Bool} (q : Φ (.bl n) μ) : AE K (tC (.bl n)) τ μ Φ := fun σ H s c Q k => k _ μ _ H Fr.refl c (.bl n) q
theorem a_str {n : Str} (q : Φ (.str n) μ) : AE K (tC (.str n)) τ μ Φ := fun σ H s c Q k => k _ μ _ H Fr.refl c (.str n) q
theorem a_non (q : Φ .non μ) : AE K (tC .non) τ μ Φ := fun σ H s c Q k => k _ μ _ H Fr.refl c .non q
theorem a_ty {n : String} (q : Φ (.ty n) μ) : AE K (tC (.ty n)) τ μ Φ := fun σ H s c Q k => k _ μ _ H Fr.refl c (.ty n) q
theorem a_op (h : AE K ta τ μ fun d μ1 => AE K tb τ μ1 fun e μ2 => RO K r d e μ2 Φ) : AE K (tOp r ta tb) τ μ Φ := fun σ H s c Q k =>
  h σ H s c _ fun d μ1 v H1 f1 c1 r1 p1 => p1 σ H1 (s.mono (f1.tx c)) c1 _ fun e μ2 u H2 f2 c2 r2 p2 =>
    p2 H2 v u c2 (Rel.mono (f2.tx c1) _ _ r1) r2 Q fun z μ' w H' f c' rz pz => k z μ' w H' ((f1.trans f2).trans f) c' rz pz
theorem a_un {r : V → Hp → VK → Prop} (h : AE K ta τ μ fun d μ1 => RU K r d μ1 Φ) : AE K (tUn r ta) τ μ Φ := fun σ H s c Q k =>
  h σ H s c _ fun d μ1 v H1 f1 c1 r1 p1 => p1 H1 v c1 r1 Q fun z μ' w H' f c' rz pz => k z μ' w H' (f1.trans f) c' rz pz
theorem aa_nil {Φ : List D → M → Prop} (q : Φ [] μ) : AA K tNil τ μ Φ := fun σ H s c Q k => k _ μ _ H Fr.refl c .nil q
theorem aa_cons {Φ : List D → M → Prop} {tr : TA} (h : AE K ta τ μ fun d μ1 => AA K tr τ μ1 fun ds μ2 => Φ (d :: ds) μ2) : AA K (tCons ta tr) τ μ Φ := fun σ H s c Q k =>
  h σ H s c _ fun d μ1 v H1 f1 c1 r1 p1 => p1 σ H1 (s.mono (f1.tx c)) c1 _ fun ds μ2 us H2 f2 c2 r2 p2 => k _ μ2 _ H2 (f1.trans f2) c2 (.cons (Rel.mono (f2.tx c1) _ _ r1) r2) p2
theorem a_tup {ta : TA} (h : AA K ta τ μ fun ds μ1 => ds.length ≤ sizeLine ∧ Φ (.tup ds) μ1) : AE K (tTup ta) τ μ Φ := fun σ H s c Q k =>
  h σ H s c _ fun ds μ1 vs H1 f1 c1 r1 ⟨hz, p1⟩ => ⟨by rw [r1.length]; exact hz, fun p hp => k _ μ1 _ _ (f1.trans (fr_new hp)) (con_new hp c1) (.tup (.inl upd_same) (Rels.mono (tx_new hp) _ _ r1)) p1⟩
theorem a_lst {ta : TA} (h : AA K ta τ μ fun ds μ1 => ds.length ≤ sizeLine ∧ ∀ p, μ1 p = none → Φ (.ref p) (μ1.set p (.lst ds))) : AE K (tLst ta) τ μ Φ := fun σ H s c Q k =>
  h σ H s c _ fun ds μ1 vs H1 f1 c1 r1 ⟨hz, p1⟩ => ⟨by rw [r1.length]; exact hz, fun p hp => k _ _ _ _ (f1.trans (fr_put hp)) (con_put (m := .lst ds) hp c1 ⟨vs, upd_same, Rels.mono (tx_new hp) _ _ r1⟩) (.ref p) (p1 p (c1.free hp))⟩
theorem a_cb {r : List V → Hp → VK → Prop} {ta : TA} (h : AA K ta τ μ fun ds μ1 => RC K r ds μ1 Φ) : AE K (tCB r ta) τ μ Φ := fun σ H s c Q k =>
  h σ H s c _ fun ds μ1 vs H1 f1 c1 r1 p1 => p1 H1 vs c1 r1 Q fun z μ' w H' f c' rz pz => k z μ' w H' (f1.trans f) c' rz pz
theorem a_if (h : AT K t τ μ fun b μ1 => if b = true then AE K ta τ μ1 Φ else AE K tb τ μ1 Φ) : AE K (tIf t ta tb) τ μ Φ := fun σ H s c Q k =>
  h σ H s c _ fun b μ1 H1 f1 c1 p1 => by
    cases b with
    | true => exact (show AE K ta τ μ1 Φ from p1) σ H1 (s.mono (f1.tx c)) c1 Q fun z μ' w H' f c' rz pz => k z μ' w H' (f1.trans f) c' rz pz
    | false => exact (show AE K tb τ μ1 Φ from p1) σ H1 (s.mono (f1.tx c)) c1 Q fun z μ' w H' f c' rz pz => k z μ' w H' (f1.trans f) c' rz pz
theorem a_andV (h : AE K ta τ μ fun d μ1 => ∃ b, d = .bl b ∧ if b = true then AE K tb τ μ1 Φ else Φ (.bl false) μ1) : AE K (tAndV ta tb) τ μ Φ := fun σ H s c Q k =>
  h σ H s c _ fun d μ1 v H1 f1 c1 r1 ⟨b, e, p1⟩ => by
    subst e
    cases r1
    refine ⟨b, rfl, ?_⟩
    cases b with
    | true => exact (show AE K tb τ μ1 Φ from p1) σ H1 (s.mono (f1.tx c)) c1 Q fun z μ' w H' f c' rz pz => k z μ' w H' (f1.trans f) c' rz pz
    | false => exact k _ μ1 _ H1 f1 c1 (.bl false) (show Φ (.bl false) μ1 from p1)
theorem a_orV (h : AE K ta τ μ fun d μ1 => ∃ b, d = .bl b ∧ if b = true then Φ (.bl true) μ1 else AE K tb τ μ1 Φ) : AE K (tOrV ta tb) τ μ Φ := fun σ H s c Q k =>
  h σ H s c _ fun d μ1 v H1 f1 c1 r1 ⟨b, e, p1⟩ => by
    subst e
    cases r1
    refine ⟨b, rfl, ?_⟩
    cases b with
    | true => exact k _ μ1 _ H1 f1 c1 (.bl true) (show Φ (.bl true) μ1 from p1)
    | false => exact (show AE K tb τ μ1 Φ from p1) σ H1 (s.mono (f1.tx c)) c1 Q fun z μ' w H' f c' rz pz => k z μ' w H' (f1.trans f) c' rz pz
theorem a_notV (h : AE K ta τ μ fun d μ1 => ∃ b, d = .bl b ∧ Φ (.bl (!b)) μ1) : AE K (tNotV ta) τ μ Φ := fun σ H s c Q k =>
  h σ H s c _ fun d μ1 v H1 f1 c1 r1 ⟨b, e, p1⟩ => by
    subst e
    cases r1
    exact ⟨b, rfl, k _ μ1 _ H1 f1 c1 (.bl _) p1⟩
variable {Θ : Bool → M → Prop}
theorem at_test (h : AE K te τ μ fun d μ1 => ∃ b, d = .bl b ∧ Θ b μ1) : AT K (tTest te) τ μ Θ := fun σ H s c Q k =>
  h σ H s c _ fun d μ1 v H1 f1 c1 r1 ⟨b, e, p1⟩ => by
    subst e
    cases r1
    exact ⟨b, rfl, k b μ1 H1 f1 c1 p1⟩
theorem at_B (h : AE K te τ μ fun d μ1 => ∃ b, d = .bl b ∧ Θ b μ1) : AT K (tB te) τ μ Θ := fun σ H s c Q k =>
  h σ H s c _ fun d μ1 v H1 f1 c1 r1 ⟨b, e, p1⟩ => by
    subst e
    cases r1
    exact ⟨b, rfl, k b μ1 H1 f1 c1 p1⟩
theorem at_and (h : AT K t τ μ fun b μ1 => if b = true then AT K u τ μ1 Θ else Θ false μ1) : AT K (tAnd t u) τ μ Θ := fun σ H s c Q k =>
  h σ H s c _ fun b μ1 H1 f1 c1 p1 => by
    cases b with
    | true => exact (show AT K u τ μ1 Θ from p1) σ H1 (s.mono (f1.tx c)) c1 Q fun z μ' H' f c' pz => k z μ' H' (f1.trans f) c' pz
    | false => exact k false μ1 H1 f1 c1 (show Θ false μ1 from p1)
theorem at_or (h : AT K t τ μ fun b μ1 => if b = true then Θ true μ1 else AT K u τ μ1 Θ) : AT K (tOr t u) τ μ Θ := fun σ H s c Q k =>
  h σ H s c _ fun b μ1 H1 f1 c1 p1 => by
    cases b with
    | true => exact k true μ1 H1 f1 c1 (show Θ true μ1 from p1)
    | false => exact (show AT K u τ μ1 Θ from p1) σ H1 (s.mono (f1.tx c)) c1 Q fun z μ' H' f c' pz => k z μ' H' (f1.trans f) c' pz
theorem at_not (h : AT K t τ μ fun b μ1 => Θ (!b) μ1) : AT K (tNot t) τ μ Θ := fun σ H s c Q k => h σ H s c _ fun b μ1 H1 f1 c1 p1 => k (!b) μ1 H1 f1 c1 p1
end
end Z
namespace Z
open PySem L2
section
variable {K : PySem.W.Frag} {τ : T} {μ μ1 μ2 : M} {H H1 H2 : Hp} {σ : L2.St} {Φ Ψ : D → M → Prop} {ta tb tc te : TE} {r r' : R2} {t u : TT} {x y z d e : D} {N : AEnds} {ts us : TS} {g : TG} {D0 E : Ends}
theorem EndsOk.step {μ' : M} {H' : Hp} (k : EndsOk K N μ H E) (f : Fr μ μ' H H') : EndsOk K N μ' H' E :=
  ⟨fun a b c d' f' => k.nx a b c d' (f.trans f'), fun a b c d' f' => k.rt a b c d' (f.trans f'), fun a b c d' f' => k.bk a b c d' (f.trans f'), fun a b c d' f' => k.ct a b c d' (f.trans f'), fun x1 x2 x3 x4 x5 x6 x7 x8 f' => k.wx x1 x2 x3 x4 x5 x6 x7 x8 (f.trans f')⟩
theorem s_seq (h : AS K ts τ μ { N with nx := fun τ' μ' => AS K us τ' μ' N }) : AS K (tSeq ts us) τ μ N := fun σ H s c E k =>
  h σ H s c _ ⟨fun τ' μ' σ' H' f c' s' p => p σ' H' s' c' E (k.step f), k.rt, k.bk, k.ct, k.wx⟩
theorem s_next (h : N.nx τ μ) : AS K tNext τ μ N := fun σ H s c E k => k.nx τ μ σ H Fr.refl c s h
theorem s_drop (h : AE K te τ μ fun _ μ' => N.nx τ μ') : AS K (tDrop te) τ μ N := fun σ H s c E k =>
  h σ H s c _ fun d μ' v H' f c' r p => k.nx τ μ' σ H' f c' (s.mono (f.tx c)) p
theorem s_ret (h : AE K te τ μ N.rt) : AS K (tRet te) τ μ N := fun σ H s c E k => h σ H s c _ fun d μ' v H' f c' r p => k.rt d μ' v H' f c' r p
theorem s_retN (h : N.rt .non μ) : AS K tRetN τ μ N := fun σ H s c E k => k.rt .non μ .non H Fr.refl c .non h
theorem s_if (h : AT K t τ μ fun b μ' => if b = true then AS K ts τ μ' N else AS K us τ μ' N) : AS K (tIfS t ts us) τ μ N := fun σ H s c E k =>
  h σ H s c _ fun b μ' H' f c' p => by
    cases b with
    | true => exact (show AS K ts τ μ' N from p) σ H' (s.mono (f.tx c)) c' E (k.step f)
    | false => exact (show AS K us τ μ' N from p) σ H' (s.mono (f.tx c)) c' E (k.step f)
theorem s_asg (h : AE K te τ μ fun d μ' => AG K g d τ μ' N.nx) : AS K (tAsg te g) τ μ N := fun σ H s c E k =>
  h σ H s c _ fun d μ' v H' f c' r p => p σ H' v (s.mono (f.tx c)) c' r _ fun τ2 μ2 σ2 H2 f2 c2 s2 q => k.nx τ2 μ2 σ2 H2 (f.trans f2) c2 s2 q
theorem g_name {i : Nat} {Θ : T → M → Prop} (h : Θ (τ.set i (some d)) μ) : AG K (gName i) d τ μ Θ := fun σ H v s c r Q k => k _ μ _ H Fr.refl c (s.set r i) h
theorem gs_nil {Θ : T → M → Prop} (h : Θ τ μ) : AGs K gNil [] τ μ Θ := fun σ H vs s c r Q k => by
  cases r
  exact ⟨rfl, k τ μ σ H Fr.refl c s h⟩
theorem gs_cons {gs : TGs} {ds : List D} {Θ : T → M → Prop} (h : AG K g d τ μ fun τ' μ' => AGs K gs ds τ' μ' Θ) : AGs K (gCons g gs) (d :: ds) τ μ Θ := fun σ H vs s c r Q k => by
  cases r with
  | cons r1 r2 =>
    rename_i v vs'
    exact ⟨v, vs', rfl, h σ H v s c r1 _ fun τ' μ' σ' H' f c' s' p => p σ' H' vs' s' c' (Rels.mono (f.tx c) _ _ r2) Q fun τ2 μ2 σ2 H2 f2 c2 s2 q => k τ2 μ2 σ2 H2 (f.trans f2) c2 s2 q⟩
theorem g_tup {n : Nat} {gs : TGs} {ds : List D} {Θ : T → M → Prop} (hn : ds.length = n) (h : AGs K gs ds τ μ Θ) : AG K (gTup K n gs) (.tup ds) τ μ Θ := fun σ H v s c r Q k => by
  cases r with
  | tup ht hr => exact ⟨_, _, rfl, ht.sq, by rw [hr.length]; exact hn, h σ H _ s c hr Q k⟩
/-- o[i] = v -/
def ASet (K : PySem.W.Frag) (t : TSet) (o i d : D) (μ : M) (Θ : M → Prop) : Prop :=
  ∀ H a b v, Con K H μ → Rel K H a o → Rel K H b i → Rel K H v d → ∀ Q : Hp → Prop, (∀ μ' H', Fr μ μ' H H' → Con K H' μ' → Θ μ' → Q H') → t a b v H Q
theorem g_sub {to ti : TE} {tset : TSet} {Θ : T → M → Prop} (h : AE K to τ μ fun o μ1 => AE K ti τ μ1 fun i μ2 => ASet K tset o i d μ2 fun μ3 => Θ τ μ3) : AG K (gSub to ti tset) d τ μ Θ := fun σ H v s c r Q k =>
  h σ H s c _ fun o μ1 a H1 f1 c1 r1 p1 => p1 σ H1 (s.mono (f1.tx c)) c1 _ fun i μ2 b H2 f2 c2 r2 p2 =>
    p2 H2 a b v c2 (Rel.mono (f2.tx c1) _ _ r1) r2 (Rel.mono ((f1.trans f2).tx c) _ _ r) _ fun μ3 H3 f3 c3 p3 => k τ μ3 σ H3 ((f1.trans f2).trans f3) c3 (s.mono (((f1.trans f2).trans f3).tx c)) p3
theorem s_par {i j : Nat} {ta : TA} (h : AA K ta τ μ fun ds μ' => ∃ d e, ds = [d, e] ∧ N.nx ((τ.set i (some d)).set j (some e)) μ') : AS K (tPar i j ta) τ μ N := fun σ H s c E k =>
  h σ H s c _ fun ds μ' vs H' f c' r ⟨d, e, q, p⟩ => by
    subst q
    cases r with
    | cons r1 r2 =>
      cases r2 with
      | cons r2 r3 =>
        cases r3
        exact ⟨_, _, rfl, k.nx _ μ' _ H' f c' (((s.mono (f.tx c)).set r1 i).set r2 j) p⟩
/-- a op= b, by values -/
theorem s_aug {i : Nat} {ti : TIp} (hx : τ[i]? = some (some d)) (h : AE K te τ μ fun e μ1 => RO K ti d e μ1 fun z μ2 => N.nx (τ.set i (some z)) μ2) : AS K (tAug i te ti) τ μ N := fun σ H s c E k => by
  obtain ⟨v, e1, r1⟩ := s.2 i d hx
  exact ⟨v, e1, h σ H s c _ fun e μ1 u H1 f1 c1 r2 p1 => p1 H1 v u c1 (Rel.mono (f1.tx c) _ _ r1) r2 _ fun z μ2 w H2 f2 c2 rz p2 =>
    k.nx _ μ2 _ H2 (f1.trans f2) c2 ((s.mono ((f1.trans f2).tx c)).set rz i) p2⟩
theorem AS.imp {nx' bk' ct' : T → M → Prop} {rt' : D → M → Prop} (h : AS K ts τ μ N) (h1 : ∀ a b, N.nx a b → nx' a b) (h2 : ∀ a b, N.rt a b → rt' a b) (h3 : ∀ a b, N.bk a b → bk' a b) (h4 : ∀ a b, N.ct a b → ct' a b) : AS K ts τ μ { N with nx := nx', rt := rt', bk := bk', ct := ct' } := fun σ H s c E q =>
  h σ H s c E ⟨fun a b c' d' f x y p => q.nx a b c' d' f x y (h1 _ _ p), fun a b c' d' f x y p => q.rt a b c' d' f x y (h2 _ _ p), fun a b c' d' f x y p => q.bk a b c' d' f x y (h3 _ _ p), fun a b c' d' f x y p => q.ct a b c' d' f x y (h4 _ _ p), q.wx⟩
theorem s_while {tt : TT} {tb : TS} (W : Nat → T → M → Prop) (m0 : Nat) (h0 : W m0 τ μ)
    (hs : ∀ m τ' μ', W m τ' μ' → AT K tt τ' μ' fun b μ1 => if b = true then AS K tb τ' μ1 { N with nx := fun τ2 μ2 => ∃ m', m' < m ∧ W m' τ2 μ2, ct := fun τ2 μ2 => ∃ m', m' < m ∧ W m' τ2 μ2, bk := N.nx } else N.nx τ' μ1) :
    AS K (tWhile tt tb) τ μ N := fun σ H s c E k =>
  ⟨fun m σ' H' => ∃ τ' μ', Fr μ μ' H H' ∧ Con K H' μ' ∧ Slots K H' τ' σ' ∧ W m τ' μ', ⟨m0, τ, μ, Fr.refl, c, s, h0⟩, fun m σ' H' ⟨τ', μ', f, c', s', w⟩ =>
    hs m τ' μ' w σ' H' s' c' _ fun b μ1 H1 f1 c1 p => by
      cases b with
      | true =>
        refine ⟨fun σ2 H2 => ∃ m', m' < m ∧ ∃ τ' μ', Fr μ μ' H H2 ∧ Con K H2 μ' ∧ Slots K H2 τ' σ2 ∧ W m' τ' μ', fun σ2 H2 q => q, ?_⟩
        refine (show AS K tb τ' μ1 _ from p) σ' H1 (s'.mono (f1.tx c')) c1 _ ⟨fun τ2 μ2 σ2 H2 f2 c2 s2 ⟨m', hm, w'⟩ => ⟨m', hm, τ2, μ2, (f.trans f1).trans f2, c2, s2, w'⟩, fun d' μ2 v H2 f2 => k.rt d' μ2 v H2 ((f.trans f1).trans f2), fun τ2 μ2 σ2 H2 f2 c2 s2 q => k.nx τ2 μ2 σ2 H2 ((f.trans f1).trans f2) c2 s2 q, fun τ2 μ2 σ2 H2 f2 c2 s2 ⟨m', hm, w'⟩ => ⟨m', hm, τ2, μ2, (f.trans f1).trans f2, c2, s2, w'⟩, fun x1 x2 x3 x4 x5 x6 x7 x8 f' => k.wx x1 x2 x3 x4 x5 x6 x7 x8 ((f.trans f1).trans f')⟩
      | false => exact k.nx τ' μ1 σ' H1 (f.trans f1) c1 (s'.mono (f1.tx c')) (show N.nx τ' μ1 from p)⟩
/-- the ends of a turn -/
def turnE (N : AEnds) (P : T → M → Prop) : AEnds := { N with nx := P, ct := P, bk := N.nx }
theorem turn_ok {μ0 : M} {H0 : Hp} {P : T → M → Prop} {Pc : L2.St → Hp → Prop} (k : EndsOk K N μ0 H0 E) (f : Fr μ0 μ H0 H) (hp : ∀ τ' μ' σ' H', Fr μ0 μ' H0 H' → Con K H' μ' → Slots K H' τ' σ' → P τ' μ' → Pc σ' H') :
    EndsOk K (turnE N P) μ H { E with nx := Pc, ct := Pc, bk := E.nx } :=
  ⟨fun τ' μ' σ' H' f' c s p => hp τ' μ' σ' H' (f.trans f') c s p, fun d' μ' v H' f' => k.rt d' μ' v H' (f.trans f'), fun τ' μ' σ' H' f' => k.nx τ' μ' σ' H' (f.trans f'), fun τ' μ' σ' H' f' c s p => hp τ' μ' σ' H' (f.trans f') c s p, fun x1 x2 x3 x4 x5 x6 x7 x8 f' => k.wx x1 x2 x3 x4 x5 x6 x7 x8 (f.trans f')⟩
/-- the list a is set aside while it is walked -/
def M.del (μ : M) (a : Addr) : M := fun b => if b = a then none else μ b
theorem del_same {a : Addr} : μ.del a a = none := by unfold M.del; rw [if_pos rfl]
theorem del_ne {a b : Addr} (h : b ≠ a) : μ.del a b = μ b := by unfold M.del; rw [if_neg h]
theorem con_back {μ' : M} {a : Addr} {m : MO} (c : Con K H μ') (r : MRel K H a m) : Con K H (μ'.set a m) := fun x u e => by
  by_cases hx : x = a
  · subst hx; rw [set_same] at e; cases e; exact r
  · rw [set_ne hx] at e; exact c x u e
/-- for over a range -/
theorem s_forN {wi : TI} {lo : Int} {n : Nat} {tb : TS} (P : Nat → T → M → Prop) (hw : ∀ σ H, Slots K H τ σ → Con K H μ → ∀ R : It → Hp → Prop, (∀ μ1 H1, Fr μ μ1 H H1 → Con K H1 μ1 → P 0 τ μ1 → R (Itr lo n) H1) → wi σ H R)
    (hs : ∀ (i : Nat) τ' μ', i < n → P i τ' μ' → AG K g (.int (lo + i)) τ' μ' fun τ2 μ2 => AS K tb τ2 μ2 (turnE N (P (i + 1)))) (hd : ∀ τ' μ', P n τ' μ' → N.nx τ' μ') : AS K (tFor wi g tb) τ μ N := fun σ H s c E k =>
  hw σ H s c _ fun μ1 H1 f1 c1 p0 => by
    refine for_range (lo := lo) (n := n) (fun i σ' H' => ∃ τ' μ', Fr μ μ' H H' ∧ Con K H' μ' ∧ Slots K H' τ' σ' ∧ P i τ' μ') ⟨τ, μ1, f1, c1, s.mono (f1.tx c), p0⟩ ?_ ?_
    · rintro i σ' H' hi ⟨τ', μ', f, c', s', p⟩
      refine hs i τ' μ' hi p σ' H' _ s' c' (.int _) _ fun τ2 μ2 σ2 H2 f2 c2 s2 q => ?_
      exact q σ2 H2 s2 c2 _ (turn_ok (k.step f) f2 fun τ3 μ3 σ3 H3 f3 c3 s3 p3 => ⟨τ3, μ3, f.trans f3, c3, s3, p3⟩)
    · rintro σ' H' ⟨τ', μ', f, c', s', p⟩
      exact k.nx τ' μ' σ' H' f c' s' (hd τ' μ' p)
theorem s_for1 {ta : TA} {tb : TS} (n : Int) (P : Nat → T → M → Prop) (h : AA K ta τ μ fun ds μ1 => ds = [.int n] ∧ -(2 ^ 62) ≤ n ∧ n < 2 ^ 62 ∧ P 0 τ μ1)
    (hs : ∀ (i : Nat) τ' μ', (i : Int) < n → P i τ' μ' → AG K g (.int i) τ' μ' fun τ2 μ2 => AS K tb τ2 μ2 (turnE N (P (i + 1)))) (hd : ∀ τ' μ', P n.toNat τ' μ' → N.nx τ' μ') : AS K (tFor (iRng1 ta) g tb) τ μ N := by
  refine s_forN (lo := 0) (n := n.toNat) P (fun σ H s c R k => h σ H s c _ fun ds μ1 vs H1 f1 c1 r1 ⟨e, h1, h2, p⟩ => ?_) (fun i τ' μ' hi p => ?_) hd
  · subst e
    cases r1 with
    | cons r rr =>
      cases r
      cases rr
      exact ⟨n, rfl, h1, h2, k μ1 H1 f1 c1 p⟩
  · rw [Int.zero_add]
    exact hs i τ' μ' (by omega) p
end
end Z
namespace Z
open PySem L2
def seqD (μ : M) : D → Option (List D)
  | .tup ds => some ds
  | .rol ds => some ds
  | .ref a => match μ a with
    | some (.lst ds) => some ds
    | _ => none
  | _ => none
section
variable {K : PySem.W.Frag} {τ : T} {μ μ1 μ2 : M} {H H1 H2 : Hp} {σ : L2.St} {Φ Ψ : D → M → Prop} {ta tb tc te : TE} {r r' : R2} {t u : TT} {x y z d e : D} {N : AEnds} {ts us : TS}
theorem seq_of {v : V} {ds : List D} (c : Con K H μ) (r : Rel K H v d) (h : seqD μ d = some ds) : ∃ a xs, v = .ref a ∧ (SqL K H a xs ∨ SqT K H a xs) ∧ Rels K H xs ds := by
  cases r with
  | tup ht hr => cases h; exact ⟨_, _, rfl, .inr ht.sq, hr⟩
  | rol ht hr => cases h; exact ⟨_, _, rfl, .inl ht.sq, hr⟩
  | ref a =>
    unfold seqD at h
    simp only at h
    split at h
    · rename_i ds' e
      cases h
      obtain ⟨xs, h1, h2⟩ := c _ _ e
      exact ⟨_, xs, rfl, .inl (SqL.of h1), h2⟩
    · cases h
  | non => cases h
  | bl => cases h
  | int => cases h
  | str => cases h
  | ty => cases h
theorem ro_i {f : Int → Int → Int} {i j : Int} (q : Φ (.int (f i j)) μ) : RO K (rI0 fun i j => V.int (f i j)) (.int i) (.int j) μ Φ := fun H x y c r1 r2 Q k => by
  cases r1; cases r2
  exact ⟨i, j, rfl, rfl, k _ μ _ H Fr.refl c (.int _) q⟩
theorem ro_b {f : Int → Int → Bool} {i j : Int} (q : Φ (.bl (f i j)) μ) : RO K (rI0 fun i j => V.bl (f i j)) (.int i) (.int j) μ Φ := fun H x y c r1 r2 Q k => by
  cases r1; cases r2
  exact ⟨i, j, rfl, rfl, k _ μ _ H Fr.refl c (.bl _) q⟩
theorem ro_c {C : Int → Int → Prop} {f : Int → Int → Int} {i j : Int} (hc : C i j) (q : Φ (.int (f i j)) μ) : RO K (rI C fun i j => V.int (f i j)) (.int i) (.int j) μ Φ := fun H x y c r1 r2 Q k => by
  cases r1; cases r2
  exact ⟨i, j, rfl, rfl, hc, k _ μ _ H Fr.refl c (.int _) q⟩
theorem ru_i {f : Int → Int} {i : Int} (q : Φ (.int (f i)) μ) : RU K (rU fun i => V.int (f i)) (.int i) μ Φ := fun H x c r1 Q k => by
  cases r1
  exact ⟨i, rfl, k _ μ _ H Fr.refl c (.int _) q⟩
theorem at_len {xs : List V} {ds : List D} {i : Int} {d : D} (r : Rels K H xs ds) (h : atI ds i = some d) : ∃ v, atI xs i = some v ∧ Rel K H v d := by
  unfold atI at h ⊢
  rw [r.length]
  cases e : ixN ds.length i with
  | none => rw [e] at h; cases h
  | some j =>
    rw [e] at h
    exact r.get h
theorem ro_ix {ds : List D} {i : Int} (hs : seqD μ d = some ds) (hi : atI ds i = some e) (q : Φ e μ) : RO K (rIx K) d (.int i) μ Φ := fun H x y c r1 r2 Q k => by
  cases r2
  obtain ⟨a, xs, rfl, hq, hr⟩ := seq_of c r1 hs
  obtain ⟨v, hv, rv⟩ := at_len hr hi
  rcases hq with hq | hq
  · exact .inl ⟨a, xs, i, v, rfl, rfl, hq, hv, k e μ v H Fr.refl c rv q⟩
  · exact .inr (.inl ⟨a, xs, i, v, rfl, rfl, hq, hv, k e μ v H Fr.refl c rv q⟩)
theorem set_lst {a : Addr} {ds : List D} {i : Int} {j : Nat} {Θ : M → Prop} (h : μ a = some (.lst ds)) (hi : ixN ds.length i = some j) (q : Θ (μ.set a (.lst (ds.set j d)))) : ASet K rSetL (.ref a) (.int i) d μ Θ := fun H x y v c r1 r2 r3 Q k => by
  cases r1; cases r2
  obtain ⟨xs, hx, hr⟩ := c a _ h
  exact ⟨a, xs, i, j, rfl, rfl, hx, by rw [hr.length]; exact hi, k _ _ (fr_mut h) (con_mut (m' := .lst (ds.set j d)) c h ⟨_, upd_same, Rels.mono (tx_mut c h) _ _ (Rels.set r3 j hr)⟩) q⟩
mutual
def D.py : D → PyData
  | .bl b => .bool b
  | .int i => .int i
  | .str s => .str s
  | .tup ds => .tuple (D.pys ds)
  | _ => .none
def D.pys : List D → List PyData
  | [] => []
  | d :: ds => D.py d :: D.pys ds
end
mutual
/-- None, truths, ints, texts and tuples of them -/
def D.plain : D → Bool
  | .non => true
  | .bl _ => true
  | .int _ => true
  | .str _ => true
  | .tup ds => D.plains ds
  | _ => false
def D.plains : List D → Bool
  | [] => true
  | d :: ds => D.plain d && D.plains ds
end
mutual
theorem Rel.dp : ∀ (d : D) (v : V), Rel K H v d → D.plain d = true → Dp K H v (D.py d)
  | .non, _, .non, _ => by simp only [D.py]; exact .non
  | .bl _, _, .bl b, _ => by simp only [D.py]; exact .bl b
  | .int _, _, .int b, _ => by simp only [D.py]; exact .int b
  | .str _, _, .str b, _ => by simp only [D.py]; exact .str b
  | .tup ds, _, .tup h r, p => by simp only [D.py]; exact .tup h.sq (Rels.dp ds _ r (by simpa only [D.plain] using p))
  | .ty _, _, _, p => by simp [D.plain] at p
  | .ref _, _, _, p => by simp [D.plain] at p
  | .rol _, _, _, p => by simp [D.plain] at p
theorem Rels.dp : ∀ (ds : List D) (vs : List V), Rels K H vs ds → D.plains ds = true → DpAll K H vs (D.pys ds)
  | [], _, .nil, _ => by simp only [D.pys]; exact .nil
  | d :: ds, _, .cons a b, p => by
    simp only [D.plains, Bool.and_eq_true] at p
    simp only [D.pys]
    exact .cons (Rel.dp d _ a p.1) (Rels.dp ds _ b p.2)
end
/-- plain and not too deep -/
def D.ok (d : D) : Bool := D.plain d && SeqAt.shaped (D.py d)
def D.eqv (d e : D) : Bool := PyData.eqv (D.py d) (D.py e)
theorem ro_eqD (h1 : D.ok d = true) (h2 : D.ok e = true) (q : Φ (.bl (D.eqv d e)) μ) : RO K (rEqD K) d e μ Φ := fun H x y c r1 r2 Q k => by
  unfold D.ok at h1 h2
  rw [Bool.and_eq_true] at h1 h2
  exact ⟨_, _, Rel.dp _ _ r1 h1.1, Rel.dp _ _ r2 h2.1, h1.2, h2.2, k _ μ _ H Fr.refl c (.bl _) q⟩
theorem ro_neD (h1 : D.ok d = true) (h2 : D.ok e = true) (q : Φ (.bl (!D.eqv d e)) μ) : RO K (rNeD K) d e μ Φ := fun H x y c r1 r2 Q k => by
  unfold D.ok at h1 h2
  rw [Bool.and_eq_true] at h1 h2
  exact ⟨_, _, Rel.dp _ _ r1 h1.1, Rel.dp _ _ r2 h2.1, h1.2, h2.2, k _ μ _ H Fr.refl c (.bl _) q⟩
theorem ro_eqI {i j : Int} (q : Φ (.bl (decide (i = j))) μ) : RO K rEq (.int i) (.int j) μ Φ := fun H x y c r1 r2 Q k => by
  cases r1; cases r2
  refine ⟨rfl, ?_⟩
  have e : decide (V.int i = V.int j) = decide (i = j) := by simp
  rw [e]
  exact k _ μ _ H Fr.refl c (.bl _) q
theorem ro_neI {i j : Int} (q : Φ (.bl (!decide (i = j))) μ) : RO K rNe (.int i) (.int j) μ Φ := fun H x y c r1 r2 Q k => by
  cases r1; cases r2
  refine ⟨rfl, ?_⟩
  have e : decide (V.int i = V.int j) = decide (i = j) := by simp
  rw [e]
  exact k _ μ _ H Fr.refl c (.bl _) q
theorem ro_eqB {i j : Bool} (q : Φ (.bl (decide (i = j))) μ) : RO K rEq (.bl i) (.bl j) μ Φ := fun H x y c r1 r2 Q k => by
  cases r1; cases r2
  refine ⟨rfl, ?_⟩
  have e : decide (V.bl i = V.bl j) = decide (i = j) := by simp
  rw [e]
  exact k _ μ _ H Fr.refl c (.bl _) q
theorem ro_neB {i j : Bool} (q : Φ (.bl (!decide (i = j))) μ) : RO K rNe (.bl i) (.bl j) μ Φ := fun H x y c r1 r2 Q k => by
  cases r1; cases r2
  refine ⟨rfl, ?_⟩
  have e : decide (V.bl i = V.bl j) = decide (i = j) := by simp
  rw [e]
  exact k _ μ _ H Fr.refl c (.bl _) q
theorem rc_abs {i : Int} (q : Φ (.int (if i < 0 then -i else i)) μ) : RC K (fun xs H Q => ∃ i, xs = [V.int i] ∧ Q (.int (if i < 0 then -i else i)) H) [.int i] μ Φ := fun H xs c r1 Q k => by
  cases r1 with
  | cons a b => cases a; cases b; exact ⟨i, rfl, k _ μ _ H Fr.refl c (.int _) q⟩
theorem rc_max {i j : Int} (q : Φ (.int (if j > i then j else i)) μ) : RC K (fun xs H Q => ∃ i j, xs = [V.int i, V.int j] ∧ Q (.int (if j > i then j else i)) H) [.int i, .int j] μ Φ := fun H xs c r1 Q k => by
  cases r1 with
  | cons a b => cases a; cases b with
    | cons a b => cases a; cases b; exact ⟨i, j, rfl, k _ μ _ H Fr.refl c (.int _) q⟩
theorem rc_min {i j : Int} (q : Φ (.int (if j < i then j else i)) μ) : RC K (fun xs H Q => ∃ i j, xs = [V.int i, V.int j] ∧ Q (.int (if j < i then j else i)) H) [.int i, .int j] μ Φ := fun H xs c r1 Q k => by
  cases r1 with
  | cons a b => cases a; cases b with
    | cons a b => cases a; cases b; exact ⟨i, j, rfl, k _ μ _ H Fr.refl c (.int _) q⟩
theorem rc_intB {b : Bool} (q : Φ (.int (if b then 1 else 0)) μ) : RC K (fun xs H Q => (∃ i, xs = [V.int i] ∧ Q (.int i) H) ∨ ∃ k, xs = [V.bl k] ∧ Q (.int (if k then 1 else 0)) H) [.bl b] μ Φ := fun H xs c r1 Q k => by
  cases r1 with
  | cons a b => cases a; cases b; exact .inr ⟨_, rfl, k _ μ _ H Fr.refl c (.int _) q⟩
theorem rc_intI {b : Int} (q : Φ (.int b) μ) : RC K (fun xs H Q => (∃ i, xs = [V.int i] ∧ Q (.int i) H) ∨ ∃ k, xs = [V.bl k] ∧ Q (.int (if k then 1 else 0)) H) [.int b] μ Φ := fun H xs c r1 Q k => by
  cases r1 with
  | cons a b => cases a; cases b; exact .inl ⟨_, rfl, k _ μ _ H Fr.refl c (.int _) q⟩
theorem rc_len {ds : List D} (h : seqD μ d = some ds) (q : Φ (.int ds.length) μ) : RC K (fun xs H Q => ∃ x n, xs = [x] ∧ LenV K x H n ∧ Q (.int n) H) [d] μ Φ := fun H xs c r1 Q k => by
  cases r1 with
  | cons a b =>
    cases b
    obtain ⟨p, xs, rfl, hq, hr⟩ := seq_of c a h
    refine ⟨_, ds.length, rfl, ?_, k _ μ _ H Fr.refl c (.int _) q⟩
    rcases hq with hq | hq
    · exact .inl ⟨xs, hq, hr.length.symm⟩
    · exact .inr ⟨xs, hq, hr.length.symm⟩
theorem rc_tuple {ds : List D} (h : seqD μ d = some ds) (q : Φ (.tup ds) μ) : RC K (fun xs H Q => ∃ p ys, xs = [V.ref p] ∧ ((SqL K H p ys ∧ ∀ l, H l = none → Q (.ref l) (upd H l (.tup ys))) ∨ (SqT K H p ys ∧ Q (.ref p) H))) [d] μ Φ := fun H xs c r1 Q k => by
  cases r1 with
  | cons a b =>
    cases b
    cases a with
    | tup ht hr =>
      cases h
      exact ⟨_, _, rfl, .inr ⟨ht.sq, k _ μ _ H Fr.refl c (.tup ht hr) q⟩⟩
    | rol ht hr =>
      cases h
      exact ⟨_, _, rfl, .inl ⟨ht.sq, fun l hl => k _ μ _ _ (fr_new hl) (con_new hl c) (.tup (.inl upd_same) (Rels.mono (tx_new hl) _ _ hr)) q⟩⟩
    | ref p =>
      unfold seqD at h
      simp only at h
      split at h
      · rename_i ds' e
        cases h
        obtain ⟨xs, hx, hr⟩ := c _ _ e
        exact ⟨_, xs, rfl, .inl ⟨SqL.of hx, fun l hl => k _ μ _ _ (fr_new hl) (con_new hl c) (.tup (.inl upd_same) (Rels.mono (tx_new hl) _ _ hr)) q⟩⟩
      · cases h
    | non => cases h
    | bl => cases h
    | int => cases h
    | str => cases h
    | ty => cases h
theorem rels_bl : ∀ {xs : List V} {bs : List Bool}, Rels K H xs (bs.map D.bl) → xs = bs.map V.bl
  | [], [], .nil => rfl
  | _ :: _, _ :: _, .cons a b => by cases a; rw [rels_bl b]; rfl
theorem rc_all {a : Addr} {bs : List Bool} (h : μ a = some (.lst (bs.map D.bl))) (q : Φ (.bl (bs.all id)) μ) : RC K (rAll K) [.ref a] μ Φ := fun H xs c r1 Q k => by
  cases r1 with
  | cons r b =>
    cases r; cases b
    obtain ⟨xs, hx, hr⟩ := c _ _ h
    have e := rels_bl hr
    subst e
    exact ⟨a, bs, rfl, SqL.of hx, k _ μ _ H Fr.refl c (.bl _) q⟩
end
end Z
namespace Z
open PySem L2
/-- a promise by what it asks and gives over the store: P args store wish -/
abbrev PT3 := List D → M → (D → M → Prop) → Prop
def spI (K : PySem.W.Frag) (P : PT3) : Sp := fun vs H Q _ => ∃ ds μ Φ, Rels K H vs ds ∧ Z.Con K H μ ∧ P ds μ Φ ∧ ∀ d μ' v H', Fr μ μ' H H' → Z.Con K H' μ' → Rel K H' v d → Φ d μ' → Q v H'
def startD (n : Nat) (ds : List D) : T := ds.map some ++ List.replicate (n - ds.length) none
section
variable {K : PySem.W.Frag} {τ : T} {μ μ1 μ2 : M} {H H1 H2 : Hp} {σ : L2.St} {Φ Ψ : D → M → Prop} {ta tb tc te : TE} {r r' : R2} {t u : TT} {x y z d e : D} {N : AEnds} {ts us : TS} {P : PT3} {E : XK}
theorem slots_start {Ns : List Str} : ∀ {vs : List V} {ds : List D}, Rels K H vs ds → Slots K H (startD Ns.length ds) (L2.start Ns vs) := by
  intro vs ds r
  have hl := r.length
  refine ⟨by unfold startD L2.start; simp only [List.length_append, List.length_map, List.length_replicate]; omega, fun i d e => ?_⟩
  unfold startD at e
  by_cases hi : i < ds.length
  · rw [List.getElem?_append_left (by rw [List.length_map]; exact hi), List.getElem?_map] at e
    cases q : ds[i]? with
    | none => rw [q] at e; cases e
    | some d' =>
      rw [q] at e
      have e2 : d' = d := Option.some.inj (Option.some.inj e)
      subst e2
      obtain ⟨v, h1, h2⟩ := r.get q
      refine ⟨v, ?_, h2⟩
      unfold L2.start
      rw [List.getElem?_append_left (by rw [List.length_map]; omega), List.getElem?_map, h1]
      rfl
  · rw [List.getElem?_append_right (by rw [List.length_map]; omega), List.getElem?_replicate] at e
    split at e <;> cases e
theorem spI_len {vs : List V} {Q : VK} {n : Nat} (h : spI K P vs H Q E) (hn : ∀ ds μ Φ, P ds μ Φ → ds.length = n) : vs.length = n := by
  obtain ⟨ds, μ, Φ, r, _, p, _⟩ := h
  rw [r.length]; exact hn _ _ _ p
/-- a body keeps its promise -/
theorem body_ok {Ns : List Str} {vs : List V} {Q : VK} (h : spI K P vs H Q E) (hb : ∀ ds μ Φ, P ds μ Φ → AS K ts (startD Ns.length ds) μ { nx := fun _ μ' => Φ .non μ', rt := Φ }) :
    ts { nx := fun _ H' => Q .non H', rt := Q } (L2.start Ns vs) H := by
  obtain ⟨ds, μ, Φ, r, c, p, k⟩ := h
  exact hb ds μ Φ p _ H (slots_start r) c _ ⟨fun _ μ' _ H' f c' _ q => k .non μ' .non H' f c' .non q, fun d μ' v H' f c' r' q => k d μ' v H' f c' r' q, fun _ _ _ _ _ _ _ q => q.elim, fun _ _ _ _ _ _ _ q => q.elim, fun _ _ _ _ _ _ _ _ _ _ _ q => q.elim⟩
/-- a call -/
theorem a_call {ta : TA} (h : AA K ta τ μ fun ds μ1 => P ds μ1 Φ) : AE K (tCall (spI K P) [] E ta) τ μ Φ := fun σ H s c Q k =>
  h σ H s c _ fun ds μ1 vs H1 f1 c1 r1 p => by
    show spI K P (vs ++ []) H1 Q E
    rw [List.append_nil]
    exact ⟨ds, μ1, Φ, r1, c1, p, fun d μ' v H' f c' r q => k d μ' v H' (f1.trans f) c' r q⟩
/-- a field -/
theorem look_rel {f : Str} : ∀ {vs : List (Str × V)} {fs : List (Str × D)}, RelKV K H vs fs → fs.lookup f = some d → ∃ v, vs.lookup f = some v ∧ Rel K H v d := by
  intro vs fs r
  induction r with
  | nil => intro h; cases h
  | cons a _ ih =>
    rename_i p q ps qs _
    obtain ⟨e1, e2⟩ := a
    intro h
    rw [List.lookup_cons] at h ⊢
    rw [e1]
    split at h
    · rename_i hb
      cases h
      exact ⟨_, by simp [hb], e2⟩
    · rename_i hb
      obtain ⟨v, h1, h2⟩ := ih h
      exact ⟨v, by simp [hb, h1], h2⟩
theorem a_fld {f : Str} (h : AE K te τ μ fun o μ1 => ∃ a C dx fs, o = .ref a ∧ μ1 a = some (.ins C dx fs) ∧ Cls K C ∧ NoAttr K C f ∧ ∃ d, fs.lookup f = some d ∧ Φ d μ1) : AE K (tFld K te f) τ μ Φ := fun σ H s c Q k =>
  h σ H s c _ fun o μ1 v H1 f1 c1 r1 ⟨a, C, dx, fs, e, ha, hc, hn, d, hl, q⟩ => by
    subst e
    cases r1
    obtain ⟨vs, hv, hr⟩ := c1 a _ ha
    obtain ⟨w, hw, rw'⟩ := look_rel hr hl
    exact ⟨a, C, dx, vs, w, rfl, hv, hc, hn, hw, k d μ1 w H1 f1 c1 rw' q⟩
/-- o.f = e -/
def putD (f : Str) (d : D) : List (Str × D) → List (Str × D)
  | [] => [(f, d)]
  | (g, x) :: r => if g = f then (g, d) :: r else (g, x) :: putD f d r
theorem put_rel {f : Str} {v : V} (r : Rel K H v d) : ∀ {vs : List (Str × V)} {fs : List (Str × D)}, RelKV K H vs fs → RelKV K H (putF f v vs) (putD f d fs)
  | _, _, .nil => .cons ⟨rfl, r⟩ .nil
  | (g, x) :: vs, (g', y) :: fs, .cons a b => by
    obtain ⟨e1, e2⟩ := a
    have e1 : g = g' := e1
    subst e1
    unfold putF putD
    by_cases hg : g = f
    · rw [if_pos hg, if_pos hg]; exact .cons ⟨rfl, r⟩ b
    · rw [if_neg hg, if_neg hg]; exact .cons ⟨rfl, e2⟩ (put_rel r b)
theorem s_fld {f : Str} (h : AE K tb τ μ fun d μ1 => AE K te τ μ1 fun o μ2 => ∃ a C dx fs, o = .ref a ∧ μ2 a = some (.ins C dx fs) ∧ Cls K C ∧ NoAttr K C f ∧ fs.length < 1000 ∧ N.nx τ (μ2.set a (.ins C dx (putD f d fs)))) :
    AS K (sFld K te tb f) τ μ N := fun σ H s c E k =>
  h σ H s c _ fun d μ1 v H1 f1 c1 r1 p1 => p1 σ H1 (s.mono (f1.tx c)) c1 _ fun o μ2 w H2 f2 c2 r2 ⟨a, C, dx, fs, e, ha, hc, hn, hz, q⟩ => by
    subst e
    cases r2
    obtain ⟨vs, hv, hr⟩ := c2 a _ ha
    refine ⟨a, C, dx, vs, rfl, hv, hc, hn, ?_, ?_⟩
    · have len : ∀ {vs : List (Str × V)} {fs : List (Str × D)}, RelKV K H2 vs fs → vs.length = fs.length := by
        intro vs fs r
        induction r with
        | nil => rfl
        | cons _ _ ih => rw [List.length_cons, List.length_cons, ih]
      rw [len hr]; exact hz
    · have fr := fr_mut (H := H2) (o := .ins C dx (putF f v vs)) (m' := .ins C dx (putD f d fs)) ha
      exact k.nx τ _ σ _ ((f1.trans f2).trans fr) (con_mut c2 ha ⟨_, upd_same, put_rel (Rel.mono ((f2.trans fr).tx c1) _ _ r1) (RelKV.mono (tx_mut c2 ha) hr)⟩) (s.mono (((f1.trans f2).trans fr).tx c)) q
end
end Z
namespace Z
open PySem L2
def sets {α : Type} : List (Option α) → List Nat → List α → List (Option α)
  | l, j :: js, d :: ds => sets (l.set j (some d)) js ds
  | l, _, _ => l
theorem wipe_at (σ : L2.St) (i : Nat) : ∀ vs : List Nat, (wipe σ vs)[i]? = if i ∈ vs then (σ[i]?).map fun _ => none else σ[i]?
  | [] => by simp [wipe]
  | v :: vs => by
    have ih := wipe_at σ i vs
    unfold wipe
    by_cases h : v = i
    · subst h
      rw [if_pos (List.mem_cons_self)]
      by_cases hl : v < (wipe σ vs).length
      · rw [List.getElem?_set_self hl]
        rw [wipe_length] at hl
        rw [List.getElem?_eq_getElem hl]
        rfl
      · rw [List.getElem?_eq_none (by rw [List.length_set]; omega)]
        rw [wipe_length] at hl
        rw [List.getElem?_eq_none (by omega)]
        rfl
    · rw [List.getElem?_set_ne h, ih]
      have e : (i ∈ v :: vs) = (i ∈ vs) := by
        rw [List.mem_cons]
        exact propext ⟨fun q => q.elim (fun z => absurd z.symm h) id, .inr⟩
      simp only [e]
theorem wipe_set {σ : L2.St} {j : Nat} {x : Option V} {vs : List Nat} (h : j ∈ vs) : wipe (σ.set j x) vs = wipe σ vs := by
  apply List.ext_getElem?
  intro i
  rw [wipe_at, wipe_at]
  by_cases hi : i ∈ vs
  · rw [if_pos hi, if_pos hi]
    by_cases e : j = i
    · subst e
      by_cases hl : j < σ.length
      · rw [List.getElem?_set_self hl, List.getElem?_eq_getElem hl]; rfl
      · rw [List.getElem?_eq_none (by rw [List.length_set]; omega), List.getElem?_eq_none (by omega)]
    · rw [List.getElem?_set_ne e]
  · rw [if_neg hi, if_neg hi, List.getElem?_set_ne (fun z => hi (by rw [← z]; exact h))]
theorem wipe_wipe {σ : L2.St} {vs : List Nat} : wipe (wipe σ vs) vs = wipe σ vs := by
  apply List.ext_getElem?
  intro i
  rw [wipe_at]
  by_cases hi : i ∈ vs
  · rw [if_pos hi, wipe_at, if_pos hi]
    cases σ[i]? <;> rfl
  · rw [if_neg hi]
theorem wipe_sets {vs : List Nat} : ∀ {σ : L2.St} {js : List Nat} {xs : List V}, (∀ j ∈ js, j ∈ vs) → wipe (sets σ js xs) vs = wipe σ vs
  | σ, [], xs, _ => by unfold sets; rfl
  | σ, j :: js, [], _ => by unfold sets; rfl
  | σ, j :: js, x :: xs, h => by
    unfold sets
    rw [wipe_sets (fun k hk => h k (List.mem_cons_of_mem _ hk)), wipe_set (h j List.mem_cons_self)]
section
variable {K : PySem.W.Frag} {τ : T} {μ μ1 μ2 : M} {H H1 H2 H' : Hp} {σ : L2.St} {Φ Ψ : D → M → Prop} {ta tb tc te : TE} {r r' : R2} {tt : TT} {x y z d e : D} {N : AEnds} {ts us : TS}
theorem slots_sets : ∀ {js : List Nat} {ds : List D} {vs : List V} {τ : T} {σ : L2.St}, Rels K H vs ds → Slots K H τ σ → Slots K H (sets τ js ds) (sets σ js vs)
  | [], _, _, _, _, _, s => by unfold sets; exact s
  | j :: js, _, _, _, _, .nil, s => by unfold sets; exact s
  | j :: js, _, _, _, _, .cons a b, s => by unfold sets; exact slots_sets b (s.set a j)
/-- the slots of a block: all of vs are stored by the target -/
theorem slots_block {js : List Nat} {ds : List D} {vs : List V} (s : Slots K H τ σ) (r : Rels K H vs ds) (hl : ds.length = js.length) : Slots K H (sets τ js ds) (sets (wipe σ js) js vs) := by
  -- a slot that js stores does not hang on what stood there
  have same : ∀ (js0 : List Nat) (js : List Nat) (vs : List V) (σ σ' : L2.St), σ.length = σ'.length → js.length = vs.length → (∀ i, i ∉ js → i ∉ js0 → σ[i]? = σ'[i]?) → (∀ i, i ∈ js0 → i ∉ js → σ[i]? = σ'[i]?) → sets σ js vs = sets σ' js vs := by
    intro js0 js
    induction js with
    | nil =>
      intro vs σ σ' hL _ h1 h2
      unfold sets
      apply List.ext_getElem?
      intro i
      by_cases hi : i ∈ js0
      · exact h2 i hi (by simp)
      · exact h1 i (by simp) hi
    | cons j js ih =>
      intro vs σ σ' hL hV h1 h2
      cases vs with
      | nil => simp at hV
      | cons v vs =>
        unfold sets
        refine ih vs _ _ (by simp [hL]) (by simpa using hV) (fun i hi hi0 => ?_) (fun i hi0 hi => ?_)
        · by_cases e : j = i
          · subst e
            by_cases hl : j < σ.length
            · rw [List.getElem?_set_self hl, List.getElem?_set_self (by omega)]
            · rw [List.getElem?_eq_none (by simp; omega), List.getElem?_eq_none (by simp; omega)]
          · rw [List.getElem?_set_ne e, List.getElem?_set_ne e]
            exact h1 i (by simp [hi]; exact fun z => e z.symm) hi0
        · by_cases e : j = i
          · subst e
            by_cases hl : j < σ.length
            · rw [List.getElem?_set_self hl, List.getElem?_set_self (by omega)]
            · rw [List.getElem?_eq_none (by simp; omega), List.getElem?_eq_none (by simp; omega)]
          · rw [List.getElem?_set_ne e, List.getElem?_set_ne e]
            exact h2 i hi0 (by simp [hi]; exact fun z => e z.symm)
  have e : sets (wipe σ js) js vs = sets σ js vs := by
    refine same [] js vs _ _ (by rw [wipe_length]) (by rw [r.length, hl]) (fun i hi _ => ?_) (fun i hi _ => by simp at hi)
    rw [wipe_at, if_neg hi]
  rw [e]
  exact slots_sets r s
/-- how a target takes an item apart -/
def TgOk (K : PySem.W.Frag) (g : TG) (js : List Nat) (dec : D → List D → Prop) : Prop :=
  ∀ d ds v σ H, dec d ds → Rel K H v d → ∀ Q : L2.St → Hp → Prop, (∀ vs, Rels K H vs ds → Q (sets σ js vs) H) → g v σ H Q
theorem tg_name {j : Nat} : TgOk K (gName j) [j] fun d ds => ds = [d] := fun d ds v σ H h r Q q => by
  subst h
  exact q [v] (.cons r .nil)
theorem tg_2 {i j : Nat} : TgOk K (gTup K 2 (gCons (gName i) (gCons (gName j) gNil))) [i, j] fun d ds => d = .tup ds ∧ ds.length = 2 := fun d ds v σ H h r Q q => by
  obtain ⟨e, hl⟩ := h
  subst e
  cases r with
  | @tup a xs _ ht hr =>
    have hx := hr.length
    match xs, hx.trans hl with
    | [x, y], _ => exact ⟨a, _, rfl, ht.sq, rfl, x, _, rfl, y, _, rfl, rfl, q _ hr⟩
theorem tg_3 {i j k : Nat} : TgOk K (gTup K 3 (gCons (gName i) (gCons (gName j) (gCons (gName k) gNil)))) [i, j, k] fun d ds => d = .tup ds ∧ ds.length = 3 := fun d ds v σ H h r Q q => by
  obtain ⟨e, hl⟩ := h
  subst e
  cases r with
  | @tup a xs _ ht hr =>
    have hx := hr.length
    match xs, hx.trans hl with
    | [x, y, z], _ => exact ⟨a, _, rfl, ht.sq, rfl, x, _, rfl, y, _, rfl, z, _, rfl, rfl, q _ hr⟩
theorem tg_4 {i j k l : Nat} : TgOk K (gTup K 4 (gCons (gName i) (gCons (gName j) (gCons (gName k) (gCons (gName l) gNil))))) [i, j, k, l] fun d ds => d = .tup ds ∧ ds.length = 4 := fun d ds v σ H h r Q q => by
  obtain ⟨e, hl⟩ := h
  subst e
  cases r with
  | @tup a xs _ ht hr =>
    have hx := hr.length
    match xs, hx.trans hl with
    | [x, y, z, w], _ => exact ⟨a, _, rfl, ht.sq, rfl, x, _, rfl, y, _, rfl, z, _, rfl, w, _, rfl, rfl, q _ hr⟩
/-- what a turn of a comprehension must show -/
def LcTurn (K : PySem.W.Frag) (τ : T) (tt : TT) (te : TE) (js : List Nat) (dec : D → List D → Prop) (x : D) (acc : List D) (μ : M) (P : List D → M → Prop) : Prop :=
  ∃ xs, dec x xs ∧ xs.length = js.length ∧ AT K tt (sets τ js xs) μ fun b μ1 => if b = true then AE K te (sets τ js xs) μ1 fun y μ2 => acc.length < sizeLine ∧ P (acc ++ [y]) μ2 else P acc μ1
/-- the list that is made is at Dl, outside of the store -/
structure LcAt (K : PySem.W.Frag) (Dl : Addr) (μ0 : M) (H0 : Hp) (acc : List D) (μ' : M) (H' : Hp) : Prop where
  fr : Fr μ0 μ' H0 H'
  con : Z.Con K H' μ'
  no : μ' Dl = none
  at_ : ∃ vs, H' Dl = some (.lst vs) ∧ Rels K H' vs acc
theorem upd_out {Dl : Addr} {vs : List V} {o : HO} (c : Z.Con K H μ) (no : μ Dl = none) (h : H Dl = some (.lst vs)) (ho : ∀ xs, o ≠ .tup xs) : Tx H (upd H Dl o) ∧ Z.Con K (upd H Dl o) μ := by
  have t : Tx H (upd H Dl o) := ⟨fun a xs e => by rw [upd_ne (fun z => by subst z; rw [h] at e; cases e)]; exact e, fun a ob xs e => by rw [upd_ne (fun z => by subst z; rw [h] at e; cases e)]; exact e,
    fun a q e => by rw [upd_ne (fun z => by subst z; rw [h] at e; unfold LamX.CodeO at e; cases e)]; exact e⟩
  exact ⟨t, fun a m e => (c a m e).mono t (upd_ne (fun z => by subst z; rw [no] at e; cases e))⟩
theorem lc_step {g : TG} {js : List Nat} {dec : D → List D → Prop} {Dl : Addr} {μ0 μ' : M} {H0 : Hp} {acc : List D} {P : List D → M → Prop} {Nx : Hp → Prop} {v : V} (hD : H0 Dl = none) (hg : TgOk K g js dec) (s : Slots K H0 τ σ) (c0 : Z.Con K H0 μ0) (L : LcAt K Dl μ0 H0 acc μ' H') (rx : Rel K H' v x) (ht : LcTurn K τ tt te js dec x acc μ' P)
    (hn : ∀ acc2 μ2 H2, LcAt K Dl μ0 H0 acc2 μ2 H2 → P acc2 μ2 → Nx H2) :
    g v (wipe σ js) H' fun σ2 H2 => wipe σ2 js = wipe σ js ∧ tt σ2 H2 fun b H3 => if b = true then te σ2 H3 fun y H4 => ∃ acc, H4 Dl = some (.lst acc) ∧ acc.length < sizeLine ∧ Nx (upd H4 Dl (.lst (acc ++ [y]))) else Nx H3 := by
  obtain ⟨xs, hd, hl, ht⟩ := ht
  obtain ⟨vs0, hv0, hr0⟩ := L.at_
  refine hg x xs v _ H' hd rx _ fun vs hvs => ⟨by rw [wipe_sets (fun _ h => h), wipe_wipe], ?_⟩
  have s' : Slots K H' (sets τ js xs) (sets (wipe σ js) js vs) := slots_block (s.mono (L.fr.tx c0)) hvs hl
  refine ht _ H' s' L.con _ fun b μ1 H1 f1 c1 p => ?_
  have n1 : μ1 Dl = none := (f1 Dl _ L.no hv0).2
  have h1 : H1 Dl = some (.lst vs0) := (f1 Dl _ L.no hv0).1
  cases b with
  | false => exact hn acc μ1 H1 ⟨L.fr.trans f1, c1, n1, vs0, h1, Rels.mono (f1.tx L.con) _ _ hr0⟩ p
  | true =>
    refine (show AE K te _ μ1 _ from p) _ H1 (s'.mono (f1.tx L.con)) c1 _ fun y μ2 w H2 f2 c2 r2 ⟨hz, p2⟩ => ?_
    have n2 : μ2 Dl = none := (f2 Dl _ n1 h1).2
    have h2 : H2 Dl = some (.lst vs0) := (f2 Dl _ n1 h1).1
    have hr2 : Rels K H2 vs0 acc := Rels.mono ((f1.trans f2).tx L.con) _ _ hr0
    obtain ⟨t3, c3⟩ := upd_out (o := .lst (vs0 ++ [w])) c2 n2 h2 (fun _ z => by cases z)
    refine ⟨vs0, h2, by rw [hr0.length]; exact hz, hn _ μ2 _ ⟨fun a o n e => ?_, c3, n2, _, upd_same, Rels.mono t3 _ _ (hr2.append (.cons r2 .nil))⟩ p2⟩
    have f := (L.fr.trans f1).trans f2
    obtain ⟨e2, m2⟩ := f a o n e
    exact ⟨by rw [upd_ne (ne_of_none e hD)]; exact e2, m2⟩
theorem lc_start {Dl : Addr} (c : Z.Con K H μ) (hD : H Dl = none) : LcAt K Dl μ H [] μ (upd H Dl (.lst [])) :=
  ⟨fr_new hD, con_new hD c, c.free hD, [], upd_same, .nil⟩
theorem lc_end {Dl : Addr} {μ0 μ' : M} {H0 : Hp} {acc : List D} (hD : H0 Dl = none) (L : LcAt K Dl μ0 H0 acc μ' H') : Fr μ0 (μ'.set Dl (.lst acc)) H0 H' ∧ Z.Con K H' (μ'.set Dl (.lst acc)) := by
  obtain ⟨vs, hv, hr⟩ := L.at_
  refine ⟨fun a o n e => ?_, con_back (m := .lst acc) L.con ⟨vs, hv, hr⟩⟩
  obtain ⟨e2, m2⟩ := L.fr a o n e
  exact ⟨e2, by rw [set_ne (ne_of_none e hD)]; exact m2⟩
/-- pure elements: a filter and a map -/
theorem at_yes {Θ : Bool → M → Prop} (h : Θ true μ) : AT K tYes τ μ Θ := fun σ H s c Q k => k true μ H Fr.refl c h
end
end Z
namespace Z
open PySem L2
section
variable {K : PySem.W.Frag} {τ : T} {μ μ1 μ2 : M} {H H1 H2 H' : Hp} {σ : L2.St} {Φ Ψ : D → M → Prop} {ta tb tc te : TE} {r r' : R2} {tt : TT} {x y z d e : D} {N : AEnds} {ts us : TS}
theorem s_par3 {i j l : Nat} {ta : TA} (h : AA K ta τ μ fun ds μ' => ∃ d e w, ds = [d, e, w] ∧ N.nx (((τ.set i (some d)).set j (some e)).set l (some w)) μ') : AS K (tPar3 i j l ta) τ μ N := fun σ H s c E k =>
  h σ H s c _ fun ds μ' vs H' f c' r ⟨d, e, w, q, p⟩ => by
    subst q
    cases r with
    | cons r1 r2 =>
      cases r2 with
      | cons r2 r3 =>
        cases r3 with
        | cons r3 r4 =>
          cases r4
          exact ⟨_, _, _, rfl, k.nx _ μ' _ H' f c' ((((s.mono (f.tx c)).set r1 i).set r2 j).set r3 l) p⟩
def tyn (μ : M) : D → Option String
  | .non => some "NoneType"
  | .bl _ => some "bool"
  | .int _ => some "int"
  | .str _ => some "str"
  | .tup _ => some "tuple"
  | .rol _ => some "list"
  | .ref a => match μ a with
    | some (.lst _) => some "list"
    | some (.dK _) => some "dict"
    | some (.dT _) => some "dict"
    | _ => none
  | .ty _ => none
theorem tyx_of {v : V} {n : String} (c : Z.Con K H μ) (r : Rel K H v d) (h : tyn μ d = some n) : TyX K H v (.type n) := by
  cases r with
  | non => cases h; exact .base .non
  | bl => cases h; exact .base (.bl _)
  | int => cases h; exact .base (.int _)
  | str => cases h; exact .base (.str _)
  | ty => cases h
  | tup ht hr =>
    cases h
    cases ht with
    | inl ht => exact .base (.tup ht)
  | rol ht hr =>
    cases h
    rcases ht with ⟨o, ht⟩ | ⟨o, its, m, h1, h2, _⟩
    · exact .base (.frz ht)
    · exact .kList h1 h2
  | ref a =>
    unfold tyn at h
    simp only at h
    split at h
    · rename_i e; cases h; obtain ⟨xs, hx, _⟩ := c _ _ e; exact .base (.lst hx)
    · rename_i e; cases h; obtain ⟨xs, hx, _⟩ := c _ _ e; exact .base (.dK hx)
    · rename_i e; cases h; obtain ⟨xs, hx, _⟩ := c _ _ e; exact .base (.dT hx)
    · cases h
theorem rc_isi {n m : String} {b : Bool} (h : tyn μ d = some n) (hk : kitB n m = some b) (q : Φ (.bl b) μ) : RC K (rIsi K) [d, .ty m] μ Φ := fun H xs c r1 Q k => by
  cases r1 with
  | cons a r2 =>
    cases r2 with
    | cons a2 r3 =>
      cases a2; cases r3
      exact ⟨_, _, .type n, .type m, b, rfl, .ty m, tyx_of c a h, kit_ty hk, k _ μ _ H Fr.refl c (.bl _) q⟩
theorem a_chain (h : AE K ta τ μ fun d μ1 => AE K tb τ μ1 fun e μ2 => RO K r d e μ2 fun z μ3 => ∃ b, z = .bl b ∧ if b = true then AE K tc τ μ3 fun w μ4 => RO K r' e w μ4 Φ else Φ (.bl false) μ3) : AE K (tChain r r' ta tb tc) τ μ Φ := fun σ H s c Q k =>
  h σ H s c _ fun d μ1 v H1 f1 c1 r1 p1 => p1 σ H1 (s.mono (f1.tx c)) c1 _ fun e μ2 u H2 f2 c2 r2 p2 =>
    p2 H2 v u c2 (Rel.mono (f2.tx c1) _ _ r1) r2 _ fun z μ3 w H3 f3 c3 rz ⟨b, ez, p3⟩ => by
      subst ez
      cases rz
      refine ⟨b, rfl, ?_⟩
      cases b with
      | false => exact k _ μ3 _ H3 ((f1.trans f2).trans f3) c3 (.bl false) (show Φ (.bl false) μ3 from p3)
      | true =>
        exact (show AE K tc τ μ3 _ from p3) σ H3 (s.mono (((f1.trans f2).trans f3).tx c)) c3 _ fun w μ4 w' H4 f4 c4 r4 p4 =>
          p4 H4 u w' c4 (Rel.mono ((f3.trans f4).tx c2) _ _ r2) r4 Q fun z μ5 o H5 f5 c5 rz pz => k z μ5 o H5 ((((f1.trans f2).trans f3).trans f4).trans f5) c5 rz pz
def rInS (K : PySem.W.Frag) (neg : Bool) : R2 := fun x y H Q => ∃ d ds, Dp K H x d ∧ (Dp K H y (.list ds) ∨ Dp K H y (.tuple ds)) ∧ SeqAt.shaped d = true ∧ SeqAt.shaped (.list ds) = true ∧ Q (.bl (if neg then !ds.any fun z => PyData.eqv z d else ds.any fun z => PyData.eqv z d)) H
theorem seq_dp {v : V} {ds : List D} (c : Z.Con K H μ) (r : Rel K H v d) (h : seqD μ d = some ds) (hp : D.plains ds = true) : Dp K H v (.list (D.pys ds)) ∨ Dp K H v (.tuple (D.pys ds)) := by
  cases r with
  | tup ht hr => cases h; exact .inr (.tup ht.sq (Rels.dp _ _ hr hp))
  | rol ht hr => cases h; exact .inl (.lst ht.sq (Rels.dp _ _ hr hp))
  | ref a =>
    unfold seqD at h
    simp only at h
    split at h
    · rename_i ds' e
      cases h
      obtain ⟨xs, h1, h2⟩ := c _ _ e
      exact .inl (.lst (SqL.of h1) (Rels.dp _ _ h2 hp))
    · cases h
  | non => cases h
  | bl => cases h
  | int => cases h
  | str => cases h
  | ty => cases h
def inD (d : D) (ds : List D) : Bool := ds.any fun z => D.eqv z d
theorem inD_pys (d : D) : ∀ ds : List D, (D.pys ds).any (fun z => PyData.eqv z (D.py d)) = inD d ds
  | [] => by simp [D.pys, inD]
  | x :: ds => by
    have ih := inD_pys d ds
    unfold inD at ih ⊢
    simp only [D.pys, List.any_cons, ih]
    rfl
theorem ro_inS {neg : Bool} {ds : List D} (hs : seqD μ e = some ds) (h1 : D.ok d = true) (h2 : D.ok (.tup ds) = true) (q : Φ (.bl (if neg then !inD d ds else inD d ds)) μ) : RO K (rInS K neg) d e μ Φ := fun H x y c r1 r2 Q k => by
  unfold D.ok at h1 h2
  rw [Bool.and_eq_true] at h1 h2
  have p2 : D.plains ds = true := by simpa only [D.plain] using h2.1
  refine ⟨_, D.pys ds, Rel.dp _ _ r1 h1.1, seq_dp c r2 hs p2, h1.2, ?_, ?_⟩
  · have h3 := h2.2
    simp only [D.py] at h3
    exact h3
  · rw [inD_pys]
    exact k _ μ _ H Fr.refl c (.bl _) q
end
/-- a def of the text with its promise -/
structure Def (P : Program) (w : World) (K : PySem.W.Frag) (mg : Str → Option Value) (base : Heap) (x : Str) (ps : List Str) (k : Nat) (sp : Sp) : Prop where
  ex : ∃ f fd, FnOk P w K mg base CX0 k f fd ps sp ∧ mg x = some (.ref f) ∧ PySem.W.keepIn K (.ref f) = true ∧ Binds K fd ps []
section
variable {X : Cx} {k : Nat} {ps : List Str} {sp : Sp} {x : Str} {p pos : Pos} {e : Expr} {es : List Expr} {t : TA}
theorem pe_def (G : Def X.prog X.w X.K X.mg X.base x ps k sp) (hr : Room k X.A) (hg : Gl X x)
    (ha : PA X (e :: es) t) (hdb : (x == ("__debug__" : Str)) = false := by decide) (he : starEach (e :: es) X.env = (false, eval e X.env) :: starEach es X.env := by rfl) (hpl : (backTo pos (starEach es X.env)).any (·.1) = false := by rfl) :
    PE X (.Call (.Name x p) (e :: es) [] pos) (tCall sp [] E0 t) := by
  obtain ⟨f, fd, F, hm, hk, hb⟩ := G.ex
  exact pe_call F hr hg hm hk hb .nil pass0 ha hdb he hpl
end
end Z
namespace Z
open PySem L2
theorem seq_ref {μ : M} {a : Addr} {ds : List D} (h : μ a = some (.lst ds)) : seqD μ (.ref a) = some ds := by
  show (match μ a with | some (.lst ds) => some ds | _ => none) = some ds
  rw [h]
def Sz (n : Nat) (x : Int) : Prop := x.natAbs < 2 ^ n
instance {n : Nat} {x : Int} : Decidable (Sz n x) := inferInstanceAs (Decidable (x.natAbs < 2 ^ n))
theorem sz_mono {a b : Nat} {x : Int} (h : Sz a x) (l : a ≤ b) : Sz b x := Nat.lt_of_lt_of_le h (Nat.pow_le_pow_right (by decide) l)
theorem sz_add {a b : Nat} {x y : Int} (h : Sz a x) (k : Sz b y) : Sz (max a b + 1) (x + y) := by
  have h1 : x.natAbs < 2 ^ (max a b) := Nat.lt_of_lt_of_le h (Nat.pow_le_pow_right (by decide) (Nat.le_max_left _ _))
  have h2 : y.natAbs < 2 ^ (max a b) := Nat.lt_of_lt_of_le k (Nat.pow_le_pow_right (by decide) (Nat.le_max_right _ _))
  have h3 := Int.natAbs_add_le x y
  unfold Sz
  rw [Nat.pow_succ]
  omega
theorem sz_neg {a : Nat} {x : Int} (h : Sz a x) : Sz a (-x) := by
  unfold Sz
  rw [Int.natAbs_neg]
  exact h
theorem sz_sub {a b : Nat} {x y : Int} (h : Sz a x) (k : Sz b y) : Sz (max a b + 1) (x - y) := by
  rw [Int.sub_eq_add_neg]
  exact sz_add h (sz_neg k)
theorem sz_mul {a b : Nat} {x y : Int} (h : Sz a x) (k : Sz b y) : Sz (a + b) (x * y) := wide_lt h k
theorem sz_mod {a : Nat} {x y : Int} (hy : 0 < y) (k : Sz a y) : Sz a (x % y) := by
  have h1 := Int.emod_nonneg x (by omega : y ≠ 0)
  have h2 := Int.emod_lt_of_pos x hy
  have k' : y.natAbs < 2 ^ a := k
  unfold Sz
  omega
theorem sz_b {b : Bool} : Sz 1 (if b then 1 else 0) := by cases b <;> decide
theorem sz_128 {x : Int} (h : decide (x.natAbs < 2 ^ 128) = true) : Sz 128 x := of_decide_eq_true h
theorem sz_2 {x : Int} (h : decide (x.natAbs < 2 ^ 2) = true) : Sz 2 x := of_decide_eq_true h
theorem sz_8 {x : Int} (h : decide (x.natAbs < 2 ^ 8) = true) : Sz 8 x := of_decide_eq_true h
theorem sz_32 {x : Int} (h : decide (x.natAbs < 2 ^ 32) = true) : Sz 32 x := of_decide_eq_true h
theorem hu65_of {k : Nat} {A : Around} (hr : Room k A) : A.units + 65 < cLine := by have := hr.un; omega
theorem mulw_of {a b : Nat} {x y : Int} (h : Sz a x) (k : Sz b y) (l : (a + 1) + (b + 1) ≤ 1000000) : CMulW x y :=
  wide_mul (a := a + 1) (b := b + 1) (sz_mono h (Nat.le_succ a)) (sz_mono k (Nat.le_succ b)) (Nat.succ_pos _) (Nat.succ_pos _) l
theorem divw_of {b : Nat} {x y : Int} (h : 0 < y) (k : Sz b y) (l : b + 1 ≤ 9000) : CDivW x y := wide_div (b := b + 1) h (sz_mono k (Nat.le_succ b)) (Nat.succ_pos _) l
abbrev pt (x y : Int) : D := .tup [.int x, .int y]
section
variable {X : Cx} {K : PySem.W.Frag}
theorem ix_seqK (h : X.K = K) : IxR X (rIx K) := by subst h; exact ix_seq
theorem op_neDK (h : X.K = K) (hu : X.A.units + 64 < cLine) : OpR X (compareOp .NotEq) (rNeD K) := by subst h; exact op_neD hu
theorem call_isiK1 (h : X.K = K) : CallR X (.builtin "isinstance") (rIsi K) := by subst h; exact call_isi
theorem call_lenK (h : X.K = K) : CallR X (.builtin "len") (fun xs H Q => ∃ x n, xs = [x] ∧ LenV K x H n ∧ Q (.int n) H) := by subst h; exact call_len
theorem cr_allK (h : X.K = K) (hc : X.calm = true) : CallR X (.builtin "all") (rAll K) := by subst h; exact cr_all hc
theorem call_tupleK (h : X.K = K) : CallR X (.type "tuple") (fun xs H Q => ∃ p ys, xs = [V.ref p] ∧ ((SqL K H p ys ∧ ∀ l, H l = none → Q (.ref l) (upd H l (.tup ys))) ∨ (SqT K H p ys ∧ Q (.ref p) H))) := by subst h; exact call_tuple_of
theorem pe_fldK {e : Expr} {ta : TE} {f : Str} {pos : Pos} (h : X.K = K) (he : PE X e ta) (hb : attributeBase e f X.env (eval e X.env) = eval e X.env) : PE X (.Attribute e f pos) (tFld K ta f) := by subst h; exact pe_fld he hb
theorem pi_tupK {tg l : Expr} {tl : TE} (h : X.K = K) (hl : PE X l tl) : PI X tg l (iTup K tl) := by subst h; exact pi_tup hl
end
end Z
namespace Z
open PySem L2
def P_law : PT3 := fun ds μ Φ => ∃ ns : List Int, ds = [.rol (ns.map D.int)] ∧ ns.length ≤ 63 ∧ ∀ μ', Φ (.bl true) μ'
theorem rels_map {K : PySem.W.Frag} {H : Hp} : ∀ ns : List Int, Rels K H (ns.map V.int) (ns.map D.int)
  | [] => .nil
  | n :: ns => .cons (.int n) (rels_map ns)
theorem law_start {K : PySem.W.Frag} {H : Hp} {a : Addr} {ns : List Int} (hl : ns.length ≤ 63) (hO : Only H) (hS : SqL K H a (ns.map V.int)) : spI K P_law [.ref a] H (fun v _ => v = .bl true) fun _ _ _ => False := by
  have hr : RolAt K H a (ns.map V.int) := by
    rcases hS with (h | ⟨o, h⟩) | h
    · rcases hO a with e | ⟨o, xs, e⟩
      · rw [e] at h; cases h
      · rw [e] at h; cases h
    · exact .inl ⟨o, h⟩
    · exact .inr h
  refine ⟨[.rol (ns.map D.int)], fun _ => none, fun d _ => d = .bl true, .cons (.rol hr (rels_map ns)) .nil, fun a m e => (by cases e), ⟨ns, rfl, hl, fun _ => rfl⟩, fun d μ' v H' f c r e => ?_⟩
  subst e
  cases r
  rfl
theorem len_law (ds : List D) (μ : M) (Φ : D → M → Prop) (h : P_law ds μ Φ) : ds.length = 1 := by
  obtain ⟨ns, rfl, _⟩ := h
  rfl
def P_l_cell_at : PT3 := fun ds μ Φ => ∃ (ns : List Int) (k : Int), ds = [.rol (ns.map D.int), .int k] ∧ 0 ≤ k ∧ ∀ z, Φ (.int z) μ
theorem len_l_cell_at (ds : List D) (μ : M) (Φ : D → M → Prop) (h : P_l_cell_at ds μ Φ) : ds.length = 2 := by
  obtain ⟨_, _, rfl, _⟩ := h
  rfl
/-- a bag: what its second number is -/
def BgOk (m : Int) : Prop := 0 ≤ m ∧ m < 2147483648
def P_l_bag : PT3 := fun ds μ Φ => ∃ (ns : List Int) (k : Int), ds = [.rol (ns.map D.int), .int k] ∧ 0 ≤ k ∧ k ≤ 1000 ∧ ∀ p c m, μ p = none → BgOk m → Φ (.ref p) (μ.set p (.lst [.int c, .int m]))
theorem len_l_bag (ds : List D) (μ : M) (Φ : D → M → Prop) (h : P_l_bag ds μ Φ) : ds.length = 2 := by
  obtain ⟨_, _, rfl, _⟩ := h
  rfl
def P_l_take : PT3 := fun ds μ Φ => ∃ (b : Addr) (n c m : Int), ds = [.ref b, .int n] ∧ μ b = some (.lst [.int c, .int m]) ∧ BgOk m ∧ 0 < n ∧ Sz 4000 n ∧ ∀ d c' m', 0 ≤ d → d < n → Sz 4000 d → BgOk m' → Φ (.int d) (μ.set b (.lst [.int c', .int m']))
theorem len_l_take (ds : List D) (μ : M) (Φ : D → M → Prop) (h : P_l_take ds μ Φ) : ds.length = 2 := by
  obtain ⟨_, _, _, _, rfl, _⟩ := h
  rfl
theorem cast_int {Φ : D → M → Prop} {μ : M} {a b : Int} (e : a = b) (h : Φ (.int b) μ) : Φ (.int a) μ := by rw [e]; exact h
theorem iteNT {A B : Prop} (h : B) : if (!true) = true then A else B := h
theorem iteNF {A B : Prop} (h : A) : if (!false) = true then A else B := h
/-- an if whose test is a comparison -/
theorem ite_d {p : Prop} [Decidable p] {A B : Prop} (h1 : p → A) (h2 : ¬ p → B) : if decide p = true then A else B := by
  by_cases h : p
  · rw [if_pos (decide_eq_true h)]; exact h1 h
  · rw [if_neg (by simpa using h)]; exact h2 h
theorem ite_nd {p : Prop} [Decidable p] {A B : Prop} (h1 : ¬ p → A) (h2 : p → B) : if (!decide p) = true then A else B := by
  by_cases h : p
  · rw [if_neg (by simpa using h)]; exact h2 h
  · rw [if_pos (by simpa using h)]; exact h1 h
theorem map_get {ns : List Int} {k : Int} (h0 : 0 ≤ k) (h1 : k < ns.length) : ∃ z, atI (ns.map D.int) k = some (.int z) := by
  obtain ⟨j, rfl⟩ := Int.eq_ofNat_of_zero_le h0
  have hj : j < ns.length := by omega
  exact ⟨ns[j], atI_nat (by rw [List.getElem?_map, List.getElem?_eq_getElem hj]; rfl)⟩
/-- an if, then a word of what holds behind it -/
theorem if_cut {K : PySem.W.Frag} {τ : T} {μ : M} {N : AEnds} {t1 t2 : TS} {b : Bool} (M0 : T → M → Prop) (h1 : b = true → AS K t1 τ μ { N with nx := M0 }) (h2 : b = false → AS K t2 τ μ { N with nx := M0 }) (k : ∀ τ' μ', M0 τ' μ' → N.nx τ' μ') :
    if b = true then AS K t1 τ μ N else AS K t2 τ μ N := by
  cases b with
  | true => rw [if_pos rfl]; exact (h1 rfl).imp k (fun _ _ h => h) (fun _ _ h => h) fun _ _ h => h
  | false => rw [if_neg Bool.false_ne_true]; exact (h2 rfl).imp k (fun _ _ h => h) (fun _ _ h => h) fun _ _ h => h
section
variable {K : PySem.W.Frag} {τ : T} {μ μ1 μ2 : M} {Φ : D → M → Prop} {tl te : TE} {tt : TT}
theorem sets1 {j : Nat} {x : D} : sets τ [j] [x] = τ.set j (some x) := rfl
theorem filt_step {f : D → D} {p : D → Bool} {ds : List D} {i : Nat} {x : D} (h : ds[i]? = some x) : (ds.take (i + 1)).filter p = (ds.take i).filter p ++ (if p x = true then [x] else []) := by
  rw [List.take_add_one, h, List.filter_append]
  congr 1
  simp only [Option.toList_some, List.filter_cons, List.filter_nil]
theorem lc_pure_turn {j : Nat} (f : D → D) (p : D → Bool) {ds : List D} {i : Nat} {x : D} (hz : ds.length < sizeLine) (hx : ds[i]? = some x)
    (ht : AT K tt (τ.set j (some x)) μ1 fun b μ2 => b = p x ∧ μ2 = μ1) (he : p x = true → AE K te (τ.set j (some x)) μ1 fun y μ2 => y = f x ∧ μ2 = μ1) :
    LcTurn K τ tt te [j] (fun d ds => ds = [d]) x (((ds.take i).filter p).map f) μ1 fun acc μ' => μ' = μ1 ∧ acc = ((ds.take (i + 1)).filter p).map f := by
  refine ⟨[x], rfl, rfl, ?_⟩
  rw [sets1]
  refine ht.imp fun b μ' ⟨e1, e2⟩ => ?_
  subst e2
  rw [filt_step (f := f) hx]
  cases b with
  | true =>
    rw [if_pos rfl]
    refine (he e1.symm).imp fun y μ' ⟨e3, e4⟩ => ?_
    subst e4
    refine ⟨?_, rfl, ?_⟩
    · rw [List.length_map]
      have h1 := List.length_filter_le p (ds.take i)
      have h2 : (ds.take i).length ≤ ds.length := by rw [List.length_take]; omega
      omega
    · rw [if_pos e1.symm, List.map_append, e3]
      rfl
  | false =>
    rw [if_neg Bool.false_ne_true]
    refine ⟨rfl, ?_⟩
    rw [if_neg (by rw [← e1]; exact Bool.false_ne_true), List.append_nil]
end
end Z
namespace Z
open PySem L2
/-- J yields xs in turn while G stands; what is at out is not in the store meanwhile -/
structure WalkD (K : PySem.W.Frag) (J : It) (xs : List D) (out : Addr → Prop) (G : Hp → Prop) : Prop where
  keep : ∀ H H' μ μ', Z.Con K H μ → (∀ a, out a → μ a = none) → G H → Fr μ μ' H H' → G H'
  oo : ∀ H a, G H → out a → ∃ o, H a = some o
  go : ∀ i H, i < xs.length → G H → J.go i H
  stop : ∀ i H, xs.length ≤ i → G H → J.stop i H
  yld : ∀ i H v H', i < xs.length → G H → J.yld i H v H' → ∃ x, xs[i]? = some x ∧ Rel K H' v x ∧ (H' = H ∨ ∃ T vs, H T = none ∧ H' = upd H T (.tup vs))
/-- how the store is put together again -/
structure Back (K : PySem.W.Frag) (μ μw : M) (H H1 : Hp) (back : M → M) : Prop where
  fr : ∀ μ' H', Fr μw μ' H1 H' → Fr μ (back μ') H H'
  con : ∀ μ' H', Fr μw μ' H1 H' → Z.Con K H' μ' → Z.Con K H' (back μ')
  nw : ∀ μ' p, H1 p = none → μ' p = none → back μ' p = none
  old : ∀ b o, μ b = none → H b = some o → H1 b = some o
/-- a source: what follows is told of the items, the store while it is walked, the way back -/
def AI (K : PySem.W.Frag) (wi : TI) (τ : T) (μ : M) (Ψ : List D → M → (M → M) → Prop) : Prop :=
  ∀ σ H, Slots K H τ σ → Z.Con K H μ → ∀ R : It → Hp → Prop,
    (∀ J xs out G H1 μw back, Tx H H1 → Z.Con K H1 μw → WalkD K J xs out G → G H1 → (∀ a, out a → μw a = none) → Back K μ μw H H1 back → Ψ xs μw back → R J H1) → wi σ H R
section
variable {K : PySem.W.Frag} {τ : T} {μ μ1 μ2 : M} {H H1 H2 H' : Hp} {σ : L2.St} {Φ : D → M → Prop} {ta tl te : TE} {tt : TT} {N : AEnds} {ts tb : TS} {g : TG} {wi : TI}
def turnB (N : AEnds) (back : M → M) (P : T → M → Prop) : AEnds := { nx := P, ct := P, rt := fun d μ' => N.rt d (back μ'), bk := fun τ' μ' => N.nx τ' (back μ'), W := N.W, cn := N.cn, xs := fun x dx τ' μ' => N.xs x dx τ' (back μ') }
/-- behind one yield -/
theorem yld_ok {T0 : Addr} {vs : List V} (c : Z.Con K H μ) (h : H T0 = none) : Fr μ μ H (upd H T0 (.tup vs)) ∧ Z.Con K (upd H T0 (.tup vs)) μ := ⟨fr_new h, con_new h c⟩
theorem s_for (h : AI K wi τ μ fun xs μw back => ∃ P : Nat → T → M → Prop, P 0 τ μw ∧ (∀ (i : Nat) x τ' μ', xs[i]? = some x → P i τ' μ' → AG K g x τ' μ' fun τ2 μ2 => AS K tb τ2 μ2 (turnB N back (P (i + 1)))) ∧ ∀ τ' μ', P xs.length τ' μ' → N.nx τ' (back μ')) :
    AS K (tFor wi g tb) τ μ N := fun σ H s c E k => by
  refine h σ H s c _ fun J xs out G H1 μw back tx c1 W g1 o1 B ⟨P, p0, hs, hd⟩ => ?_
  refine ⟨fun i m σ' H' => m = xs.length - i ∧ i ≤ xs.length ∧ ∃ τ' μ', Fr μw μ' H1 H' ∧ Z.Con K H' μ' ∧ Slots K H' τ' σ' ∧ P i τ' μ', ⟨xs.length, by omega, Nat.zero_le _, τ, μw, Fr.refl, c1, s.mono tx, p0⟩, ?_⟩
  rintro i m σ' H' ⟨rfl, hi, τ', μ', f, c', s', p⟩
  have gH : G H' := W.keep _ _ _ _ c1 o1 g1 f
  by_cases hlt : i < xs.length
  · refine .inr ⟨W.go i H' hlt gH, fun σ2 H2 => ∃ τ2 μ2, Fr μw μ2 H1 H2 ∧ Z.Con K H2 μ2 ∧ Slots K H2 τ2 σ2 ∧ P (i + 1) τ2 μ2, fun σ2 H2 ⟨τ2, μ2, f2, c2, s2, p2⟩ => ⟨xs.length - (i + 1), by omega, rfl, hlt, τ2, μ2, f2, c2, s2, p2⟩, fun v H2 y => ?_⟩
    obtain ⟨x, hx, rx, hH⟩ := W.yld i H' v H2 hlt gH y
    have fy : Fr μ' μ' H' H2 ∧ Z.Con K H2 μ' := by
      rcases hH with e | ⟨T0, vs, hT, e⟩
      · rw [e]; exact ⟨Fr.refl, c'⟩
      · rw [e]; exact yld_ok c' hT
    refine hs i x τ' μ' hx p σ' H2 v (s'.mono (fy.1.tx c')) fy.2 rx _ fun τ3 μ3 σ3 H3 f3 c3 s3 q => ?_
    have fa := (f.trans fy.1).trans f3
    refine q σ3 H3 s3 c3 _ ⟨fun τ4 μ4 σ4 H4 f4 c4 s4 p4 => ⟨τ4, μ4, fa.trans f4, c4, s4, p4⟩, fun d4 μ4 v4 H4 f4 c4 r4 p4 => ?_, fun τ4 μ4 σ4 H4 f4 c4 s4 p4 => ?_, fun τ4 μ4 σ4 H4 f4 c4 s4 p4 => ⟨τ4, μ4, fa.trans f4, c4, s4, p4⟩, fun x1 x2 x3 x4 x5 x6 x7 x8 f' c' s' p' => k.wx x1 x2 x3 _ x5 x6 x7 x8 (B.fr _ _ (fa.trans f')) (B.con _ _ (fa.trans f') c') s' p'⟩
    · exact k.rt d4 (back μ4) v4 H4 (B.fr _ _ (fa.trans f4)) (B.con _ _ (fa.trans f4) c4) r4 p4
    · exact k.nx τ4 (back μ4) σ4 H4 (B.fr _ _ (fa.trans f4)) (B.con _ _ (fa.trans f4) c4) s4 p4
  · have e : i = xs.length := by omega
    subst e
    exact .inl ⟨W.stop _ H' (Nat.le_refl _) gH, k.nx τ' (back μ') σ' H' (B.fr _ _ f) (B.con _ _ f c') s' (hd τ' μ' p)⟩
theorem a_lc {js : List Nat} {dec : D → List D → Prop} (hg : TgOk K g js dec)
    (h : AI K wi τ μ fun xs μw back => ∃ P : Nat → List D → M → Prop, P 0 [] μw ∧ (∀ (i : Nat) x acc μ', xs[i]? = some x → P i acc μ' → LcTurn K τ tt te js dec x acc μ' (P (i + 1))) ∧ ∀ acc μ', P xs.length acc μ' → ∀ p, back μ' p = none → Φ (.ref p) ((back μ').set p (.lst acc))) :
    AE K (tLc wi g tt te js) τ μ Φ := fun σ H s c Q k => by
  refine h σ H s c _ fun J xs out G H1 μw back tx c1 W g1 o1 B ⟨P, p0, hs, hd⟩ Dl hD => ?_
  have s1 := s.mono tx
  refine ⟨fun i m H' => m = xs.length - i ∧ i ≤ xs.length ∧ ∃ acc μ', LcAt K Dl μw H1 acc μ' H' ∧ P i acc μ', ⟨xs.length, by omega, Nat.zero_le _, [], μw, lc_start c1 hD, p0⟩, ?_⟩
  rintro i m H' ⟨rfl, hi, acc, μ', L, p⟩
  have gH : G H' := W.keep _ _ _ _ c1 o1 g1 L.fr
  by_cases hlt : i < xs.length
  · refine .inr ⟨W.go i H' hlt gH, fun H2 => ∃ acc2 μ2, LcAt K Dl μw H1 acc2 μ2 H2 ∧ P (i + 1) acc2 μ2, fun H2 ⟨acc2, μ2, L2, p2⟩ => ⟨xs.length - (i + 1), by omega, rfl, hlt, acc2, μ2, L2, p2⟩, fun v H2 y => ?_⟩
    obtain ⟨x, hx, rx, hH⟩ := W.yld i H' v H2 hlt gH y
    have L2 : LcAt K Dl μw H1 acc μ' H2 := by
      rcases hH with e | ⟨T0, vs, hT, e⟩
      · rw [e]; exact L
      · obtain ⟨f2, c2⟩ := yld_ok (vs := vs) L.con hT
        obtain ⟨ws, hw, hr⟩ := L.at_
        rw [e]
        exact ⟨L.fr.trans f2, c2, L.no, ws, by rw [upd_ne (fun z => by rw [z, hT] at hw; cases hw)]; exact hw, Rels.mono (tx_new hT) _ _ hr⟩
    exact lc_step hD hg s1 c1 L2 rx (hs i x acc μ' hx p) fun acc2 μ2 H3 L3 p3 => ⟨acc2, μ2, L3, p3⟩
  · have e : i = xs.length := by omega
    subst e
    obtain ⟨vs, hv, hr⟩ := L.at_
    refine .inl ⟨W.stop _ H' (Nat.le_refl _) gH, ?_⟩
    have hbn : back μ' Dl = none := B.nw _ _ hD L.no
    have fb := B.fr _ _ L.fr
    have cb := B.con _ _ L.fr L.con
    refine k _ _ _ H' (fun b o n e => ?_) (con_back (m := .lst acc) cb ⟨vs, hv, hr⟩) (.ref Dl) (hd acc μ' p Dl hbn)
    obtain ⟨e2, n2⟩ := fb b o n e
    have hb : b ≠ Dl := fun z => by
      have e3 := B.old b o n e
      rw [z, hD] at e3; cases e3
    exact ⟨e2, by rw [set_ne hb]; exact n2⟩
theorem back_id (f : Fr μ μ1 H H1) : Back K μ μ1 H H1 id := ⟨fun _ _ g => f.trans g, fun _ _ _ c => c, fun _ _ _ h => h, fun b o n e => (f b o n e).1⟩
theorem walk_T {a : Addr} {vs : List V} {ds : List D} (hr : Rels K H1 vs ds) : WalkD K (Itt K a) ds (fun _ => False) (fun H' => TupAt K H' a vs ∧ Rels K H' vs ds) where
  keep := fun H H' μ μ' c _ g f => ⟨g.1.mono (f.tx c), Rels.mono (f.tx c) _ _ g.2⟩
  oo := fun _ _ _ h => h.elim
  go := fun i H' hi g => by
    have hv : i < vs.length := by rw [hr.length]; exact hi
    exact ⟨vs, vs[i], g.1.sq, List.getElem?_eq_getElem hv⟩
  stop := fun i H' hi g => ⟨vs, g.1.sq, by rw [hr.length]; exact hi⟩
  yld := fun i H' v H2 hi g y => by
    obtain ⟨e, q⟩ := y
    obtain ⟨x, h1, h2⟩ := g.2.getV (q vs g.1.sq)
    subst e
    exact ⟨x, h1, h2, .inl rfl⟩
theorem walk_N {lo : Int} {n : Nat} : WalkD K (Itr lo n) ((List.range n).map fun (i : Nat) => D.int (lo + i)) (fun _ => False) (fun _ => True) where
  keep := fun _ _ _ _ _ _ _ _ => trivial
  oo := fun _ _ _ h => h.elim
  go := fun i H' hi _ => by
    have h : i < n := by simpa using hi
    exact h
  stop := fun i H' hi _ => by
    have h : n ≤ i := by simpa using hi
    exact h
  yld := fun i H' v H2 hi _ y => by
    obtain ⟨e, e2⟩ := y
    have h : i < n := by simpa using hi
    subst e e2
    exact ⟨.int (lo + i), by simp [h], .int _, .inl rfl⟩
variable {Ψ : List D → M → (M → M) → Prop}
theorem ai_T (h : AE K tl τ μ fun d μ1 => ∃ ds, d = .tup ds ∧ Ψ ds μ1 id) : AI K (iTup K tl) τ μ Ψ := fun σ H s c R k => h σ H s c _ fun d μ1 v H1 f1 c1 r1 ⟨ds, e, q⟩ => by
  subst e
  cases r1 with
  | @tup a xs _ ha hr => exact ⟨a, rfl, ⟨xs, ha.sq⟩, k _ ds _ _ H1 μ1 id (f1.tx c) c1 (walk_T hr) ⟨ha, hr⟩ (fun _ z => z.elim) (back_id f1) q⟩
theorem ai_1 {ta : TA} (h : AA K ta τ μ fun ds μ1 => ∃ n : Int, ds = [.int n] ∧ -(2 ^ 62) ≤ n ∧ n < 2 ^ 62 ∧ Ψ ((List.range n.toNat).map fun (i : Nat) => D.int (0 + i)) μ1 id) : AI K (iRng1 ta) τ μ Ψ := fun σ H s c R k => h σ H s c _ fun ds μ1 vs H1 f1 c1 r1 ⟨n, e, h1, h2, q⟩ => by
  subst e
  cases r1 with
  | cons r rr =>
    cases r
    cases rr
    exact ⟨n, rfl, h1, h2, k _ _ _ _ H1 μ1 id (f1.tx c) c1 walk_N trivial (fun _ z => z.elim) (back_id f1) q⟩
/-- a comprehension whose turns leave nothing, one name as target -/
theorem a_lc1 {j : Nat} (f : D → D) (p : D → Bool) (h : AI K wi τ μ fun xs μw back => xs.length < sizeLine ∧ (∀ x ∈ xs, AT K tt (τ.set j (some x)) μw fun b μ2 => b = p x ∧ μ2 = μw) ∧ (∀ x ∈ xs, p x = true → AE K te (τ.set j (some x)) μw fun y μ2 => y = f x ∧ μ2 = μw) ∧ ∀ q, back μw q = none → Φ (.ref q) ((back μw).set q (.lst ((xs.filter p).map f)))) :
    AE K (tLc wi (gName j) tt te [j]) τ μ Φ := a_lc tg_name (fun σ H s c R k => h σ H s c R fun J xs out G H1 μw back tx c1 W g1 o1 B ⟨hz, ht, he, q⟩ => k J xs out G H1 μw back tx c1 W g1 o1 B (by
  refine ⟨fun i acc μ' => μ' = μw ∧ acc = ((xs.take i).filter p).map f, ⟨rfl, rfl⟩, ?_, ?_⟩
  · rintro i x acc μ' hx ⟨rfl, rfl⟩
    exact lc_pure_turn f p hz hx (ht x (List.mem_of_getElem? hx)) (he x (List.mem_of_getElem? hx))
  · rintro acc μ' ⟨rfl, rfl⟩ a ha
    rw [List.take_length]
    exact q a ha))
end
end Z
namespace Z
open PySem L2
def Up (Φ : D → M → Prop) : D → M → Prop := fun d μ' => ∃ μ2, Sub μ2 μ' ∧ Φ d μ2
theorem up_of {Φ : D → M → Prop} {d : D} {μ2 μ' : M} (s : Sub μ2 μ') (h : Φ d μ2) : Up Φ d μ' := ⟨μ2, s, h⟩
theorem up {Φ : D → M → Prop} {d : D} {μ' : M} (h : Φ d μ') : Up Φ d μ' := ⟨μ', Sub.refl, h⟩
theorem body_okU {K : PySem.W.Frag} {H : Hp} {ts : TS} {P : PT3} {E : XK} {Ns : List Str} {vs : List V} {Q : VK} (h : spI K P vs H Q E) (hb : ∀ ds μ Φ, P ds μ Φ → AS K ts (startD Ns.length ds) μ { nx := fun _ μ' => Up Φ .non μ', rt := Up Φ }) :
    ts { nx := fun _ H' => Q .non H', rt := Q } (L2.start Ns vs) H := by
  obtain ⟨ds, μ, Φ, r, c, p, k⟩ := h
  refine hb ds μ Φ p _ H (slots_start r) c _ ⟨fun _ μ' _ H' f c' _ q => ?_, fun d μ' v H' f c' r' q => ?_, fun _ _ _ _ _ _ _ q => q.elim, fun _ _ _ _ _ _ _ q => q.elim, fun _ _ _ _ _ _ _ _ _ _ _ q => q.elim⟩
  · obtain ⟨μ2, sb, q⟩ := q
    exact k .non μ2 .non H' (f.sub sb) (c'.sub sb) .non q
  · obtain ⟨μ2, sb, q⟩ := q
    exact k d μ2 v H' (f.sub sb) (c'.sub sb) r' q
def SubB (b : Addr) (μ μ' : M) : Prop := ∀ a m, a ≠ b → μ a = some m → μ' a = some m
section
variable {μ μ' : M} {b l : Addr} {X Y : MO}
theorem sb_refl : SubB b μ μ := fun _ _ _ h => h
theorem sb_self (h : SubB b μ μ') : SubB b μ (μ'.set b Y) := fun a m n e => by rw [set_ne n]; exact h a m n e
theorem sb_new (h : SubB b μ μ') (hn : μ' l = none) : SubB b μ (μ'.set l Y) := fun a m n e => by
  have h2 := h a m n e
  rw [set_ne (fun z => by rw [z, hn] at h2; cases h2)]
  exact h2
theorem sub_new (h : Sub μ μ') (hn : μ' l = none) : Sub μ (μ'.set l Y) := fun a m e => by
  have h2 := h a m e
  rw [set_ne (fun z => by rw [z, hn] at h2; cases h2)]
  exact h2
theorem none_ne {m : MO} (h : (μ.set b m) l = none) : l ≠ b := fun z => by subst z; rw [set_same] at h; cases h
theorem none_back {m : MO} (h : (μ.set b m) l = none) : μ l = none := by
  have n := none_ne h
  rw [set_ne n] at h
  exact h
theorem ne_of_some {m : MO} (h : μ l = none) (k : μ b = some m) : l ≠ b := fun z => by subst z; rw [h] at k; cases k
end
abbrev Fq := Int × Int
abbrev Pl := Fq × Fq
end Z
namespace Z
open PySem L2
section
variable {K : PySem.W.Frag} {μ μ' : M} {Φ : D → M → Prop} {b l : Addr} {X : MO}
theorem ro_isB {a b : Bool} (q : Φ (.bl (decide (a = b))) μ) : RO K rIsB (.bl a) (.bl b) μ Φ := fun H x y c r1 r2 Q k => by
  cases r1; cases r2
  exact ⟨a, b, rfl, rfl, k _ μ _ H Fr.refl c (.bl _) q⟩
theorem ro_notB {a b : Bool} (q : Φ (.bl (!decide (a = b))) μ) : RO K rNotB (.bl a) (.bl b) μ Φ := fun H x y c r1 r2 Q k => by
  cases r1; cases r2
  exact ⟨a, b, rfl, rfl, k _ μ _ H Fr.refl c (.bl _) q⟩
end
structure Gd (n : Nat) (p : Fq) : Prop where
  pos : 0 < p.2
  s1 : Sz n p.1
  s2 : Sz n p.2
structure GdP (n : Nat) (p : Pl) : Prop where
  x : Gd n p.1
  y : Gd n p.2
theorem Gd.mono {n m : Nat} {p : Fq} (h : Gd n p) (l : n ≤ m) : Gd m p := ⟨h.pos, sz_mono h.s1 l, sz_mono h.s2 l⟩
theorem GdP.mono {n m : Nat} {p : Pl} (h : GdP n p) (l : n ≤ m) : GdP m p := ⟨h.x.mono l, h.y.mono l⟩
end Z
namespace Z
open PySem L2
def AO (K : PySem.W.Frag) (to : TO) (τ : T) (μ : M) (Θ : Option Int → M → Prop) : Prop :=
  ∀ σ H, Slots K H τ σ → Z.Con K H μ → ∀ R : Option Int → Hp → Prop, (∀ o μ' H', Fr μ μ' H H' → Z.Con K H' μ' → Θ o μ' → R o H') → to σ H R
/-- what a slice of d answers -/
def RS (K : PySem.W.Frag) (r : V → Option Int → Option Int → Hp → VK → Prop) (d : D) (lo hi : Option Int) (μ : M) (Φ : D → M → Prop) : Prop :=
  ∀ H x, Z.Con K H μ → Rel K H x d → ∀ Q : VK, (∀ z μ' v H', Fr μ μ' H H' → Z.Con K H' μ' → Rel K H' v z → Φ z μ' → Q v H') → r x lo hi H Q
def cutD (ds : List D) (lo hi : Option Int) : List D := (ds.drop (HT.sIx ds.length 0 lo)).take (HT.sIx ds.length ds.length hi - HT.sIx ds.length 0 lo)
section
variable {K : PySem.W.Frag} {τ : T} {μ μ1 μ2 : M} {H H1 H2 H' : Hp} {σ : L2.St} {Φ : D → M → Prop} {ta tl te : TE} {to tp : TO} {Θ : Option Int → M → Prop} {d e : D}
theorem ao_no (h : Θ none μ) : AO K tNoPart τ μ Θ := fun σ H s c R k => k none μ H Fr.refl c h
theorem ao_pt (h : AE K te τ μ fun d μ1 => ∃ i, d = .int i ∧ Θ (some i) μ1) : AO K (tPart te) τ μ Θ := fun σ H s c R k => h σ H s c _ fun d μ1 v H1 f1 c1 r1 ⟨i, e, q⟩ => by
  subst e
  cases r1
  exact ⟨i, rfl, k (some i) μ1 H1 f1 c1 q⟩
theorem a_sl {r : V → Option Int → Option Int → Hp → VK → Prop} (h : AE K te τ μ fun d μ1 => AO K to τ μ1 fun lo μ2 => AO K tp τ μ2 fun hi μ3 => RS K r d lo hi μ3 Φ) : AE K (L2.tSl r te to tp) τ μ Φ := fun σ H s c Q k =>
  h σ H s c _ fun d μ1 v H1 f1 c1 r1 p1 => p1 σ H1 (s.mono (f1.tx c)) c1 _ fun lo μ2 H2 f2 c2 p2 => p2 σ H2 (s.mono ((f1.trans f2).tx c)) c2 _ fun hi μ3 H3 f3 c3 p3 =>
    p3 H3 v c3 (Rel.mono ((f2.trans f3).tx c1) _ _ r1) Q fun z μ' w H' f c' rz pz => k z μ' w H' (((f1.trans f2).trans f3).trans f) c' rz pz
theorem Rels.cut {vs : List V} {ds : List D} (lo hi : Option Int) (r : Rels K H vs ds) : Rels K H (cutV vs lo hi) (cutD ds lo hi) := by
  unfold cutV cutD
  rw [r.length]
  exact (r.drop _).take _
theorem rs_ref {a : Addr} {ds : List D} {lo hi : Option Int} (h : μ a = some (.lst ds)) (q : ∀ p, μ p = none → Φ (.ref p) (μ.set p (.lst (cutD ds lo hi)))) : RS K (rSlL K) (.ref a) lo hi μ Φ := fun H x c r Q k => by
  cases r
  obtain ⟨xs, hx, hr⟩ := c a _ h
  exact ⟨a, xs, rfl, SqL.of hx, fun p hp => k _ _ _ _ (fr_put hp) (con_put (m := .lst (cutD ds lo hi)) hp c ⟨_, upd_same, Rels.mono (tx_new hp) _ _ (hr.cut lo hi)⟩) (.ref p) (q p (c.free hp))⟩
theorem rs_rol {ds : List D} {lo hi : Option Int} (q : ∀ p, μ p = none → Φ (.ref p) (μ.set p (.lst (cutD ds lo hi)))) : RS K (rSlL K) (.rol ds) lo hi μ Φ := fun H x c r Q k => by
  cases r with
  | @rol a xs _ ht hr => exact ⟨a, xs, rfl, ht.sq, fun p hp => k _ _ _ _ (fr_put hp) (con_put (m := .lst (cutD ds lo hi)) hp c ⟨_, upd_same, Rels.mono (tx_new hp) _ _ (hr.cut lo hi)⟩) (.ref p) (q p (c.free hp))⟩
/-- two lists of the store, put together -/
theorem ro_cat {a b : Addr} {ds es : List D} (h1 : μ a = some (.lst ds)) (h2 : μ b = some (.lst es)) (hz : ds.length + es.length ≤ sizeLine) (q : ∀ p, μ p = none → Φ (.ref p) (μ.set p (.lst (ds ++ es)))) : RO K rCat (.ref a) (.ref b) μ Φ := fun H x y c r1 r2 Q k => by
  cases r1
  cases r2
  obtain ⟨xs, hx, hr⟩ := c a _ h1
  obtain ⟨ys, hy, hr2⟩ := c b _ h2
  exact ⟨a, b, xs, ys, rfl, rfl, hx, hy, by rw [hr.length, hr2.length]; exact hz, fun p hp => k _ _ _ _ (fr_put hp) (con_put (m := .lst (ds ++ es)) hp c ⟨_, upd_same, Rels.mono (tx_new hp) _ _ (hr.append hr2)⟩) (.ref p) (q p (c.free hp))⟩
end
end Z
namespace ZL
open PySem PySem.Spec PyProof.Rows PySem.Calls PySem.W
section
variable {prog : Program} {w : World} {A : Around} {E : Value → Shared → Prop} {s : Shared} {z TI TO T S i1 i2 l1 l2 : Addr} {xs ys : Array Value}
/-- how the zip stands ahead of turn k, while a list S takes its pairs -/
def ZSt (h : Heap) (z TI TO i1 i2 l1 l2 S : Addr) (xs ys : Array Value) (k : Nat) : Prop :=
  (IsPair h TI (.ref i1) (.ref i2) ∧ h.IsTupleIter i1 l1 k ∧ h.IsTupleIter i2 l2 k ∧ h.IsTuple l1 xs ∧ h.IsTuple l2 ys) ∧
  ((IsZip h z TI TO .none ∧ ∃ u v, IsPair h TO u v) ∨ ∃ T f oT, IsZipHeld h z TI TO T f ∧ h.get? T = some oT ∧ T ≠ z ∧ T ≠ i1 ∧ T ≠ i2 ∧ T ≠ S)
structure Off (S z TI TO i1 i2 l1 l2 : Addr) : Prop where
  sz : S ≠ z
  sTI : S ≠ TI
  sTO : S ≠ TO
  s1 : S ≠ i1
  s2 : S ≠ i2
  sl1 : S ≠ l1
  sl2 : S ≠ l2
theorem ZSt.keep {h h' : Heap} {k : Nat} (O : Off S z TI TO i1 i2 l1 l2) (st : ZSt h z TI TO i1 i2 l1 l2 S xs ys k) (hk : ∀ b o, b ≠ S → h.get? b = some o → h'.get? b = some o) : ZSt h' z TI TO i1 i2 l1 l2 S xs ys k := by
  obtain ⟨⟨a1, a2, a3, ⟨o4, a4, b4⟩, ⟨o5, a5, b5⟩⟩, q⟩ := st
  refine ⟨⟨hk _ _ O.sTI.symm a1, a2.at fun o e => hk _ _ O.s1.symm e, a3.at fun o e => hk _ _ O.s2.symm e, ⟨o4, hk _ _ O.sl1.symm a4, b4⟩, ⟨o5, hk _ _ O.sl2.symm a5, b5⟩⟩, ?_⟩
  rcases q with ⟨q1, u, v, q2⟩ | ⟨T, f, oT, q1, q2, n1, n2, n3, n4⟩
  · exact .inl ⟨hk _ _ O.sz.symm q1, u, v, hk _ _ O.sTO.symm q2⟩
  · exact .inr ⟨T, f, oT, hk _ _ O.sz.symm q1, hk _ _ n4 q2, n1, n2, n3, n4⟩
end
/-- what was made: a row of new pairs, each at a greater place -/
structure Row (xs ys : Array Value) (lo : Addr) (h : Heap) (as : List Addr) : Prop where
  rise : as.Pairwise (· < ·)
  above : ∀ a ∈ as, lo < a
  at_ : ∀ (j : Nat) (a : Addr), as[j]? = some a → ∃ x y, xs[j]? = some x ∧ ys[j]? = some y ∧ IsPair h a x y
section
open L2
def look : List Addr → List (V × V) → Addr → Option (V × V)
  | a :: as, z :: zs, b => if b = a then some z else look as zs b
  | _, _, _ => none
theorem look_at : ∀ {as : List Addr} {zs : List (V × V)} {j : Nat} {a : Addr} {z : V × V}, as.Nodup → as[j]? = some a → zs[j]? = some z → look as zs a = some z
  | [], _, _, _, _, _, h, _ => by simp at h
  | _ :: _, [], _, _, _, _, _, h => by simp at h
  | b :: as, y :: zs, 0, a, z, _, h, k => by
    have e1 : b = a := by simpa using h
    have e2 : y = z := by simpa using k
    unfold look
    rw [if_pos e1.symm, e2]
  | b :: as, y :: zs, j + 1, a, z, hn, h, k => by
    have hn' := List.nodup_cons.mp hn
    have h' : as[j]? = some a := by simpa using h
    have ne : a ≠ b := fun e => hn'.1 (by rw [← e]; exact List.mem_of_getElem? h')
    unfold look
    rw [if_neg ne]
    exact look_at hn'.2 h' (by simpa using k)
theorem look_out : ∀ {as : List Addr} {zs : List (V × V)} {a : Addr}, a ∉ as → look as zs a = none
  | [], _, _, _ => by unfold look; rfl
  | _ :: _, [], _, _ => by unfold look; rfl
  | b :: as, y :: zs, a, h => by
    unfold look
    rw [if_neg (fun e => h (by rw [e]; exact List.mem_cons_self))]
    exact look_out fun e => h (List.mem_cons_of_mem _ e)
def lay (H : Hp) (S : Addr) (as : List Addr) (zs : List (V × V)) : Hp := fun b => if b = S then some (.lst (as.map V.ref)) else match look as zs b with
  | some (x, y) => some (.tup [x, y])
  | none => H b
variable {X : Cx} {e e2 : Expr} {ta : TA} {p p2 cpos pos : Pos}
theorem laid {pins : List (Addr × Obj)} {σ : L2.St} {H : Hp} {s : Shared} {h' : Heap} {S : Addr} {acc : Array Value} {c : Nat} {as : List Addr} {xs ys : List V} {us vs : List Value} (I : Inv X pins σ H s) (hS0 : s.heap.objs.size ≤ S) (hk : ∀ b o, s.heap.get? b = some o → h'.get? b = some o) (rx : Vals xs us) (ry : Vals ys vs)
    (hS : h'.get? S = some { cls := .type "list", dict := none, data := .seq acc c, slots := #[] }) (hz : min us.length vs.length ≤ sizeLine) (hl : as.length = min us.length vs.length) (G : Row us.toArray vs.toArray S h' as) (hacc : acc.toList = as.map Value.ref) :
    Inv X pins σ (lay H S as (xs.zip ys)) { s with heap := h' } ∧ (∀ b o, H b = some o → lay H S as (xs.zip ys) b = some o) ∧ H S = none ∧ (∀ (j : Nat) t, as[j]? = some t → H t = none ∧ t ≠ S ∧ ∃ x y, xs[j]? = some x ∧ ys[j]? = some y ∧ lay H S as (xs.zip ys) t = some (.tup [x, y])) := by
  have nd : as.Nodup := List.Pairwise.imp (fun {a b} (h : a < b) => Nat.ne_of_lt h) G.rise
  have newS : H S = none := I.hok.fresh hS0
  have new : ∀ t ∈ as, H t = none := fun t ht => I.hok.fresh (Nat.le_of_lt (Nat.lt_of_le_of_lt hS0 (G.above t ht)))
  have offS : ∀ t ∈ as, t ≠ S := fun t ht => Nat.ne_of_gt (G.above t ht)
  have low : ∀ b o, s.heap.get? b = some o → b ∉ as ∧ b ≠ S := fun b o e => ⟨fun z => absurd (Heap.lt_size e) (Nat.not_lt.mpr (Nat.le_of_lt (Nat.lt_of_le_of_lt hS0 (G.above b z)))), Nat.ne_of_lt (Nat.lt_of_lt_of_le (Heap.lt_size e) hS0)⟩
  have eS : lay H S as (xs.zip ys) S = some (.lst (as.map V.ref)) := by unfold lay; rw [if_pos rfl]
  have off : ∀ b, b ∉ as → b ≠ S → lay H S as (xs.zip ys) b = H b := fun b h1 h2 => by unfold lay; rw [if_neg h2, look_out h1]
  have kp : ∀ b u, H b = some u → lay H S as (xs.zip ys) b = some u := fun b u e => by
    rw [off b (fun z => by rw [new b z] at e; cases e) (fun z => by rw [z, newS] at e; cases e)]; exact e
  have at_ : ∀ (j : Nat) t, as[j]? = some t → ∃ x y u v, xs[j]? = some x ∧ ys[j]? = some y ∧ us[j]? = some u ∧ vs[j]? = some v ∧ RelV x u ∧ RelV y v ∧ lay H S as (xs.zip ys) t = some (.tup [x, y]) ∧ IsPair h' t u v := fun j t hj => by
    obtain ⟨u, v, e1, e2, e3⟩ := G.at_ j t hj
    have e1 : us[j]? = some u := by simpa using e1
    have e2 : vs[j]? = some v := by simpa using e2
    have hj1 : j < xs.length := by rw [rx.length]; exact (List.getElem?_eq_some_iff.mp e1).1
    have hj2 : j < ys.length := by rw [ry.length]; exact (List.getElem?_eq_some_iff.mp e2).1
    obtain ⟨u', f1, r1⟩ := rx.get (List.getElem?_eq_getElem hj1)
    obtain ⟨v', f2, r2⟩ := ry.get (List.getElem?_eq_getElem hj2)
    rw [e1] at f1; cases f1
    rw [e2] at f2; cases f2
    refine ⟨xs[j], ys[j], u, v, List.getElem?_eq_getElem hj1, List.getElem?_eq_getElem hj2, e1, e2, r1, r2, ?_, e3⟩
    unfold lay
    rw [if_neg (offS t (List.mem_of_getElem? hj)), look_at (z := (xs[j], ys[j])) nd hj (List.getElem?_zip_eq_some.mpr ⟨List.getElem?_eq_getElem hj1, List.getElem?_eq_getElem hj2⟩)]
  refine ⟨?_, kp, newS, fun j t hj => ?_⟩
  · refine I.call' (ch := []) rfl ⟨fun b o q _ _ _ => hk b o q, fun b o q _ _ _ => ⟨o.slots, hk b o q⟩, fun b o q n _ => ?_, fun b o q _ => ⟨o, hk b o q⟩, fun b xs q => kp b _ q, fun b o u q => kp b _ q, fun b ps q => ⟨#[], by rw [kp b _ q]; simp⟩⟩ (fun b u q => ?_) I.bare fun b z => by simp at z
    · obtain ⟨z1, z2⟩ := low b o q
      rw [off b z1 z2]; exact n
    · by_cases hb : b ∈ as
      · obtain ⟨j, hj⟩ := List.mem_iff_getElem?.mp hb
        obtain ⟨x, y, u', v', _, _, _, _, r1, r2, e3, e4⟩ := at_ j b hj
        rw [e3] at q; cases q
        exact ⟨by show 2 ≤ sizeLine; decide, [u', v'], .cons r1 (.cons r2 .nil), ⟨_, e4, rfl, _, rfl⟩⟩
      · by_cases hb2 : b = S
        · rw [hb2, eS] at q; cases q
          rw [hb2]
          refine ⟨by rw [List.length_map, hl]; exact hz, acc.toList, c, by rw [hacc]; exact LiI.vals_refs as, ?_⟩
          rw [Array.toArray_toList]; exact hS
        · rw [off b hb hb2] at q
          exact (I.hok b u q).stay (fun d v _ y => hk d v y) (fun d y => kp d _ y) fun d xs y => kp d _ y
  · obtain ⟨x, y, _, _, e1, e2, _, _, _, _, e3, _⟩ := at_ j t hj
    exact ⟨new t (List.mem_of_getElem? hj), offS t (List.mem_of_getElem? hj), x, y, e1, e2, e3⟩
end
end ZL
namespace Z
open PySem L2
end Z
namespace Z
open PySem L2
section
variable {K : PySem.W.Frag} {τ : T} {μ μ1 μ2 : M} {H H1 H2 H' : Hp} {σ : L2.St} {Φ : D → M → Prop} {ta tl te : TE} {tt tt1 : TT} {g g1 : TG} {wi wi1 : TI} {d e : D}
theorem cutD_all {ds : List D} {lo hi : Option Int} (h : HT.sIx ds.length 0 lo = 0 ∧ HT.sIx ds.length ds.length hi = ds.length) : cutD ds lo hi = ds := by
  unfold cutD
  rw [h.1, h.2]
  simp
theorem rs_tupA {ds : List D} {lo hi : Option Int} (q : Φ (.tup (cutD ds lo hi)) μ) : RS K (rSlA K) (.tup ds) lo hi μ Φ := fun H x c r Q k => by
  cases r with
  | @tup a xs _ ht hr =>
    refine ⟨a, xs, rfl, ht.sq, fun hw => ?_, fun hw p hp => k _ μ _ _ (fr_new hp) (con_new hp c) (.tup (.inl upd_same) (Rels.mono (tx_new hp) _ _ (hr.cut lo hi))) q⟩
    rw [hr.length] at hw
    rw [cutD_all hw] at q
    exact k _ μ _ _ Fr.refl c (.tup ht hr) q
theorem op_catAK {X : Cx} {K : PySem.W.Frag} (h : X.K = K) : OpR X (binaryOp .Add) (rCatA K) := by subst h; exact op_catA
theorem sl_tupAK {X : Cx} {K : PySem.W.Frag} (h : X.K = K) : SlR X (rSlA K) := by subst h; exact sl_tupA
theorem ro_catA {ds es : List D} (hz : ds.length + es.length ≤ sizeLine) (q : Φ (.tup (ds ++ es)) μ) : RO K (rCatA K) (.tup ds) (.tup es) μ Φ := fun H x y c r1 r2 Q k => by
  cases r1 with
  | @tup a xs _ ht hr =>
    cases r2 with
    | @tup b ys _ ht2 hr2 =>
      refine ⟨a, b, xs, ys, rfl, rfl, ht.sq, ht2.sq, by rw [hr.length, hr2.length]; exact hz, fun z => ?_, fun _ z => ?_, fun _ _ p hp => ?_⟩
      · subst z; cases hr; exact k _ μ _ _ Fr.refl c (.tup ht2 hr2) q
      · subst z; cases hr2; rw [List.append_nil] at q; exact k _ μ _ _ Fr.refl c (.tup ht hr) q
      · exact k _ μ _ _ (fr_new hp) (con_new hp c) (.tup (.inl upd_same) (Rels.mono (tx_new hp) _ _ (hr.append hr2))) q
variable {Ψ : List D → M → (M → M) → Prop}
end
end Z
namespace Z
open PySem L2
/-- plain, and n deep at most -/
structure OkN (n : Nat) (d : D) : Prop where
  p : D.plain d = true
  l : (D.py d).canLay0 = true
  d : (D.py d).depth ≤ n
theorem OkN.mono {n m : Nat} {d : D} (h : OkN n d) (l : n ≤ m) : OkN m d := ⟨h.p, h.l, Nat.le_trans h.d l⟩
theorem OkN.ok {n : Nat} {d : D} (h : OkN n d) (l : n ≤ 64) : D.ok d = true := by
  unfold D.ok SeqAt.shaped
  rw [h.p, h.l, decide_eq_true (Nat.le_trans h.d l)]
  rfl
theorem okn_int {i : Int} : OkN 0 (.int i) := ⟨by simp only [D.plain], by simp only [D.py, PyData.canLay0], by simp only [D.py, PyData.depth]; exact Nat.le_refl _⟩
theorem okn_bl {i : Bool} : OkN 0 (.bl i) := ⟨by simp only [D.plain], by simp only [D.py, PyData.canLay0], by simp only [D.py, PyData.depth]; exact Nat.le_refl _⟩
theorem okn_non : OkN 0 .non := ⟨by simp only [D.plain], by simp only [D.py, PyData.canLay0], by simp only [D.py, PyData.depth]; exact Nat.le_refl _⟩
theorem okn_all {n : Nat} : ∀ {ds : List D}, (∀ x ∈ ds, OkN n x) → D.plains ds = true ∧ PyData.canLayAll0 (D.pys ds) = true ∧ PyData.depthAll (D.pys ds) ≤ n
  | [], _ => ⟨by simp only [D.plains], by simp only [D.pys, PyData.canLayAll0], by simp only [D.pys, PyData.depthAll]; exact Nat.zero_le _⟩
  | x :: ds, h => by
    obtain ⟨h1, h2, h3⟩ := okn_all (ds := ds) fun y hy => h y (List.mem_cons_of_mem _ hy)
    have hx := h x List.mem_cons_self
    refine ⟨by simp only [D.plains, hx.p, h1, Bool.and_self], by simp only [D.pys, PyData.canLayAll0, hx.l, h2, Bool.and_self], ?_⟩
    simp only [D.pys, PyData.depthAll]
    exact Nat.max_le.mpr ⟨hx.d, h3⟩
theorem eqv_self {n : Nat} {d : D} (h : OkN n d) : D.eqv d d = true := SeqAt.eqv_refl _ h.l
end Z
namespace Z
open PySem L2
end Z
namespace PySem.HandSPX
open PySem PySem.Spec PySem.Calls
structure NewIn (B : String) (tl : List Value) : Prop where
  b : tl.contains (.type B) = true
  a : tl.contains (.type "AttributeError") = false
  n : tl.contains (.type "NameError") = false
section
variable {prog : Program} {w : World} {A : Around} {E : Value → Shared → Prop} {h : Heap} {g : Array GenState} {d : Drawn} {t : Nat} {os : OsState} {C : Addr} {B newId initId : String} {bmB rest : List Value}
/-- the class of the text at C: its objects are made by newId, B is of its chain, the two classes with fields of their own are not -/
structure OwnAt (h : Heap) (C : Addr) (B newId : String) : Prop where
  obj : ∃ (nm q : Str) (N : Addr) (bs bm : List Value) (hdct : Bool) (sn : List Str) (sub : List Value) (ab : Bool) (col : Option Bool) (dd : Option Addr) (k0 k1 k2 k3 k5 : Option Value), h.get? C = some (excClassObj nm q C N bs bm hdct sn sub ab col dd k0 k1 k2 k3 k5 newId) ∧
    (Value.ref C :: bm).contains (.type B) = true ∧ (Value.ref C :: bm).contains (.type "AttributeError") = false ∧ (Value.ref C :: bm).contains (.type "NameError") = false
/-- newId may be asked for such an object -/
theorem OwnAt.asked (c : OwnAt h C B newId) (F : ExcBaseFacts B newId initId bmB) {M : Model} {Q : Unit → Shared → Prop} (q : Q () ⟨h, g, d, t, os⟩) : wpAny M A (checkBuiltinCall newId ⟨.ref C :: rest, []⟩) Q E ⟨h, g, d, t, os⟩ := by
  obtain ⟨_, _, _, _, _, _, _, _, _, _, _, _, _, _, _, _, at_, isB, _⟩ := c.obj
  have plain := F.noStar
  simp only [checkBuiltinCall, F.newKind, F.newSplit, F.newRow]
  repeat' first
    | refine wpAny_loadPart_at at_ ?_
    | (refine wpAny_isSubtype_exc at_ ?_; rw [isB])
    | refine wpAny_staticBase_exc at_ ?_
    | refine wpAny_madeBy_exc at_ ?_
    | simp only [bne_self_eq_false, Bool.false_eq_true, if_false]
    | wp_step
  exact q
/-- what newId lays: the tuple of the arguments, then the object -/
theorem OwnAt.laid (c : OwnAt h C B newId) (F : ExcBaseFacts B newId initId bmB) (few : rest.length ≤ sizeLine) {R : Result → Shared → Prop}
    (q : R (.ok (.ret (.ref (h.objs.size + 1)))) ⟨(h.push (W.kdv_tup rest)).push (excO C h.objs.size), g, d, t, os⟩) : codeAny (model prog w) A (.builtin newId ⟨.ref C :: rest, []⟩) R ⟨h, g, d, t, os⟩ := by
  obtain ⟨_, _, _, _, _, _, _, _, _, _, _, _, _, _, _, _, at_, isB, notA, notN⟩ := c.obj
  have ends := F.ends
  apply codeAny_builtinAt F.entry
  unfold Builtin.«BaseException.__new__»
  apply wpAt_bind
  show wpAt _ _ _ (stack >>= _) _ _ _
  apply wpAt_bind
  apply wpAt_stack
  intro top below
  apply wpAt_of_wpAny
  wp_walk
  apply wpAt_of_wpAny
  rw [F.owner]
  repeat' first
    | with_reducible refine wpAny_madeHere_exc F.canon at_ ?_
    | with_reducible refine wpAny_loadPart_at at_ ?_
    | (with_reducible refine wpAny_isSubtype_exc at_ ?_; simp only [isB, notA, notN])
    | wp_step
  rw [show h.objs.size + 1 = (h.push (W.kdv_tup rest)).objs.size from (Heap.size_push ..).symm] at q
  exact q
/-- type.__call__ at C: laid, then given to its own __init__, which gives None -/
theorem OwnAt.text (c : OwnAt h C B newId) (F : ExcBaseFacts B newId initId bmB) (few : rest.length ≤ sizeLine) {fI : Addr} {Q : Fin → Shared → Prop} (init : W.Looks (model prog w) h (typeLookup (.ref C) "__init__") (some (.ref fI)))
    (bind : ∀ self, W.Looks (model prog w) h (bindSpecial (.ref fI) self) (.ref fI, [self]))
    (q : codeAny (model prog w) A (.call (.ref fI) ⟨.ref (h.objs.size + 1) :: rest, []⟩) (fun r z => match r with | .ok (.ret v) => v = .none ∧ Q (.done (.ret (.ref (h.objs.size + 1)))) z | .ok _ => False | .error e => E e z)
      ⟨(h.push (W.kdv_tup rest)).push (excO C h.objs.size), g, d, t, os⟩) : wpAny (model prog w) A (Builtin.«type.__call__» ⟨.ref C :: rest, []⟩) Q E ⟨h, g, d, t, os⟩ := by
  have c' := c
  obtain ⟨_, _, _, _, bm, _, _, _, _, _, _, _, _, _, _, _, at_, _⟩ := c'.obj
  have more : ∀ b o, h.get? b = some o → ((h.push (W.kdv_tup rest)).push (excO C h.objs.size)).get? b = some o := fun b o e => Heap.get?_push_of_some _ (Heap.get?_push_of_some _ e)
  have new : ((h.push (W.kdv_tup rest)).push (excO C h.objs.size)).get? (h.objs.size + 1) = some (excO C h.objs.size) := by heap_get
  have itself : (Value.ref C :: bm).contains (.ref C) = true := by rw [List.contains_cons, beq_self_eq_true, Bool.true_or]
  repeat' first
    | with_reducible refine wpAny_loadPart_at at_ ?_
    | with_reducible refine wpAny_madeBy_exc at_ ?_
    | wp_step
  apply codeAny_call_builtin_code (Code.quiet_builtin _ F.quiet) (c.asked F _)
  apply c.laid F few
  show wpAny _ _ _ _ _ _
  unfold isInstance
  have at2 := more _ _ at_
  repeat' first
    | with_reducible refine wpAny_loadPart_at new ?_
    | (with_reducible refine wpAny_isSubtype_exc at2 ?_; rw [itself])
    | wp_step
  show wpAny _ _ (typeLookup (.ref C) _) _ _ _
  apply (init.keeps more).at
  apply wpAny_holding
  apply wpAny_bind
  apply ((bind (.ref (h.objs.size + 1))).keeps more).at
  apply wpAny_bind
  apply wpAny_call
  apply codeAny_mono q
  intro r z out
  match r, out with
  | .error _, out => exact out
  | .ok (.ret _), ⟨rfl, out⟩ => first | exact wpAny_pure (wpAny_pure out) | (wp_walk; exact out)
/-- C(..) -/
theorem OwnAt.called (c : OwnAt h C B newId) (F : ExcBaseFacts B newId initId bmB) (few : rest.length ≤ sizeLine) {fI : Addr} {R : Result → Shared → Prop} (init : W.Looks (model prog w) h (typeLookup (.ref C) "__init__") (some (.ref fI)))
    (bind : ∀ self, W.Looks (model prog w) h (bindSpecial (.ref fI) self) (.ref fI, [self]))
    (q : codeAny (model prog w) (A.under (.builtin "type.__call__" ⟨.ref C :: rest, []⟩)) (.call (.ref fI) ⟨.ref (h.objs.size + 1) :: rest, []⟩) (W.InitBack (h.objs.size + 1) R) ⟨(h.push (W.kdv_tup rest)).push (excO C h.objs.size), g, d, t, os⟩) :
    codeAny (model prog w) A (.call (.ref C) ⟨rest, []⟩) R ⟨h, g, d, t, os⟩ := by
  obtain ⟨_, _, _, _, _, _, _, _, _, _, _, _, _, _, _, _, at_, _⟩ := id c.obj
  have looked := tc_lookup
  have bound := tc_bind (.ref C)
  have isType : (⟨h, g, d, t, os⟩ : Shared).TypeIs (.ref C) "type" := ⟨_, at_, rfl⟩
  apply codeAny_of_tree
  show wpAny _ _ (callAny (.ref C) _) _ _ _
  repeat any_goals first
    | assumption
    | with_reducible refine wpAny_loadPart_at at_ ?_
    | wp_step
  refine ⟨rfl, ?_⟩
  apply codeAny_call_builtin_at (Code.quiet_builtin _ (by decide +kernel)) entry_typeCall
  apply wpAny_check_type_call_sub at_
  apply c.text F few init bind
  apply codeAny_mono q
  intro r z out
  match r, out with
  | .error _, out => exact out
  | .ok (.ret _), out => exact out
end
end PySem.HandSPX
namespace XO
open PySem PySem.Spec PyProof.Rows L2
open Builtin Builtin.ObjectAttr
def isR : Value → Bool
  | .ref _ => true
  | _ => false
/-- own classes, then the base's chain -/
def rT (tl l : List Value) : Bool := l.dropWhile isR == tl
theorem isR_ex : ∀ {a : Value}, isR a = true → ∃ c, a = .ref c
  | .ref c, _ => ⟨c, rfl⟩
theorem rT_eq {tl : List Value} {a : Value} {r : List Value} (h : rT tl (a :: r) = true) : (∃ c, a = .ref c ∧ rT tl r = true) ∨ a :: r = tl := by
  unfold rT at h
  rw [List.dropWhile_cons] at h
  by_cases q : isR a = true
  · rw [if_pos q] at h
    obtain ⟨c, e⟩ := isR_ex q
    exact .inl ⟨c, e, h⟩
  · rw [if_neg q] at h
    exact .inr (beq_iff_eq.mp h)
theorem rT_nil {tl : List Value} (h : rT tl [] = true) : [] = tl := beq_iff_eq.mp h
theorem rT_pass {tl : List Value} (hp : ∀ self, refuseLoop self "__setattr__" tl = pure ()) (self : Value) : ∀ l : List Value, rT tl l = true → refuseLoop self "__setattr__" l = pure ()
  | [], h => by rw [rT_nil h]; exact hp self
  | a :: r, h => by
    rcases rT_eq h with ⟨c, e, q⟩ | e
    · rw [e, refuseLoop_ref]; exact rT_pass hp self r q
    · rw [e]; exact hp self
theorem rT_has {tl : List Value} (X : String) : ∀ l : List Value, rT tl l = true → l.contains (.type X) = tl.contains (.type X)
  | [], h => by rw [rT_nil h]
  | a :: r, h => by
    rcases rT_eq h with ⟨c, e, q⟩ | e
    · rw [e, List.contains_cons, rT_has X r q]; rfl
    · rw [e]
/-- such a class as it stands in the heap -/
theorem ownAt {h : Heap} {C N : Addr} {B newId : String} {tl bm bs : List Value} {nm q : Str} {hdct : Bool} {sn : List Str} {sub : List Value} {ab : Bool} {col : Option Bool} {dd : Option Addr} {k0 k1 k2 k3 k5 : Option Value} (NI : PySem.HandSPX.NewIn B tl)
    (at_ : h.get? C = some (excClassObj nm q C N bs bm hdct sn sub ab col dd k0 k1 k2 k3 k5 newId)) (chain : rT tl bm = true) : PySem.HandSPX.OwnAt h C B newId := by
  have other : ∀ (Y : String), (Value.ref C :: bm).contains (.type Y) = tl.contains (.type Y) := fun Y => by
    rw [List.contains_cons, rT_has Y bm chain]
    rfl
  exact ⟨_, _, _, _, bm, _, _, _, _, _, _, _, _, _, _, _, at_, (other _).trans NI.b, (other _).trans NI.a, (other _).trans NI.n⟩
/-- what is asked of a base: its chain is tl -/
structure Bt (tl : List Value) : Prop where
  pass : ∀ self, refuseLoop self "__setattr__" tl = pure ()
  obj : tl.contains (.type "object") = true
theorem rT_some {tl l : List Value} (b : Bt tl) (h : rT tl l = true) : l.isEmpty = false := by
  cases l with
  | nil =>
    have q := b.obj
    rw [← rT_nil h] at q
    cases q
  | cons _ _ => rfl
abbrev tlIE : List Value := [.type "IndexError", .type "LookupError", .type "Exception", .type "BaseException", .type "object"]
abbrev tlVE : List Value := [.type "ValueError", .type "Exception", .type "BaseException", .type "object"]
theorem bt_IE : Bt tlIE := ⟨fun self => by kernel_rfl, by decide +kernel⟩
section
variable {prog : Program} {w : World} {A : Around} {E : Value → Shared → Prop} {R : Result → Shared → Prop} {hp : Heap} {g : Array GenState} {dr : Drawn} {t : Nat} {os : OsState}
/-- the first field of an exception of such a class -/
theorem osa_first {K : W.Frag} {nm : Str} {tk : Tok} {u : Value} {e C : Addr} {fv : Array Value} {cd : ClassData} {tl : List Value} (bt : Bt tl)
    (kin : K.In hp) (at_e : hp.get? e = some { cls := .ref C, data := .fields fv }) (cl : W.clsIn K C = some cd) (ch : rT tl cd.mro = true) (own : cd.hasDict = true) (none_ : W.findIn K (.ref C) nm = some none)
    (fin : ∀ h2 tk2 dx, (∀ b o, b ≠ e → hp.get? b = some o → h2.get? b = some o) → hp.objs.size ≤ dx → dx ≠ e → h2.get? e = some { cls := .ref C, dict := some dx, data := .fields fv } →
      h2.Ns1 dx (fun y => if y = nm then some u else none) → R (.ok (.ret .none)) ⟨h2, g, dr, tk2, os⟩) :
    codeAny (model prog w) A (.call (.builtin "object.__setattr__") ⟨[.ref e, .str nm tk, u], []⟩) R ⟨hp, g, dr, t, os⟩ := by
  have inst : W.InstAt hp e { cls := .ref C, data := .fields fv } C none := ⟨at_e, rfl, rfl, trivial⟩
  have sto := F.store_object
  have isO : cd.mro.contains (.type "object") = true := (rT_has "object" _ ch).trans bt.obj
  have ene : e ≠ hp.objs.size := Nat.ne_of_lt (Heap.lt_size at_e)
  have isI : W.Looks (model prog w) hp (isInstance (.ref e) (.type "object")) true :=
    inst.type.andThen (W.looks_mroIn kin (by unfold W.mroIn; rw [cl, Option.bind_some, if_neg (by rw [rT_some bt ch]; decide), isO]))
  refine codeAny_call_builtin sto.slot.plain sto.entry
    (@W.check_slot (model prog w) _ _ ⟨hp, g, dr, t, os⟩ "object.__setattr__" "object" "__setattr__" (.ref e) [.str nm tk, u] [] _ sto.kind sto.split isI (sto.args (.ref e) (.str nm tk) u) ?_)
  have chain : W.Looks (model prog w) hp (mroOf (.ref C)) cd.mro := (W.looks_clsIn kin cl).andThen .now
  have noTaker : W.Looks (model prog w) hp (storeTaker? none) none := .now
  have theCls : W.Looks (model prog w) hp (classData C) cd := W.looks_clsIn kin cl
  rw [W.osa_eq, refuse_eq]
  refine wpAny_bind (wpAny_bind (inst.type.at (wpAny_bind (chain.at ?_))))
  rw [rT_pass bt.pass _ _ ch]
  refine wpAny_pure (wpAny_bind (inst.type.at (wpAny_bind ((W.looks_findIn kin none_).at (wpAny_bind (noTaker.at ?_))))))
  show wpAny _ _ (storeInOwnDict (.ref e) (.ref C) (.str nm tk) nm u false) _ _ _
  obtain ⟨n0, b0, m0, s0, q0, hd0, sn0, sb0, a0, c0, d0⟩ := cd
  dsimp only at own
  subst own
  unfold storeInOwnDict ownDictForStores
  repeat (first | with_reducible refine HandSPX.store_in_new ?_ ?_ | with_reducible refine wpAny_loadPart_at at_e ?_ | with_reducible refine theCls.at ?_ | wp_step)
  · exact ⟨_, #[], _, (Heap.get?_update_ne _ _ _ _ ene.symm).trans (Heap.get?_push_at rfl rfl), rfl, fun e he => absurd he (by simp), fun _ => rfl⟩
  · intro h2 tk2 ns2 same
    have e_old : (hp.push { cls := .type "dict", data := .dict #[] }).get? e = some { cls := .ref C, data := .fields fv } := Heap.get?_push_of_some _ at_e
    refine fin h2 tk2 hp.objs.size (fun b o nb at_b => ?_) (Nat.le_refl _) ene.symm ?_ ns2
    · exact (same.2 b (Nat.ne_of_lt (Heap.lt_size at_b))).trans ((Heap.get?_update_ne _ _ _ _ nb).trans (Heap.get?_push_of_some _ at_b))
    · exact (same.2 e ene).trans (Heap.get?_update_self _ e_old rfl)
end
/-- what the written part says of such a class -/
structure OexB (K : PySem.W.Frag) (C : Addr) (newId : String) (tl : List Value) : Prop where
  cls : ∃ nm q N bs bm sn sub ab col dd k0 k1 k2 k3 k5, K.lookup C = some (excClassObj nm q C N bs bm true sn sub ab col dd k0 k1 k2 k3 k5 newId) ∧ rT tl bm = true
  bt : Bt tl
  sa : PySem.W.findIn K (.ref C) "__setattr__" = some (some (.builtin "object.__setattr__"))
  exC : PySem.W.subIn K (.ref C) (.type "BaseException") = some true
  tyC : PySem.W.typeIn K (.ref C) = some (.type "type")
  kC : PySem.W.keepIn K (.ref C) = true
section
variable {X : Cx} {pins : List (Addr × Obj)} {σ : L2.St} {H : Hp} {s : Shared} {a C dx : Addr} {f : Str} {y : V} {u : Value} {Q : Unit → Shared → Prop} {E : Value → Shared → Prop} {A : Around} {newId : String} {tl : List Value}
theorem put_first (T : OexB X.K C newId tl) (I : Inv X pins σ H s) (e : H a = some (exo a C none)) (none_ : PySem.W.findIn X.K (.ref C) f = some none) (ry : RelV y u)
    (k : ∀ dx s2, H dx = none → dx ≠ a → Inv X pins σ (upd (upd H dx (exd dx [(f, y)])) a (exo a C (some dx))) s2 → Q () s2) : wpAny (model X.prog X.w) A (setAttr (.ref a) f u) Q E s := by
  obtain ⟨nm, q, N, bs, bm, sn, sub, ab, col, dd, k0, k1, k2, k3, k5, atC, chain⟩ := T.cls
  have cl : PySem.W.clsIn X.K C = some { name := nm, bases := bs, mro := .ref C :: bm, ns := N, qualname := q, hasDict := true, slotNames := sn, subclasses := sub, abstract := ab, collection := col, hasDel := false } := by
    unfold PySem.W.clsIn; rw [atC] <;> rfl
  have chain2 : rT tl (.ref C :: bm) = true := by unfold rT at chain ⊢; rw [List.dropWhile_cons, if_pos (by rfl)]; exact chain
  obtain ⟨t1, at_a⟩ := exo_at I.hok e
  obtain ⟨hp, g, dr, t, os⟩ := s
  refine PySem.W.set_plain I.kIn (ox := { cls := .ref C, dict := none, data := .fields #[.ref t1, .none, .none, .none, .bool false, .none] }) (od := none) ⟨at_a, rfl, rfl, trivial⟩ T.sa ?_
  refine osa_first T.bt I.kIn at_a cl chain2 rfl none_ (fun h2 tk2 dx keep big dne hx hn => ?_)
  have free : H dx = none := I.hok.fresh big
  have nd : ∀ {b : Addr} {o : Obj}, hp.get? b = some o → b ≠ dx := fun {b o} z => Nat.ne_of_lt (Nat.lt_of_lt_of_le (Heap.lt_size z) big)
  have na : ∀ {b : Addr}, H b = none → b ≠ a := fun {b} n z => by rw [z, e] at n; cases n
  have un : Un X.fs [] H (upd (upd H dx (exd dx [(f, y)])) a (exo a C (some dx))) hp h2 :=
    ⟨fun b o z n _ _ => keep b o (na n) z, fun b o z n _ _ => ⟨o.slots, keep b o (na n) z⟩, fun b o z n _ => by rw [upd_ne (na n), upd_ne (nd z)]; exact n,
      fun b o z _ => by
        by_cases hb : b = a
        · exact ⟨_, by rw [hb]; exact hx⟩
        · exact ⟨o, keep b o hb z⟩,
      fun b xs z => by rw [upd_ne (at_ne e z exo_tup), upd_ne (ne_of_none z free)]; exact z,
      fun b o v z => by rw [upd_ne (at_ne e z exo_frz), upd_ne (ne_of_none z free)]; exact z,
      fun b ps z => ⟨#[], by rw [upd_ne (at_ne e z exo_tbl), upd_ne (ne_of_none z free), z]; simp⟩⟩
  refine k dx _ free dne (I.un (t' := tk2) un fun b o z => ?_)
  by_cases hb : b = a
  · subst hb
    rw [upd_same] at z
    cases z
    exact exo_ok hx
  by_cases hd : b = dx
  · subst hd
    rw [upd_ne hb, upd_same] at z
    cases z
    exact exd_ok hn (relO_put (fs := []) ry fun g => True.intro)
  rw [upd_ne hb, upd_ne hd] at z
  refine (I.hok b o z).stay (fun c v hc r => keep c v ?_ r) (fun c hc => ?_) (fun c xs hc => ?_)
  · rcases hc with hc | hc
    · rw [hc]; exact hb
    · exact at_ne e hc exo_own
  · rw [upd_ne (at_ne e hc exo_own), upd_ne (ne_of_none hc free)]; exact hc
  · rw [upd_ne (at_ne e hc exo_tup), upd_ne (ne_of_none hc free)]; exact hc
end
/-- self.f = e, in the making -/
def tOs1 (K : PySem.W.Frag) (newId : String) (tl : List Value) (f : Str) (to te : TE) : TS := fun D σ H => te σ H fun y H1 => to σ H1 fun x H2 => ∃ a C : Addr, x = .ref a ∧ OexB K C newId tl ∧ PySem.W.findIn K (.ref C) f = some none ∧
  H2 a = some (exo a C none) ∧ ∀ dx, H2 dx = none → dx ≠ a → D.nx σ (upd (upd H2 dx (exd dx [(f, y)])) a (exo a C (some dx)))
theorem ps_os1 {X : Cx} {o e : Expr} {to te : TE} {f : Str} {p pos : Pos} {newId : String} {tl : List Value} (ho : PE X o to) (he : PE X e te) (hs : swapsWith e (some (.Attribute o f p)) pos.line X.env = pure false := by rfl) :
    PS X (.Assign [.Attribute o f p] e pos) (tOs1 X.K newId tl f to te) := by
  refine ⟨fun pins s σ H D I h => ?_⟩
  refine plainObj_wpAny_Assign_Attribute (thn (he.run pins s σ H _ I h) fun v s1 ⟨y, H1, I1, r1, q1⟩ => thn (ho.run pins s1 σ H1 _ I1 q1) fun u s2 ⟨x, H2, I2, r2, a, C, ex, T, none_, ea, q⟩ => ?_) hs
  subst ex
  obtain rfl : u = Value.ref a := r2
  exact put_first T I2 ea none_ r1 fun dx s3 n ne J => ⟨σ, _, J, q dx n ne⟩
/-- __init__(self, v) of such a class -/
def spI1 (K : PySem.W.Frag) (newId : String) (tl : List Value) (f : Str) : Sp := fun vs H Q _ => ∃ (a C : Addr) (y : V), vs = [.ref a, y] ∧ OexB K C newId tl ∧ PySem.W.findIn K (.ref C) f = some none ∧ H a = some (exo a C none) ∧
  ∀ dx, H dx = none → dx ≠ a → Q .non (upd (upd H dx (exd dx [(f, y)])) a (exo a C (some dx)))
/-- C(e) -/
def tMk1 (C : Addr) (f : Str) (ta : TA) : L2.St → Hp → XK → Prop := fun σ H Q => ta σ H fun vs H1 => ∃ y, vs = [y] ∧ ∀ dx, H1 dx = none → Q (.ref C) (some dx) (upd H1 dx (.xd [(f, y)]))
section
variable {X : Cx} {C fI : Addr} {k : Nat} {fd : FuncData} {B newId initId : String} {tl : List Value} {x f p1 p2 : Str} {e : Expr} {es : List Expr} {ta : TA} {p pos : Pos}
theorem pmk_1 {tl0 : List Value} (F : ExcBaseFacts B newId initId tl0) (NI : PySem.HandSPX.NewIn B tl) (T : OexB X.K C newId tl) (none_ : PySem.W.findIn X.K (.ref C) f = some none) (iC : PySem.W.findIn X.K (.ref C) "__init__" = some (some (.ref fI))) (tI : PySem.W.typeIn X.K (.ref fI) = some (.type "function"))
    (G : FnOk X.prog X.w X.K X.mg X.base CX0 k fI fd [p1, p2] (spI1 X.K newId tl f)) (hr : Room (k + 1) X.A) (hb : Binds X.K fd [p1, p2] []) (hg : Gl X x) (hm : X.mg x = some (.ref C)) (ha : PA X (e :: es) ta)
    (hdb : (x == ("__debug__" : Str)) = false := by decide) (he : starEach (e :: es) X.env = (false, eval e X.env) :: starEach es X.env := by rfl) (hpl : (backTo pos (starEach es X.env)).any (·.1) = false := by rfl) :
    PMk X (.Call (.Name x p) (e :: es) [] pos) (tMk1 C f ta) := by
  intro pins s σ H Q I h
  obtain ⟨nm, q, N, bs, bm, sn, sub, ab, col, dd, k0, k1, k2, k3, k5, atC, chain⟩ := T.cls
  refine wpAny_Call_Name_kw (ld_glob I hg hm ?_ hdb)
  refine PySem.W.callWith_K (h₀ := X.base) I.ok.mod.kin T.kC (thn (ha.run pos pins s σ H _ I h) fun us s1 ⟨vs, H1, I1, r1, y, ev, q1⟩ => ⟨I1.kIn, ?_⟩) he hpl
  subst ev
  show wpAny _ _ (call (.ref C) us) _ _ _
  cases r1 with
  | @cons _ u0 _ ur ry rn =>
  cases rn
  obtain ⟨hp, g, dr, tk, os⟩ := s1
  have le1 : hp.objs.size ≤ hp.objs.size + 1 := Nat.le_succ _
  have free : H1 (hp.objs.size + 1) = none := I1.hok.fresh le1
  have old : ∀ b o, hp.get? b = some o → ((hp.push (PySem.W.kdv_tup [u0])).push (PySem.HandSPX.excO C hp.objs.size)).get? b = some o := fun b o z => Heap.get?_push_of_some _ (Heap.get?_push_of_some _ z)
  have hget : ((hp.push (PySem.W.kdv_tup [u0])).push (PySem.HandSPX.excO C hp.objs.size)).get? (hp.objs.size + 1) = some (PySem.HandSPX.excO C hp.objs.size) := by heap_get
  have J : Inv X pins σ (upd H1 (hp.objs.size + 1) (exo (hp.objs.size + 1) C none)) ⟨(hp.push (PySem.W.kdv_tup [u0])).push (PySem.HandSPX.excO C hp.objs.size), g, dr, tk, os⟩ :=
    I1.laid (t' := tk) (a := hp.objs.size + 1) (o := exo (hp.objs.size + 1) C none) old le1 (exo_ok hget)
  have rr : Vals [V.ref (hp.objs.size + 1), y] [Value.ref (hp.objs.size + 1), u0] := .cons rfl (.cons ry .nil)
  have small : [u0].length ≤ sizeLine := by rw [sizeLine_eq]; exact (by decide : 1 ≤ 16777216)
  have bd := hb _ [Value.ref (hp.objs.size + 1), u0] J.kIn rfl
  rw [List.append_nil] at bd
  have ask : spI1 X.K newId tl f [V.ref (hp.objs.size + 1), y] (upd H1 (hp.objs.size + 1) (exo (hp.objs.size + 1) C none))
      (fun v H2 => v = .non ∧ ∃ d, H2 (hp.objs.size + 1) = some (exo (hp.objs.size + 1) C (some d)) ∧ H2 d = some (exd d [(f, y)]) ∧ H1 d = none ∧ Q (.ref C) (some d) (upd (L2.del H2 (hp.objs.size + 1)) d (.xd [(f, y)]))) (fun _ _ _ => False) := by
    refine ⟨_, C, y, rfl, T, none_, upd_same, fun d fr ne => ⟨rfl, d, upd_same, by rw [upd_ne ne, upd_same], by rw [upd_ne ne] at fr; exact fr, ?_⟩⟩
    have e2 : upd (L2.del (upd (upd (upd H1 (hp.objs.size + 1) (exo (hp.objs.size + 1) C none)) d (exd d [(f, y)])) (hp.objs.size + 1) (exo (hp.objs.size + 1) C (some d))) (hp.objs.size + 1)) d (.xd [(f, y)]) = upd H1 d (.xd [(f, y)]) := by
      funext b
      by_cases b1 : b = d
      · rw [b1, upd_same, upd_same]
      · rw [upd_ne b1, upd_ne b1]
        by_cases b2 : b = hp.objs.size + 1
        · rw [b2, del_same, free]
        · rw [L2.del_ne b2, upd_ne b2, upd_ne b1, upd_ne b2]
    rw [e2]
    exact q1 d (by rw [upd_ne ne] at fr; exact fr)
  refine wpAny_call ((ownAt NI (I1.kIn _ _ atC) chain).called F small (PySem.W.looks_findIn I1.kIn iC) (fun self => PySem.W.bind_fn I1.kIn self tI)
    (codeAny_mono (G.run _ X.stack _ _ ⟨[Value.ref (hp.objs.size + 1), u0], []⟩ [Value.ref (hp.objs.size + 1), u0] _ _ (fun _ _ _ => False) (hr.make C [u0] []) (J.env0.make C [u0] []) bd rr ask) fun r s2 res => ?_))
  cases r with
  | error er => exact res.elim
  | ok fl =>
    cases fl with
    | ret u =>
      obtain ⟨v, H2, os2, bare2, un2, hok2, rv, ev, d, ea, ed, hd1, q2⟩ := res
      subst ev
      obtain ⟨h2, g2, d2, t2, o2⟩ := s2
      exact ⟨rv, mk_end (raises_own T.exC T.tyC) I1 le1 old un2 hok2 os2 bare2 ea ed hd1 q2⟩
    | next => exact res.elim
    | brk => exact res.elim
    | cont => exact res.elim
end
/-- the text of such an __init__ keeps spI1 -/
theorem init_ok {P : Program} {w : World} {K : PySem.W.Frag} {newId : String} {tl : List Value} {f p1 p2 : Str} {D : Ends} {vs : List V} {H : Hp} {Q : VK} {E : XK} (h : spI1 K newId tl f vs H Q E) :
    tOs1 K newId tl f (tVar 0) (tVar 1) { nx := fun _ H' => Q .non H', rt := Q } (L2.start [p1, p2] vs) H := by
  obtain ⟨a, C, y, ev, T, none_, ea, q⟩ := h
  subst ev
  exact ⟨y, rfl, _, rfl, a, C, rfl, T, none_, ea, fun dx n ne => q dx n ne⟩
end XO
namespace Z
open PySem L2
/-- o.m(..) where it may let an exception out -/
def tMethX (C : Addr) (m : Str) (sp : Sp) (E : L2.St → XK) (ta : TE) (t : TA) : TE := fun σ H Q => ta σ H fun x H1 => ∃ a dx fs, x = .ref a ∧ H1 a = some (.ins C dx fs) ∧ fs.lookup m = none ∧ t σ H1 fun vs H2 => sp (x :: vs) H2 Q (E σ)
abbrev XW := Str → Option Addr → M → Prop
/-- P args store wish out -/
abbrev PT4 := List D → M → (D → M → Prop) → XW → Prop
def spX (K : PySem.W.Frag) (cn : Str → Option Value) (P : PT4) : Sp := fun vs H Q E => ∃ ds μ Φ Ξ, Rels K H vs ds ∧ Z.Con K H μ ∧ P ds μ Φ Ξ ∧ (∀ d μ' v H', Fr μ μ' H H' → Z.Con K H' μ' → Rel K H' v d → Φ d μ' → Q v H') ∧
  ∀ x dx μ' cls H', cn x = some cls → Fr μ μ' H H' → Z.Con K H' μ' → Ξ x dx μ' → E cls dx H'
section
variable {K : PySem.W.Frag} {τ : T} {μ μ1 μ2 : M} {H H1 H2 : Hp} {σ : L2.St} {Φ Ψ : D → M → Prop} {ta tb tc te : TE} {t u : TT} {x y z d e : D} {N : AEnds} {ts us : TS} {P : PT4} {P3 : PT3} {E : XK} {g : TG} {cn : Str → Option Value}
theorem spX_len {vs : List V} {Q : VK} {n : Nat} (h : spX K cn P vs H Q E) (hn : ∀ ds μ Φ Ξ, P ds μ Φ Ξ → ds.length = n) : vs.length = n := by
  obtain ⟨ds, μ, Φ, Ξ, r, _, p, _⟩ := h
  rw [r.length]; exact hn _ _ _ _ p
abbrev endX (cn : Str → Option Value) (E : XK) (Φ : D → M → Prop) (Ξ : XW) : AEnds := { nx := fun _ μ' => Φ .non μ', rt := Φ, W := fun cls d _ H => E cls d H, cn := cn, xs := fun x dx _ μ' => Ξ x dx μ' }
theorem body_okX {Ns : List Str} {vs : List V} {Q : VK} (h : spX K cn P vs H Q E) (hb : ∀ ds μ Φ Ξ, P ds μ Φ Ξ → AS K ts (startD Ns.length ds) μ (endX cn E Φ Ξ)) :
    ts { nx := fun _ H' => Q .non H', rt := Q } (L2.start Ns vs) H := by
  obtain ⟨ds, μ, Φ, Ξ, r, c, p, k, kx⟩ := h
  exact hb ds μ Φ Ξ p _ H (slots_start r) c _ ⟨fun _ μ' _ H' f c' _ q => k .non μ' .non H' f c' .non q, fun d μ' v H' f c' r' q => k d μ' v H' f c' r' q, fun _ _ _ _ _ _ _ q => q.elim, fun _ _ _ _ _ _ _ q => q.elim,
    fun x dx _ μ' cls _ H' e f c' _ q => kx x dx μ' cls H' e f c' q⟩
/-- a call that lets nothing out here -/
theorem a_callX {ta : TA} (h : AA K ta τ μ fun ds μ1 => P ds μ1 Φ fun _ _ _ => False) : AE K (tCall (spX K cn P) [] E ta) τ μ Φ := fun σ H s c Q k =>
  h σ H s c _ fun ds μ1 vs H1 f1 c1 r1 p => by
    show spX K cn P (vs ++ []) H1 Q E
    rw [List.append_nil]
    exact ⟨ds, μ1, Φ, _, r1, c1, p, fun d μ' v H' f c' r q => k d μ' v H' (f1.trans f) c' r q, fun _ _ _ _ _ _ _ _ q => q.elim⟩
def AEX (K : PySem.W.Frag) (t : TE) (τ : T) (μ : M) (N : AEnds) (Φ : D → M → Prop) : Prop :=
  ∀ σ H, Slots K H τ σ → Con K H μ → ∀ Q : VK, (∀ d μ' v H', Fr μ μ' H H' → Con K H' μ' → Rel K H' v d → Φ d μ' → Q v H') →
    (∀ x dx μ' cls H', N.cn x = some cls → Fr μ μ' H H' → Con K H' μ' → N.xs x dx τ μ' → N.W cls dx σ H') → t σ H Q
theorem x_of {E' : Ends} (k : EndsOk K N μ H E') (s : Slots K H τ σ) (c : Con K H μ) : ∀ x dx μ' cls H', N.cn x = some cls → Fr μ μ' H H' → Con K H' μ' → N.xs x dx τ μ' → N.W cls dx σ H' :=
  fun x dx μ' cls H' e f c' q => k.wx x dx τ μ' cls σ H' e f c' (s.mono (f.tx c)) q
theorem s_dropX (h : AEX K te τ μ N fun _ μ' => N.nx τ μ') : AS K (tDrop te) τ μ N := fun σ H s c E k =>
  h σ H s c _ (fun d μ' v H' f c' r p => k.nx τ μ' σ H' f c' (s.mono (f.tx c)) p) (x_of k s c)
theorem s_asgX (h : AEX K te τ μ N fun d μ' => AG K g d τ μ' N.nx) : AS K (tAsg te g) τ μ N := fun σ H s c E k =>
  h σ H s c _ (fun d μ' v H' f c' r p => p σ H' v (s.mono (f.tx c)) c' r _ fun τ2 μ2 σ2 H2 f2 c2 s2 q => k.nx τ2 μ2 σ2 H2 (f.trans f2) c2 s2 q) (x_of k s c)
theorem x_call {ta : TA} (h : AA K ta τ μ fun ds μ1 => P ds μ1 Φ fun x dx μ' => N.xs x dx τ μ') : AEX K (tCallS (spX K N.cn P) (WE N.W) ta) τ μ N Φ := fun σ H s c Q k kx =>
  h σ H s c _ fun ds μ1 vs H1 f1 c1 r1 p => ⟨ds, μ1, Φ, _, r1, c1, p, fun d μ' v H' f c' r q => k d μ' v H' (f1.trans f) c' r q, fun x dx μ' cls H' e f c' q => kx x dx μ' cls H' e (f1.trans f) c' q⟩
theorem look_none {H1 : Hp} {m : Str} : ∀ {vs : List (Str × V)} {fs : List (Str × D)}, RelKV K H1 vs fs → fs.lookup m = none → vs.lookup m = none := by
  intro vs fs r
  induction r with
  | nil => intro _; rfl
  | cons a _ ih =>
    rename_i p q ps qs _
    obtain ⟨e1, _⟩ := a
    intro h
    rw [List.lookup_cons] at h ⊢
    rw [e1]
    split at h
    · cases h
    · exact ih h
/-- o.m(..), what the instance is made of kept -/
theorem a_methX {C : Addr} {m : Str} {ta : TA} (h : AE K te τ μ fun o μ1 => ∃ a dx fs, o = .ref a ∧ μ1 a = some (.ins C dx fs) ∧ fs.lookup m = none ∧ AA K ta τ μ1 fun ds μ2 => P (o :: ds) μ2 Φ fun _ _ _ => False) :
    AE K (tMeth C m (spX K cn P) [] E te ta) τ μ Φ := fun σ H s c Q k =>
  h σ H s c _ fun o μ1 v H1 f1 c1 r1 ⟨a, dx, fs, e, ha, hm, p1⟩ => by
    subst e
    cases r1
    obtain ⟨vs, hv, hr⟩ := c1 a _ ha
    refine ⟨a, dx, vs, rfl, hv, look_none hr hm, p1 σ H1 (s.mono (f1.tx c)) c1 _ fun ds μ2 us H2 f2 c2 r2 p => ?_⟩
    rw [List.append_nil]
    exact ⟨.ref a :: ds, μ2, Φ, _, .cons (.ref a) r2, c2, p, fun d μ' v H' f c' r q => k d μ' v H' ((f1.trans f2).trans f) c' r q, fun _ _ _ _ _ _ _ _ q => q.elim⟩
theorem x_meth {C : Addr} {m : Str} {ta : TA} (h : AE K te τ μ fun o μ1 => ∃ a dx fs, o = .ref a ∧ μ1 a = some (.ins C dx fs) ∧ fs.lookup m = none ∧ AA K ta τ μ1 fun ds μ2 => P (o :: ds) μ2 Φ fun x dx μ' => N.xs x dx τ μ') :
    AEX K (tMethX C m (spX K N.cn P) (WE N.W) te ta) τ μ N Φ := fun σ H s c Q k kx =>
  h σ H s c _ fun o μ1 v H1 f1 c1 r1 ⟨a, dx, fs, e, ha, hm, p1⟩ => by
    subst e
    cases r1
    obtain ⟨vs, hv, hr⟩ := c1 a _ ha
    exact ⟨a, dx, vs, rfl, hv, look_none hr hm, p1 σ H1 (s.mono (f1.tx c)) c1 _ fun ds μ2 us H2 f2 c2 r2 p =>
      ⟨.ref a :: ds, μ2, Φ, _, .cons (.ref a) r2, c2, p, fun d μ' v H' f c' r q => k d μ' v H' ((f1.trans f2).trans f) c' r q, fun x dx μ' cls H' e f c' q => kx x dx μ' cls H' e ((f1.trans f2).trans f) c' q⟩⟩
/-- C(..) with no __init__ of its own -/
theorem s_raise0 {C : Addr} {x : Str} (hc : N.cn x = some (.ref C)) (h : N.xs x none τ μ) : AS K (fun _ σ H => (fun (_ : L2.St) (H : Hp) (Q : XK) => Q (.ref C) none H) σ H fun cls d H' => N.W cls d σ H') τ μ N := fun σ H s c E k =>
  k.wx x none τ μ (.ref C) σ H hc Fr.refl c s h
theorem s_raise1 {C : Addr} {x f : Str} {ta : TA} (hc : N.cn x = some (.ref C)) (h : AA K ta τ μ fun ds μ' => ∃ d, ds = [d] ∧ ∀ dx, μ' dx = none → N.xs x (some dx) τ (μ'.set dx (.xd [(f, d)]))) :
    AS K (fun _ σ H => XO.tMk1 C f ta σ H fun cls d H' => N.W cls d σ H') τ μ N := fun σ H s c E k =>
  h σ H s c _ fun ds μ1 vs H1 f1 c1 r1 ⟨d, e, q⟩ => by
    subst e
    cases r1 with
    | cons r rn =>
      rename_i v0 _
      cases rn
      refine ⟨_, rfl, fun dx hn => ?_⟩
      have n := c1.free hn
      have cc : Con K (upd H1 dx (.xd [(f, v0)])) (μ1.set dx (.xd [(f, d)])) := con_put hn c1 ⟨_, upd_same, .cons ⟨rfl, Rel.mono (tx_new hn) _ _ r⟩ .nil⟩
      have ff : Fr μ (μ1.set dx (.xd [(f, d)])) H (upd H1 dx (.xd [(f, v0)])) := f1.trans (fr_put hn)
      exact k.wx x (some dx) τ _ (.ref C) σ _ hc ff cc (s.mono (ff.tx c)) (q dx n)
/-- err.f of the caught one at a -/
theorem a_xf {a : Addr} {cls : Value} {dx : Option Addr} {C : Addr} {f : Str} (ec : cls = .ref C) (h : AE K te τ μ fun o μ1 => o = .ref a ∧ ∃ b fs d, dx = some b ∧ μ1 b = some (.xd fs) ∧ fs.lookup f = some d ∧ Φ d μ1) : AE K (tXf a cls dx C f te) τ μ Φ := fun σ H s c Q k =>
  h σ H s c _ fun o μ1 v H1 f1 c1 r1 ⟨e, b, fs, d, eb, hb, hl, q⟩ => by
    subst e
    cases r1
    obtain ⟨vs, hv, hr⟩ := c1 b _ hb
    obtain ⟨w, hw, rw'⟩ := look_rel hr hl
    exact ⟨rfl, ec, b, vs, w, eb, hv, hw, k d μ1 w H1 f1 c1 rw' q⟩
/-- what the clause makes of an exception: caught, b, by this clause's suite, or let through -/
theorem s_tryAs (cn : Str → Option Value) {tb : WX → TS} {tu : Addr → Value → Option Addr → TS} {c : Value} {i : Nat} (hit : Str → Bool) (hm : ∀ x cls, cn x = some cls → PySem.W.exmOne K cls c = some (hit x))
    (hb : ∀ W, AS K (tb W) τ μ { N with W := W, cn := cn, xs := fun x dx τ' μ' => (hit x = true ∧ ∀ a cls, cn x = some cls → AS K (tu a cls dx) (τ'.set i (some (.ref a))) μ'
      { nx := fun τ2 μ2 => N.nx (τ2.set i none) μ2, rt := N.rt, bk := fun τ2 μ2 => N.bk (τ2.set i none) μ2, ct := fun τ2 μ2 => N.ct (τ2.set i none) μ2 }) ∨ (hit x = false ∧ N.cn x = cn x ∧ N.xs x dx τ' μ') }) :
    AS K (fun D σ H => tb (wAs K c i tu N.W D) D σ H) τ μ N := fun σ H s cc E k => by
  refine hb (wAs K c i tu N.W E) σ H s cc E ⟨k.nx, k.rt, k.bk, k.ct, fun x dx τ' μ' cls σ' H' ec f c' s' q => ?_⟩
  refine ⟨hit x, hm x cls ec, fun hx a na => ?_, fun hx => ?_⟩
  · rcases q with ⟨_, q⟩ | ⟨z, _⟩
    · have unset : ∀ {τ2 : T} {σ2 : L2.St} {H2 : Hp}, Slots K H2 τ2 σ2 → Slots K H2 (τ2.set i none) (σ2.set i none) := fun {τ2 σ2 H2} s2 => by
        refine ⟨by rw [List.length_set, List.length_set]; exact s2.1, fun j d e => ?_⟩
        by_cases hj : i = j
        · subst hj
          by_cases hi : i < τ2.length
          · rw [List.getElem?_set_self hi] at e; cases e
          · rw [List.getElem?_eq_none (by rw [List.length_set]; omega)] at e; cases e
        · rw [List.getElem?_set_ne hj] at e ⊢
          exact s2.2 j d e
      exact q a cls ec (σ'.set i (some (.ref a))) H' (s'.set (.ref a) i) c' _ ⟨fun τ2 μ2 σ2 H2 f2 c2 s2 p => k.nx _ μ2 _ H2 (f.trans f2) c2 (unset s2) p, fun d μ2 v H2 f2 c2 r p => k.rt d μ2 v H2 (f.trans f2) c2 r p,
        fun τ2 μ2 σ2 H2 f2 c2 s2 p => k.bk _ μ2 _ H2 (f.trans f2) c2 (unset s2) p, fun τ2 μ2 σ2 H2 f2 c2 s2 p => k.ct _ μ2 _ H2 (f.trans f2) c2 (unset s2) p, fun _ _ _ _ _ _ _ z => by cases z⟩
    · rw [hx] at z; cases z
  · rcases q with ⟨z, _⟩ | ⟨_, q⟩
    · rw [hx] at z; cases z
    · exact k.wx x dx τ' μ' cls σ' H' (q.1.trans ec) f c' s' q.2
end
/-- a method of the class at C -/
structure Mth (P : Program) (w : World) (K : PySem.W.Frag) (mg : Str → Option Value) (base : Heap) (C : Addr) (m : Str) (ps : List Str) (k : Nat) (sp : Sp) : Prop where
  ex : ∃ f fd, FnOk P w K mg base (L2.CX P w) k f fd ps sp ∧ Cls K C ∧ Meth K C m f ∧ Binds K fd ps []
section
variable {X : Cx} {k : Nat} {ps : List Str} {sp : Sp} {x m : Str} {C : Addr} {p pos apos : Pos} {o e : Expr} {es : List Expr} {to : TE} {t : TA} {W : WX}
/-- how a method's call is read -/
abbrev MCall (X : Cx) (o : Expr) (m : Str) (es : List Expr) (kws : List Keyword) (pos apos : Pos) (pl : Sem Bool) : Prop :=
  eval (.Call (.Attribute o m apos) es kws pos) X.env = (do let ov ← eval o X.env; standAt apos.atName; let (g, own) ← holding [ov] (getMethod ov m pl); callWith pos g own (backTo pos (starEach es X.env)) (backToKw pos (keywordEach kws X.env)))
theorem pe_mthN {pl : Sem Bool} (G : Mth X.prog X.w X.K X.mg X.base C m ps k sp) (hr : Room k X.A) (ho : PE X o to) (ha : PA X (e :: es) t)
    (hst : starEach (e :: es) X.env = (false, eval e X.env) :: starEach es X.env := by rfl) (hpl : (backTo pos (starEach es X.env)).any (·.1) = false := by rfl)
    (ht : MCall X o m (e :: es) [] pos apos pl := by rfl) :
    PE X (.Call (.Attribute o m apos) (e :: es) [] pos) (tMeth C m sp [] E0 to t) := by
  obtain ⟨f, fd, F, c, hm, hb⟩ := G.ex
  exact pe_meth ho c hm F hr hb .nil passL ha hst hpl ht
theorem pe_mthX {pl : Sem Bool} (tk : Takes X W) (G : Mth X.prog X.w X.K X.mg X.base C m ps k sp) (hr : Room k X.A) (ho : PE X o to) (ha : PA X (e :: es) t)
    (hst : starEach (e :: es) X.env = (false, eval e X.env) :: starEach es X.env := by rfl) (hpl : (backTo pos (starEach es X.env)).any (·.1) = false := by rfl)
    (ht : MCall X o m (e :: es) [] pos apos pl := by rfl) :
    PE X (.Call (.Attribute o m apos) (e :: es) [] pos) (tMethX C m sp (WE W) to t) := by
  obtain ⟨f, fd, F, c, hm, hb⟩ := G.ex
  exact ⟨fun pins s σ H Q I h => PySem.W.methodCall_KW (pl := pl) (thn (ho.run pins s σ H _ I h) fun u s1 ⟨x, H1, I1, ru, a, _, _, ex, ea, l, q⟩ => by
    subst ex
    cases ru
    exact getmeth_ok I1 ea c hm l (PySem.W.callWith_K (first := [.ref a]) (h₀ := X.base) I.ok.mod.kin hm.kp (thn (ha.run pos pins s1 σ H1 _ I1 q) fun _ s2 ⟨_, H2, I2, r, q2⟩ => ⟨I2.kIn, run_fnS (vs := .ref a :: _) (us := .ref a :: _) F hr hb (passAt tk σ) I2 (.cons rfl r) q2⟩) hst hpl)) ht⟩
end
end Z
namespace Z
open PySem L2
def kD : Key → D
  | .inl i => .int i
  | .inr s => .str s
abbrev kT (k : List Key) : D := .tup (k.map kD)
section
variable {κ : Type} [DecidableEq κ]
def valD (kvs : List (κ × D)) (k : κ) : Option D := (kvs.find? fun kv => decide (kv.1 = k)).map (·.2)
def putKD (kvs : List (κ × D)) (k : κ) (v : D) : List (κ × D) := if (valD kvs k).isSome = true then kvs.map fun kv => if kv.1 = k then (kv.1, v) else kv else kvs ++ [(k, v)]
theorem valD_cons {p : κ × D} {r : List (κ × D)} {k : κ} : valD (p :: r) k = if p.1 = k then some p.2 else valD r k := by
  unfold valD
  by_cases h : p.1 = k
  · rw [if_pos h]; simp [List.find?_cons, h]
  · rw [if_neg h]; simp [List.find?_cons, h]
theorem putKD_new {r : List (κ × D)} {k : κ} {v : D} (h : valD r k = none) : putKD r k v = r ++ [(k, v)] := by
  unfold putKD; rw [h]; rfl
variable {K : PySem.W.Frag} {H : Hp}
theorem kv_val {vs : List (κ × V)} {kvs : List (κ × D)} (r : RelKV K H vs kvs) (k : κ) : (valV vs k = none ∧ valD kvs k = none) ∨ ∃ v d, valV vs k = some v ∧ valD kvs k = some d ∧ Rel K H v d := by
  induction r with
  | nil => exact .inl ⟨rfl, rfl⟩
  | cons a _ ih =>
    rename_i p q ps qs _
    obtain ⟨e, r⟩ := a
    rw [valD_cons]
    by_cases h : p.1 = k
    · rw [valV_pos h, if_pos (e.symm.trans h)]
      exact .inr ⟨_, _, rfl, rfl, r⟩
    · rw [valV_neg h, if_neg (fun z => h (e.trans z))]
      exact ih
theorem kv_isSome {vs : List (κ × V)} {kvs : List (κ × D)} (r : RelKV K H vs kvs) (k : κ) : (valV vs k).isSome = (valD kvs k).isSome := by
  rcases kv_val r k with ⟨a, b⟩ | ⟨v, d, a, b, _⟩ <;> rw [a, b] <;> rfl
theorem kv_len {vs : List (κ × V)} {kvs : List (κ × D)} (r : RelKV K H vs kvs) : vs.length = kvs.length := Paired.length r
theorem kv_app {vs ws : List (κ × V)} {kvs lws : List (κ × D)} (r : RelKV K H vs kvs) (r2 : RelKV K H ws lws) : RelKV K H (vs ++ ws) (kvs ++ lws) := by
  induction r with
  | nil => exact r2
  | cons a _ ih => exact .cons a ih
theorem kv_get : ∀ {vs : List (κ × V)} {kvs : List (κ × D)} {i : Nat} {k : κ} {v : V}, RelKV K H vs kvs → vs[i]? = some (k, v) → ∃ d, kvs[i]? = some (k, d)
  | [], [], i, k, v, .nil, z => by simp at z
  | p :: vs, q :: kvs, 0, k, v, .cons a b, z => by
    obtain ⟨e1, _⟩ := a
    simp at z
    subst z
    exact ⟨q.2, by simp [show k = q.1 from e1]⟩
  | p :: vs, q :: kvs, i + 1, k, v, .cons a b, z => by
    obtain ⟨d, hd⟩ := kv_get (i := i) b (by simpa using z)
    exact ⟨d, by simpa using hd⟩
theorem kv_map (k : κ) {v : V} {d : D} (rv : Rel K H v d) : ∀ {vs : List (κ × V)} {kvs : List (κ × D)}, RelKV K H vs kvs → RelKV K H (vs.map fun kv => if kv.1 = k then (kv.1, v) else kv) (kvs.map fun kv => if kv.1 = k then (kv.1, d) else kv)
  | [], [], .nil => .nil
  | (g, x) :: vs, (g', y) :: kvs, .cons a b => by
    obtain ⟨e, r⟩ := a
    have e : g = g' := e
    subst e
    rw [List.map_cons, List.map_cons]
    refine .cons ?_ (kv_map k rv b)
    dsimp only
    by_cases h : g = k
    · rw [if_pos h, if_pos h]; exact ⟨rfl, rv⟩
    · rw [if_neg h, if_neg h]; exact ⟨rfl, r⟩
theorem kv_put {vs : List (κ × V)} {kvs : List (κ × D)} (r : RelKV K H vs kvs) (k : κ) {v : V} {d : D} (rv : Rel K H v d) : RelKV K H (putK vs k v) (putKD kvs k d) := by
  have hs := kv_isSome r k
  unfold putK putKD
  rw [valV_any, hs]
  split
  · exact kv_map k rv r
  · exact kv_app r (.cons ⟨rfl, rv⟩ .nil)
end
section
variable {K : PySem.W.Frag} {τ : T} {μ μ1 μ2 : M} {H H1 H2 : Hp} {σ : L2.St} {Φ Ψ : D → M → Prop} {ta tb td te tv ty : TE} {tt : TT} {x y z d e : D} {N : AEnds} {ts us : TS}
theorem rel_key {v : V} {k : Key} (r : Rel K H v (kD k)) : v = kV k := by
  cases k with
  | inl i => cases r; rfl
  | inr s => cases r; rfl
theorem rel_kV (k : Key) : Rel K H (kV k) (kD k) := by
  cases k with
  | inl i => exact .int i
  | inr s => exact .str s
theorem rels_keys : ∀ {k : List Key} {vs : List V}, Rels K H vs (k.map kD) → vs = k.map kV
  | [], _, .nil => rfl
  | k :: ks, _, .cons a b => by rw [List.map_cons, rel_key a, rels_keys b]
theorem rels_kV : ∀ (k : List Key), Rels K H (k.map kV) (k.map kD)
  | [] => .nil
  | k :: ks => .cons (rel_kV k) (rels_kV ks)
theorem rel_kT {v : V} {k : List Key} (r : Rel K H v (kT k)) : ∃ b, v = .ref b ∧ H b = some (.tup (k.map kV)) := by
  cases r with
  | tup h hr =>
    cases h with
    | inl h => exact ⟨_, rfl, by rw [h, rels_keys hr]⟩
/-- {} -/
theorem a_dnewT (h : ∀ p, μ p = none → Φ (.ref p) (μ.set p (.dT []))) : AE K tDNewT τ μ Φ := fun σ H s c Q k p hp =>
  k _ _ _ _ (fr_put hp) (con_put (m := .dT []) hp c ⟨[], upd_same, .nil⟩) (.ref p) (h p (c.free hp))
theorem a_dnewK (h : ∀ p, μ p = none → Φ (.ref p) (μ.set p (.dK []))) : AE K tDNewK τ μ Φ := fun σ H s c Q k p hp =>
  k _ _ _ _ (fr_put hp) (con_put (m := .dK []) hp c ⟨[], upd_same, .nil⟩) (.ref p) (h p (c.free hp))
/-- what the dict at a holds at the key y, by the store -/
def Dg (μ : M) (a : Addr) (y : D) (o : Option D) : Prop :=
  (∃ kvs k, μ a = some (.dK kvs) ∧ y = kD k ∧ o = valD kvs k) ∨ (∃ kvs k, μ a = some (.dT kvs) ∧ y = kT k ∧ o = valD kvs k) ∨ ∃ od us kvs k, μ a = some (.fT od us kvs) ∧ y = kT k ∧ o = valD kvs k
theorem dg_ok {v : V} {a : Addr} {o : Option D} (c : Con K H μ) (g : Dg μ a y o) (r : Rel K H v y) : ∃ p, DGet H a v p ∧ p.isSome = o.isSome ∧ ∀ d, o = some d → ∃ u, p = some u ∧ Rel K H u d := by
  have fin : ∀ {κ : Type} [DecidableEq κ] {vs : List (κ × V)} {kvs : List (κ × D)} (k : κ), RelKV K H vs kvs → o = valD kvs k → (valV vs k).isSome = o.isSome ∧ ∀ d, o = some d → ∃ u, valV vs k = some u ∧ Rel K H u d := by
    intro κ _ vs kvs k rr e
    subst e
    refine ⟨kv_isSome rr k, fun d e => ?_⟩
    rcases kv_val rr k with ⟨_, b⟩ | ⟨v', d', a', b, r'⟩
    · rw [b] at e; cases e
    · rw [b] at e; cases e; exact ⟨v', a', r'⟩
  rcases g with ⟨kvs, k, ha, ey, eo⟩ | ⟨kvs, k, ha, ey, eo⟩ | ⟨od, us, kvs, k, ha, ey, eo⟩
  · subst ey
    obtain ⟨vs, hv, hr⟩ := c a _ ha
    rw [rel_key r]
    exact ⟨_, .inl ⟨vs, k, .inl hv, rfl, rfl⟩, fin k hr eo⟩
  · subst ey
    obtain ⟨vs, hv, hr⟩ := c a _ ha
    obtain ⟨b, e, hb⟩ := rel_kT r
    subst e
    exact ⟨_, .inr ⟨vs, k, b, .inl hv, rfl, hb, rfl⟩, fin k hr eo⟩
  · subst ey
    obtain ⟨vs, hv, hr, _⟩ := c a _ ha
    obtain ⟨b, e, hb⟩ := rel_kT r
    subst e
    exact ⟨_, .inr ⟨vs, k, b, .inr ⟨od, hv⟩, rfl, hb, rfl⟩, fin k hr eo⟩
/-- d[y] -/
theorem a_dget (h : AE K td τ μ fun o μ1 => AE K ty τ μ1 fun y μ2 => ∃ a d, o = .ref a ∧ Dg μ2 a y (some d) ∧ Φ d μ2) : AE K (tDGet td ty) τ μ Φ := fun σ H s c Q k =>
  h σ H s c _ fun o μ1 v H1 f1 c1 r1 p1 => p1 σ H1 (s.mono (f1.tx c)) c1 _ fun y μ2 w H2 f2 c2 r2 ⟨a, d, e, g, q⟩ => by
    subst e
    cases r1
    obtain ⟨p, g', _, hp⟩ := dg_ok c2 g r2
    obtain ⟨u, eu, ru⟩ := hp d rfl
    subst eu
    exact ⟨a, u, rfl, g', k d μ2 u H2 (f1.trans f2) c2 ru q⟩
theorem a_dnotin (h : AE K ty τ μ fun y μ1 => AE K td τ μ1 fun o μ2 => ∃ a p, o = .ref a ∧ Dg μ2 a y p ∧ Φ (.bl (!p.isSome)) μ2) : AE K (tDNotIn ty td) τ μ Φ := fun σ H s c Q k =>
  h σ H s c _ fun y μ1 w H1 f1 c1 r1 p1 => p1 σ H1 (s.mono (f1.tx c)) c1 _ fun o μ2 v H2 f2 c2 r2 ⟨a, p, e, g, q⟩ => by
    subst e
    cases r2
    obtain ⟨p', g', hs, _⟩ := dg_ok c2 g (Rel.mono (f2.tx c1) _ _ r1)
    refine ⟨a, p', rfl, g', ?_⟩
    rw [hs]
    exact k _ μ2 _ H2 (f1.trans f2) c2 (.bl _) q
/-- d[y] = v -/
theorem s_dput (h : AE K tv τ μ fun v μ1 => AE K td τ μ1 fun o μ2 => AE K ty τ μ2 fun y μ3 => ∃ a, o = .ref a ∧
      ((∃ kvs k, μ3 a = some (.dT kvs) ∧ y = kT k ∧ kvs.length < sizeLine ∧ N.nx τ (μ3.set a (.dT (putKD kvs k v)))) ∨ ∃ kvs k, μ3 a = some (.dK kvs) ∧ y = kD k ∧ kvs.length < sizeLine ∧ N.nx τ (μ3.set a (.dK (putKD kvs k v))))) :
    AS K (sDPut td ty tv) τ μ N := fun σ H s c E k =>
  h σ H s c _ fun v μ1 w H1 f1 c1 r1 p1 => p1 σ H1 (s.mono (f1.tx c)) c1 _ fun o μ2 u H2 f2 c2 r2 p2 => p2 σ H2 (s.mono ((f1.trans f2).tx c)) c2 _ fun y μ3 x H3 f3 c3 r3 ⟨a, e, q⟩ => by
    subst e
    cases r2
    have fa := (f1.trans f2).trans f3
    have rw' : Rel K H3 w v := Rel.mono ((f2.trans f3).tx c1) _ _ r1
    rcases q with ⟨kvs, kk, ha, ey, hl, q⟩ | ⟨kvs, kk, ha, ey, hl, q⟩
    · subst ey
      obtain ⟨vs, hv, hr⟩ := c3 a _ ha
      obtain ⟨b, eb, hb⟩ := rel_kT r3
      subst eb
      have fr := fr_mut (H := H3) (o := .dT (putK vs kk w)) (m' := .dT (putKD kvs kk v)) ha
      have tx := tx_mut (o := .dT (putK vs kk w)) c3 ha
      exact ⟨a, _, rfl, .inr ⟨vs, kk, b, hv, rfl, hb, by rw [kv_len hr]; exact hl, rfl⟩, k.nx τ _ σ _ (fa.trans fr) (con_mut c3 ha ⟨_, upd_same, kv_put (RelKV.mono tx hr) kk (Rel.mono tx _ _ rw')⟩) (s.mono ((fa.trans fr).tx c)) q⟩
    · subst ey
      obtain ⟨vs, hv, hr⟩ := c3 a _ ha
      have ek := rel_key r3
      subst ek
      have fr := fr_mut (H := H3) (o := .dK (putK vs kk w)) (m' := .dK (putKD kvs kk v)) ha
      have tx := tx_mut (o := .dK (putK vs kk w)) c3 ha
      exact ⟨a, _, rfl, .inl ⟨vs, kk, hv, rfl, by rw [kv_len hr]; exact hl, rfl⟩, k.nx τ _ σ _ (fa.trans fr) (con_mut c3 ha ⟨_, upd_same, kv_put (RelKV.mono tx hr) kk (Rel.mono tx _ _ rw')⟩) (s.mono ((fa.trans fr).tx c)) q⟩
/-- the dict at p is read, not written, meanwhile -/
theorem a_lockT {p : Addr} {kvs : List (List Key × D)} (hp : μ p = some (.dT kvs)) (h : ∀ od us, AE K te τ (μ.set p (.fT od us kvs)) fun x μ' => μ' p = some (.fT od us kvs) ∧ Φ x (μ'.set p (.dT kvs))) : AE K (tLockE te) τ μ Φ := fun σ H s c Q k => by
  obtain ⟨us, hv, hr⟩ := c p _ hp
  refine ⟨p, .dT us, hv, trivial, fun od => ?_⟩
  have tx := tx_mut (o := .frz od (.dT us)) c hp
  have fr := fr_mut (H := H) (o := .frz od (.dT us)) (m' := .fT od us kvs) hp
  refine h od us σ _ (s.mono tx) (con_mut c hp ⟨us, upd_same, RelKV.mono tx hr, rfl⟩) _ fun x μ' v H' f c' r ⟨hm, q⟩ => ?_
  obtain ⟨ws, hw, hr2, e⟩ := c' p _ hm
  subst e
  have tx2 := tx_mut (o := .dT ws) c' hm
  have fr2 := fr_mut (H := H') (o := .dT ws) (m' := .dT kvs) hm
  exact ⟨hw, k x _ v _ ((fr.trans f).trans fr2) (con_mut c' hm ⟨ws, upd_same, RelKV.mono tx2 hr2⟩) (Rel.mono tx2 _ _ r) q⟩
/-- a comprehension over the keys of a dict that is read -/
theorem a_lcK {g : TG} {js : List Nat} {dec : D → List D → Prop} (hg : TgOk K g js dec)
    (h : AE K td τ μ fun o μ1 => ∃ a od us kvs, o = .ref a ∧ μ1 a = some (.fT od us kvs) ∧ ∃ P : Nat → List D → M → Prop, P 0 [] μ1 ∧ (∀ i acc μ', P i acc μ' → μ' a = some (.fT od us kvs)) ∧
      (∀ (i : Nat) p acc μ', kvs[i]? = some p → P i acc μ' → LcTurn K τ tt te js dec (kT p.1) acc μ' (P (i + 1))) ∧ ∀ acc μ', P kvs.length acc μ' → ∀ p, μ' p = none → Φ (.ref p) (μ'.set p (.lst acc))) :
    AE K (tLc (iKeys td) g tt te js) τ μ Φ := fun σ H s c Q k => h σ H s c _ fun o μ1 v H1 f1 c1 r1 ⟨a, od, us, kvs, e, ha, P, p0, hin, hs, hd⟩ => by
  subst e
  cases r1
  obtain ⟨ws, hw, hr, e⟩ := c1 a _ ha
  subst e
  refine ⟨a, od, rfl, .inr ⟨ws, hw, fun Dl hD => ?_⟩⟩
  have s1 := s.mono (f1.tx c)
  refine ⟨fun i m H' => m = kvs.length - i ∧ i ≤ kvs.length ∧ ∃ acc μ', LcAt K Dl μ1 H1 acc μ' H' ∧ P i acc μ', ⟨kvs.length, by omega, Nat.zero_le _, [], μ1, lc_start c1 hD, p0⟩, ?_⟩
  rintro i m H' ⟨rfl, hi, acc, μ', L, p⟩
  obtain ⟨ws', hw', hr', e⟩ := L.con a _ (hin i acc μ' p)
  subst e
  by_cases hlt : i < kvs.length
  · refine .inr ⟨⟨hw', by rw [kv_len hr']; exact hlt⟩, fun H2 => ∃ acc2 μ2, LcAt K Dl μ1 H1 acc2 μ2 H2 ∧ P (i + 1) acc2 μ2, fun H2 ⟨acc2, μ2, L2, p2⟩ => ⟨kvs.length - (i + 1), by omega, rfl, hlt, acc2, μ2, L2, p2⟩, fun v H2 y => ?_⟩
    obtain ⟨eH, kk, vv, q, hk, ev, hq⟩ := y
    subst eH ev
    have hkv : ∃ d, kvs[i]? = some (kk, d) := kv_get hr' hk
    obtain ⟨d, hkd⟩ := hkv
    exact lc_step hD hg s1 c1 L (.tup (.inl hq) (rels_kV kk)) (hs i _ acc μ' hkd p) fun acc2 μ2 H3 L3 p3 => ⟨acc2, μ2, L3, p3⟩
  · have e : i = kvs.length := by omega
    subst e
    obtain ⟨f2, c2⟩ := lc_end hD L
    exact .inl ⟨⟨hw', by rw [kv_len hr']; exact hi⟩, k _ _ _ H' (f1.trans f2) c2 (.ref Dl) (hd acc μ' p Dl L.no)⟩
end
end Z
namespace ST
open PySem PySem.Spec PyProof.Rows L2 PpSet
section
variable {X : Cx} {pins : List (Addr × Obj)} {σ : L2.St} {H : Hp} {s : Shared} {E : Value → Shared → Prop}
/-- set.add of a tuple of ints -/
theorem add_tup {Dl b : Addr} {L : List (Addr × List Int)} {k : List Int} {Q : Value → Shared → Prop} (hu : X.A.units + 1 < cLine) (I : Inv X pins σ H s) (hD : H Dl = some (SetTO X.prog X.w Dl L)) (hb : H b = some (.tup (k.map V.int)))
    (hL : ∀ p ∈ L, H p.1 = some (.tup (p.2.map V.int))) (few : L.length + 1 < 64)
    (fin : ∀ L2 s2, (k ∈ L.map (·.2) → L2 = L) → (k ∉ L.map (·.2) → L2.Perm ((b, k) :: L)) → Inv X pins σ (upd H Dl (SetTO X.prog X.w Dl L2)) s2 → Q .none s2) :
    wpAny (model X.prog X.w) X.A (call (.builtin "set.add") [.ref Dl, .ref b]) Q E s := by
  have tup : ∀ {c : Addr} {l : List Int}, H c = some (.tup (l.map V.int)) → IsT X.prog X.w s.heap l c := fun h => I.isT (.inl (.inl h))
  have sT : SetT0 X.prog X.w s.heap Dl L := (I.hok Dl _ hD).1
  obtain ⟨es, ep, t, R⟩ := sT.full fun p hp => tup (hL p hp)
  obtain ⟨o, ho, hex, hd⟩ := R.ob
  have isSet : s.TypeIs (.ref Dl) "set" := ⟨o, ho, hex.1⟩
  refine wpAny_call_entry F.slot_set_add isSet F.entry_set_add ?_ (F.args_set_add_2 _ _)
  have hash := fun Q => wpAny_pyHash_tuple (prog := X.prog) (w := X.w) (A := X.A.in1) (E := E) (Q := Q) (show X.A.units + 1 < cLine from hu) (tup hb)
  simp only [Builtin.«set.add», Builtin.Frozenset.oneOther, Builtin.Frozenset.addrOf, setAdd, List.isEmpty_nil, bind_assoc]
  refine wpAny_bind (wpAny_pure (wpAny_bind (wpAny_pure (wpAny_bind (wpAny_holding (wpAny_bind (hash _ ?_)))))))
  refine add_at (s := { s with toks := s.toks + (k.length + 1) }) R (tup hb) (by show X.A.units + 1 < cLine; exact hu) few fun _ h2 L2 es2 ep2 t2 sb R2 c1 c2 => ?_
  obtain ⟨o2, ho2, _⟩ := R2.ob
  show wpAny _ _ (ret Value.none) _ _ _
  exact wpAny_pure ⟨_, rfl, fin L2 _ c1 c2 (I.write (e := Dl) (t' := s.toks + (k.length + 1)) (by rw [hD]; trivial) (.inl rfl) (fun c u hc hu => (sb.2 c hc).trans hu) ⟨o2, ho2⟩ (setTO_new R2.t0))⟩
/-- {elt for target in iter if ..}, elt a tuple of ints: Dl the new set -/
def tScT (P : Program) (w : World) (wi : TI) (g : TG) (tt : TT) (te : TE) (vs : List Nat) : TE := fun σ H Q => wi σ H fun J H1 => ∀ Dl, H1 Dl = none → ∃ W : Nat → Nat → Hp → Prop, (∃ m, W 0 m (upd H1 Dl (SetTO P w Dl []))) ∧ ∀ i m H, W i m H →
  (J.stop i H ∧ Q (.ref Dl) H) ∨ (J.go i H ∧ ∃ Nx : Hp → Prop, (∀ H', Nx H' → ∃ m', m' < m ∧ W (i + 1) m' H') ∧ ∀ x H', J.yld i H x H' → g x (wipe σ vs) H' fun σ2 H2 => wipe σ2 vs = wipe σ vs ∧ tt σ2 H2 fun b H3 =>
    if b = true then te σ2 H3 fun y H4 => ∃ (c : Addr) (k : List Int) (L : List (Addr × List Int)), y = .ref c ∧ H4 c = some (.tup (k.map V.int)) ∧ H4 Dl = some (SetTO P w Dl L) ∧ (∀ p ∈ L, H4 p.1 = some (.tup (p.2.map V.int))) ∧ L.length + 1 < 64 ∧
      ∀ L2, (k ∈ L.map (·.2) → L2 = L) → (k ∉ L.map (·.2) → L2.Perm ((c, k) :: L)) → Nx (upd H4 Dl (SetTO P w Dl L2)) else Nx H3)
theorem fresh_set {P : Program} {w : World} {H : Hp} {h : Heap} : ObjOk P w H (h.push { cls := .type "set", dict := none, data := .set #[] 0 (.fresh 0 0 (!w.params.followText "set-order")) }) h.objs.size (SetTO P w h.objs.size []) :=
  setTO_new (SetTR.t0 (setTR_fresh (P := P) (w := w) (Heap.get?_push_size _ rfl)))
theorem pe_scT {elt tg iter : Expr} {ifs : List Expr} {scope : Scope} {own : List (PySem.Str × Nat)} {pos : Pos} {wi : TI} {g : TG} {tt : TT} {te : TE} (hu : X.A.units + 1 < cLine) (hc : X.calm = true) (hN : X.N.Nodup) (hi : PI X tg iter wi) (ok : BlkOk X.N X.env.scope scope own)
    (hg : ∀ (s : Shared) (H : Hp) (C : Addr) (cl : List (PySem.Str × Addr)) (fp : List Addr), PG (X.blk s H scope (compEnvC scope cl C X.env) fp) tg g)
    (ht : ∀ (s : Shared) (H : Hp) (C : Addr) (cl : List (PySem.Str × Addr)) (fp : List Addr), PTs (X.blk s H scope (compEnvC scope cl C X.env) fp) ifs tt)
    (he : ∀ (s : Shared) (H : Hp) (C : Addr) (cl : List (PySem.Str × Addr)) (fp : List Addr), PE (X.blk s H scope (compEnvC scope cl C X.env) fp) elt te)
    (hs : ∀ x, foldedSetIterable iter X.env x = pure x := by intro _; rfl) :
    PE X (.SetComp elt [⟨tg, iter, ifs, 0⟩] scope pos) (tScT X.prog X.w wi g tt te (own.map (·.2))) := by
  refine ⟨fun pins s0 σ H0 Q I0 ask => ?_⟩
  rw [eval_SetComp]
  have cells : ∀ y ∈ scope.names, y.2 = .free → ∃ c, X.env.cells.lookup y.1 = some c := fun y hy e => I0.ok.has _ (ok.free y hy e)
  refine wpAny_comprehension_free (use := none) rfl hs (closure_ok cells) ok.kind (fun y hy e => by rw [ok.uniq y hy, e]) (thn (hi.run pins s0 σ H0 _ I0 ask) fun xv s1 hx => thn hx fun itv s2 got => ?_)
  obtain ⟨it, fp, tn, J, HI, eit, I2, T, st2, f2, q⟩ := got
  subst eit
  refine newSet_ok (newEnv_comp ?_)
  -- the new set
  obtain ⟨Dl, eD⟩ : ∃ d, d = s2.heap.objs.size := ⟨_, rfl⟩
  rw [← eD]
  obtain ⟨s3, e3⟩ : ∃ z : Shared, z = { s2 with heap := s2.heap.push { cls := .type "set", dict := none, data := .set #[] 0 (.fresh 0 0 (!X.w.params.followText "set-order")) } } := ⟨_, rfl⟩
  rw [← e3]
  have no : HI Dl = none := I2.hok.fresh (Nat.le_of_eq eD.symm)
  obtain ⟨H3, eH⟩ : ∃ z, z = upd HI Dl (SetTO X.prog X.w Dl []) := ⟨_, rfl⟩
  obtain ⟨W, ⟨m0, w0⟩, turn⟩ := q Dl no
  rw [← eH] at w0
  have I3 : Inv X pins σ H3 s3 := by
    subst e3 eH eD
    exact I2.laid (t' := s2.toks) (fun b o e => Heap.get?_push_of_some _ e) (Nat.le_refl _) fresh_set
  have old3 : ∀ b o, s2.heap.get? b = some o → s3.heap.get? b = some o := fun b o e => by subst e3; exact Heap.get?_push_of_some _ e
  have f3 : ∀ b ∈ fp, FpOk X pins H3 b ∧ b < s3.heap.objs.size := fun b hb => by
    obtain ⟨o, ob, _⟩ := T.obj _ _ st2 b hb
    refine ⟨⟨?_, (f2 b hb).2⟩, Heap.lt_size (old3 b o ob)⟩
    rw [eH, upd_ne (by rw [eD]; exact Nat.ne_of_lt (Heap.lt_size ob))]
    exact (f2 b hb).1
  have st3 := T.keep _ _ s3.heap st2 fun b _ o e => old3 b o e
  have I4 := block_start I3 ok hN f3
  have pg := hg s3 H3 s3.heap.objs.size (cellsFrom (s3.heap.objs.size + 1) scope.names (cloFrom X.env.cells scope.names [])) fp
  have pt := ht s3 H3 s3.heap.objs.size (cellsFrom (s3.heap.objs.size + 1) scope.names (cloFrom X.env.cells scope.names [])) fp
  have pe := he s3 H3 s3.heap.objs.size (cellsFrom (s3.heap.objs.size + 1) scope.names (cloFrom X.env.cells scope.names [])) fp
  have Cl : (compEnvC scope (cellsFrom (s3.heap.objs.size + 1) scope.names (cloFrom X.env.cells scope.names [])) s3.heap.objs.size X.env).locals = s3.heap.objs.size := rfl
  show codeAny _ _ (.compStart _ 0 (.ref it) (.ref Dl) (compEnvC scope (cellsFrom (s3.heap.objs.size + 1) scope.names (cloFrom X.env.cells scope.names [])) s3.heap.objs.size X.env)) _ { s3 with heap := pushCells (s3.heap.push { cls := .type "dict", data := .dict #[] }) scope.names }
  generalize compEnvC scope (cellsFrom (s3.heap.objs.size + 1) scope.names (cloFrom X.env.cells scope.names [])) s3.heap.objs.size X.env = ce at I4 pg pt pe Cl ⊢
  obtain ⟨s4, e4⟩ : ∃ z : Shared, z = { s3 with heap := pushCells (s3.heap.push { cls := .type "dict", data := .dict #[] }) scope.names } := ⟨_, rfl⟩
  rw [← e4] at I4 ⊢
  have st4 := T.keep _ _ s4.heap st3 fun b _ o e => by rw [e4]; exact pushCells_keeps _ _ _ _ (Heap.get?_push_of_some _ e)
  have stay : ∀ {σ' : L2.St} {H' : Hp} {s' : Shared}, Inv (X.blk s3 H3 scope ce fp) [] σ' H' s' → (∀ b ∈ fp, H' b = none) → ∀ b ∈ fp, FpOk (X.blk s3 H3 scope ce fp) [] H' b := fun {σ' H' s'} I' hn b hb =>
    ⟨hn b hb, (I'.ok.exf b hb).1, I'.ok.exfs b hb, .inl hb, fun x c e => (I'.ok.exf b hb).2 x c e, fun p hp => nomatch (show p ∈ ([] : List (Addr × Obj)) from hp)⟩
  let Lp : Nat → Shared → Prop := fun n s' => ∃ i H', Inv (X.blk s3 H3 scope ce fp) [] (wipe σ (own.map (·.2))) H' s' ∧ tn i s'.heap ∧ (∀ b ∈ fp, H' b = none) ∧ W i n H'
  refine (fun loop => codeAny_compStart_set loop (T.self X.A 0 s4 _ _ st4 loop)) (compLoopS_any Lp (fun n s5 lp => ?_) m0 ⟨0, H3, I4, st4, fun b hb => (f3 b hb).1.1, w0⟩)
  obtain ⟨i, H5, I5, st5, n5, w5⟩ := lp
  rcases turn i n H5 w5 with ⟨stop, qq⟩ | ⟨go, Nx, hNx, step⟩
  · -- the end: back in the def
    refine thnF (T.done (X.blk s3 H3 scope ce fp) rfl rfl rfl hc i [] s5 _ H5 (fun _ _ => False) I5 (stay I5 n5) st5 stop) fun r s6 ⟨er, I6⟩ => ?_
    subst er
    have I7 : Inv X pins σ H5 s6 := I3.call' (ch := fp) I6.os I6.base I6.hok I6.bare fun b hb => ⟨(f3 b hb).1.2.2.2.1, (f3 b hb).1.2.1, (f3 b hb).1.2.2.2.2.1, (f3 b hb).1.2.2.2.2.2⟩
    have freeC : H5 s3.heap.objs.size = none := by rw [← Cl]; exact I6.free
    obtain ⟨m, hn, _⟩ := I6.loc
    have hn : s6.heap.Ns s3.heap.objs.size m := by rw [← Cl]; exact hn
    obtain ⟨g0, g1, g2, g3, g4, g5⟩ := I3.fpOk (Nat.le_refl _) freeC
    exact ⟨m, hn, fun h2 sb => ⟨.ref Dl, H5, I7.turned (t' := s6.toks) (fun b o hb e => (sb.2 b hb).trans e) g0 g1 g3 g4 g5, rfl, qq⟩⟩
  · refine thnF (T.item (X.blk s3 H3 scope ce fp) rfl rfl rfl hc i [] s5 _ H5 (fun _ _ => False) I5 (stay I5 n5) st5 go) fun r s6 ⟨u, er, h6⟩ => ?_
    subst er
    refine thnF h6 fun _ s7 ⟨x, H7, I7, r7, y7, st7, n7⟩ => ?_
    refine thnF (pg.run _ s7 _ H7 x u _ (I7.pinned (stay I7 n7) (T.obj _ _ st7)) r7 (step x H7 y7)) fun _ s8 ⟨σ8, H8, I8, w8, q8⟩ => ?_
    refine thnF (pt.run _ s8 σ8 H8 _ I8 q8) fun b s9 ⟨H9, I9, q9⟩ => ?_
    have next : ∀ {s' : Shared} {H' : Hp}, Inv (X.blk s3 H3 scope ce fp) ([] ++ pinsAt fp s7.heap) σ8 H' s' → Nx H' → ∃ m, m < n ∧ Lp m s' := fun {s' H'} I' nx => by
      obtain ⟨m2, lt, w2⟩ := hNx H' nx
      have there : ∀ b ∈ fp, ∃ o, s7.heap.get? b = some o ∧ s'.heap.get? b = some o ∧ H' b = none := fun b hb => by
        obtain ⟨o, e, _⟩ := T.obj _ _ st7 b hb
        have z := I'.pin (b, o) (List.mem_append_right _ (List.mem_append_right _ (mem_pinsAt hb e)))
        exact ⟨o, e, z.1, z.2.1⟩
      refine ⟨m2, lt, i + 1, H', (I'.unpinned (pins := [])).weak (by rw [← w8, wipe_length]) (fun j v e => (wipe_some (by rw [← w8] at e; exact e)).1), T.keep _ _ _ st7 fun b hb o e => ?_, fun b hb => ?_, w2⟩
      · obtain ⟨o2, e2, e3', _⟩ := there b hb
        rw [e] at e2; cases e2; exact e3'
      · obtain ⟨_, _, _, z⟩ := there b hb
        exact z
    cases b with
    | false =>
      simp only [Bool.false_eq_true, if_false] at q9 ⊢
      exact next I9 q9
    | true =>
      simp only [if_true] at q9 ⊢
      refine thnF (pe.run _ s9 σ8 H9 _ I9 q9) fun z s10 ⟨yv, H10, I10, r10, c, k, L, ey, hcT, hDl, hL, few, nx⟩ => ?_
      subst ey
      cases (show z = Value.ref c from r10)
      exact add_tup (X := X.blk s3 H3 scope ce fp) hu I10 hDl hcT hL few fun L2 s11 c1 c2 I11 => next I11 (nx L2 c1 c2)
/-- len of it -/
def rLenST (P : Program) (w : World) : List V → Hp → VK → Prop := fun xs H Q => ∃ (a : Addr) (L : List (Addr × List Int)), xs = [.ref a] ∧ H a = some (SetTO P w a L) ∧ Q (.int L.length) H
theorem cr_lenST : CallR X (.builtin "len") (rLenST X.prog X.w) := by
  intro pins s σ H xs us Q I r h
  obtain ⟨a, L, e, ha, q⟩ := h
  subst e
  cases r with
  | @cons _ u _ ur r rn =>
    cases rn
    cases (show u = Value.ref a from r)
    have sT : SetT0 X.prog X.w s.heap a L := (I.hok a _ ha).1
    obtain ⟨es, ep, t, ⟨o, ho, hex, hd⟩, rows, tab, _, _, _, room, few⟩ := sT.ex
    have sz : es.size = L.length := by rw [← Array.length_toList, rows]; exact List.length_map ..
    have fit : t.fits es.size = true := by
      have a1 : t.place.size = L.length := by rw [tab.sz, List.length_map]
      have a2 : t.dummies.size = 0 := by rw [tab.dm]; rfl
      unfold SetTable.fits SetTable.fill
      rw [Bool.and_eq_true, beq_iff_eq, decide_eq_true_eq, a2, sz]
      omega
    refine call_len_set ho hex hd fit (by rw [sz]; have := sizeLine_eq; omega) ⟨.int L.length, H, I.tok _, ⟨_, by rw [sz]⟩, q⟩
end
end ST
namespace Z
open PySem L2 ST
structure StAt (P : Program) (w : World) (K : PySem.W.Frag) (Dl : Addr) (μ : M) (H0 : Hp) (acc : List (List Int)) (H' : Hp) : Prop where
  fr : Fr μ μ H0 H'
  con : Z.Con K H' μ
  no : μ Dl = none
  at_ : ∃ L : List (Addr × List Int), H' Dl = some (SetTO P w Dl L) ∧ (∀ p ∈ L, H' p.1 = some (.tup (p.2.map V.int))) ∧ (L.map (·.2)).Nodup ∧ L.length ≤ acc.length ∧ ∀ k, k ∈ L.map (·.2) ↔ k ∈ acc
theorem seto_ne {P : Program} {w : World} {a : Addr} {L : List (Addr × List Int)} {o : HO} (h : SetTO P w a L = o) (n : ∀ φ, o ≠ .ext φ) : False := n _ h.symm
theorem seto_nc {P : Program} {w : World} {a : Addr} {L : List (Addr × List Int)} {q : Str} (h : SetTO P w a L = LamX.CodeO a q) : False := by
  unfold SetTO LamX.CodeO at h
  injection h with h
  obtain ⟨o, ho⟩ : ∃ o : Obj, o = { cls := .none, data := .fields #[.none, .str q 0] } := ⟨_, rfl⟩
  have e : (Heap.mk (Array.replicate (a + 1) o) {}).get? a = some o := by
    subst ho
    unfold Heap.get?
    simp
  have z := congrFun h (Heap.mk (Array.replicate (a + 1) o) {})
  have k : SetT0 P w (Heap.mk (Array.replicate (a + 1) o) {}) a L := by
    rw [z]
    subst ho
    exact ⟨_, _, 0, e, rfl, rfl⟩
  obtain ⟨es, ep, t, ⟨o2, h2, _, h3⟩, _⟩ := k.ex
  rw [e] at h2
  cases h2
  rw [ho] at h3
  cases h3
theorem rels_ints {K : PySem.W.Frag} {H : Hp} : ∀ {k : List Int} {vs : List V}, Rels K H vs (k.map D.int) → vs = k.map V.int
  | [], _, .nil => rfl
  | _ :: _, _, .cons (.int _) b => by rw [List.map_cons, rels_ints b]
theorem rel_tupI {K : PySem.W.Frag} {H : Hp} {v : V} {k : List Int} (r : Rel K H v (.tup (k.map D.int))) : ∃ c, v = .ref c ∧ H c = some (.tup (k.map V.int)) := by
  cases r with
  | tup h hr =>
    cases h with
    | inl h => exact ⟨_, rfl, by rw [h, rels_ints hr]⟩
section
variable {P : Program} {w : World} {K : PySem.W.Frag} {τ : T} {μ : M} {H H0 H' : Hp} {σ : L2.St} {Φ : D → M → Prop} {te : TE} {wi : TI} {g : TG} {Dl : Addr} {acc : List (List Int)}
theorem st_upd {L L2 : List (Addr × List Int)} (c : Z.Con K H μ) (no : μ Dl = none) (h : H Dl = some (SetTO P w Dl L)) : Tx H (upd H Dl (SetTO P w Dl L2)) ∧ Z.Con K (upd H Dl (SetTO P w Dl L2)) μ := by
  have t : Tx H (upd H Dl (SetTO P w Dl L2)) := ⟨fun a xs e => by rw [upd_ne (fun z => by subst z; rw [h] at e; exact seto_ne (Option.some.inj e) (fun _ z => nomatch z))]; exact e,
    fun a ob xs e => by rw [upd_ne (fun z => by subst z; rw [h] at e; exact seto_ne (Option.some.inj e) (fun _ z => nomatch z))]; exact e,
    fun a q e => by rw [upd_ne (fun z => by subst z; rw [h] at e; exact seto_nc (Option.some.inj e))]; exact e⟩
  exact ⟨t, fun a m e => (c a m e).mono t (upd_ne (fun z => by subst z; rw [no] at e; cases e))⟩
theorem st_start (c : Z.Con K H μ) (hD : H Dl = none) : StAt P w K Dl μ H [] (upd H Dl (SetTO P w Dl [])) :=
  ⟨fr_new hD, con_new hD c, c.free hD, [], upd_same, (fun _ h => absurd h List.not_mem_nil), List.nodup_nil, Nat.le_refl _, fun _ => Iff.rfl⟩
/-- how many different ones there are -/
def NumOf (l : List (List Int)) (n : Nat) : Prop := ∃ d : List (List Int), d.Nodup ∧ (∀ k, k ∈ d ↔ k ∈ l) ∧ n = d.length
theorem a_lenSc {js : List Nat} {dec : D → List D → Prop} (hg : TgOk K g js dec)
    (h : AI K wi τ μ fun xs μw back => ∃ f : D → List Int, xs.length < 63 ∧ (∀ x ∈ xs, ∃ ds, dec x ds ∧ ds.length = js.length ∧ AE K te (sets τ js ds) μw fun y μ2 => y = .tup ((f x).map D.int) ∧ μ2 = μw) ∧ ∀ n, NumOf (xs.map f) n → Φ (.int (n : Int)) (back μw)) :
    AE K (tCB (rLenST P w) (tCons (tScT P w wi g tYes te js) tNil)) τ μ Φ := fun σ H s c Q k => by
  refine h σ H s c _ fun J xs out G H1 μw back tx c1 W g1 o1 B ⟨f, hz, hs, hd⟩ Dl hD => ?_
  have s1 := s.mono tx
  refine ⟨fun i m H' => m = xs.length - i ∧ i ≤ xs.length ∧ StAt P w K Dl μw H1 ((xs.take i).map f) H', ⟨xs.length, by omega, Nat.zero_le _, st_start c1 hD⟩, ?_⟩
  rintro i m H' ⟨rfl, hi, S⟩
  have gH : G H' := W.keep _ _ _ _ c1 o1 g1 S.fr
  by_cases hlt : i < xs.length
  · refine .inr ⟨W.go i H' hlt gH, fun H2 => StAt P w K Dl μw H1 ((xs.take (i + 1)).map f) H2, fun H2 S2 => ⟨xs.length - (i + 1), by omega, rfl, hlt, S2⟩, fun v H2 y => ?_⟩
    obtain ⟨x, hx, rx, hH⟩ := W.yld i H' v H2 hlt gH y
    have S2 : StAt P w K Dl μw H1 ((xs.take i).map f) H2 := by
      rcases hH with e | ⟨T0, vs, hT, e⟩
      · rw [e]; exact S
      · obtain ⟨f2, c2⟩ := yld_ok (vs := vs) S.con hT
        obtain ⟨L, a1, a2, a3, a4, a5⟩ := S.at_
        rw [e]
        exact ⟨S.fr.trans f2, c2, S.no, L, (f2 Dl _ S.no a1).1, fun p hp => (f2.tx S.con).t _ _ (a2 p hp), a3, a4, a5⟩
    obtain ⟨ds, hdec, hl, he⟩ := hs x (List.mem_of_getElem? hx)
    refine hg x ds v _ H2 hdec rx _ fun vs hvs => ⟨by rw [wipe_sets (fun _ h => h), wipe_wipe], ?_⟩
    have s' : Slots K H2 (sets τ js ds) (sets (wipe σ js) js vs) := slots_block (s1.mono (S2.fr.tx c1)) hvs hl
    refine he _ H2 s' S2.con _ fun y μ2 u H4 f4 c4 r4 ⟨ey, em⟩ => ?_
    subst ey em
    obtain ⟨ca, eu, hc⟩ := rel_tupI r4
    subst eu
    obtain ⟨L, a1, a2, a3, a4, a5⟩ := S2.at_
    have b1 : H4 Dl = some (SetTO P w Dl L) := (f4 Dl _ S2.no a1).1
    have b2 : ∀ p ∈ L, H4 p.1 = some (.tup (p.2.map V.int)) := fun p hp => (f4.tx S2.con).t _ _ (a2 p hp)
    have tl : ((xs.take i).map f).length ≤ i := by rw [List.length_map, List.length_take]; omega
    refine ⟨ca, f x, L, rfl, hc, b1, b2, by omega, fun L2 k1 k2 => ?_⟩
    obtain ⟨t5, c5⟩ := st_upd (L2 := L2) c4 S2.no b1
    have more : (xs.take (i + 1)).map f = (xs.take i).map f ++ [f x] := by
      rw [List.take_add_one, hx, List.map_append]; rfl
    have ff : Fr μ2 μ2 H1 (upd H4 Dl (SetTO P w Dl L2)) := fun a o n e => by
      obtain ⟨e2, m2⟩ := (S2.fr.trans f4) a o n e
      exact ⟨by rw [upd_ne (ne_of_none e hD)]; exact e2, m2⟩
    refine ⟨ff, c5, S2.no, L2, upd_same, ?_⟩
    rw [more]
    by_cases hm : f x ∈ L.map (·.2)
    · have e := k1 hm
      subst e
      refine ⟨fun p hp => t5.1 _ _ (b2 p hp), a3, by rw [List.length_append]; omega, fun k => ?_⟩
      rw [List.mem_append, a5 k]
      exact ⟨.inl, fun z => z.elim id fun z => by rw [List.mem_singleton.mp z]; exact (a5 _).mp hm⟩
    · have pm := k2 hm
      refine ⟨fun p hp => t5.1 _ _ ?_, ?_, ?_, fun k => ?_⟩
      · rcases List.mem_cons.mp (pm.mem_iff.mp hp) with e | z
        · rw [e]; exact hc
        · exact b2 p z
      · exact (pm.map (·.2)).nodup_iff.mpr (List.nodup_cons.mpr ⟨hm, a3⟩)
      · rw [pm.length_eq, List.length_cons, List.length_append]
        simp only [List.length_cons, List.length_nil]
        omega
      · rw [(pm.map (·.2)).mem_iff, List.map_cons, List.mem_cons, List.mem_append, List.mem_singleton, a5 k]
        exact ⟨fun z => z.symm, fun z => z.symm⟩
  · have e : i = xs.length := by omega
    subst e
    obtain ⟨L, a1, a2, a3, a4, a5⟩ := S.at_
    rw [List.take_length] at a5
    refine .inl ⟨W.stop _ H' (Nat.le_refl _) gH, ?_⟩
    refine ⟨Dl, L, rfl, a1, k _ (back μw) _ H' (B.fr _ _ S.fr) (B.con _ _ S.fr S.con) (.int _) (hd L.length ⟨L.map (·.2), a3, a5, by rw [List.length_map]⟩)⟩
end
theorem num_all {l : List (List Int)} {n : Nat} (h : l.Nodup) (m : NumOf l n) : n = l.length := by
  obtain ⟨d, h1, h2, e⟩ := m
  rw [e]
  exact Nat.le_antisymm (List.Nodup.length_le_of_subset h1 fun k hk => (h2 k).mp hk) (List.Nodup.length_le_of_subset h fun k hk => (h2 k).mpr hk)
theorem few_of_dup : ∀ (l d : List (List Int)), d.Nodup → (∀ k, k ∈ d → k ∈ l) → ¬ l.Nodup → d.length < l.length
  | [], _, _, _, h => absurd List.nodup_nil h
  | x :: r, d, hd, hs, h => by
    rw [List.length_cons]
    by_cases hx : x ∈ r
    · have := List.Nodup.length_le_of_subset hd fun k hk => by
        rcases List.mem_cons.mp (hs k hk) with e | z
        · rw [e]; exact hx
        · exact z
      omega
    · have hr : ¬ r.Nodup := fun z => h (List.nodup_cons.mpr ⟨hx, z⟩)
      have := few_of_dup r (d.erase x) (hd.erase x) (fun k hk => by
        have hk2 := (List.Nodup.mem_erase_iff hd).mp hk
        rcases List.mem_cons.mp (hs k hk2.2) with e | z
        · exact absurd e hk2.1
        · exact z) hr
      have h2 : d.length ≤ (d.erase x).length + 1 := by rw [List.length_erase]; split <;> omega
      omega
theorem num_some {l : List (List Int)} {n : Nat} (h : ¬ l.Nodup) (m : NumOf l n) : n < l.length := by
  obtain ⟨d, h1, h2, e⟩ := m
  rw [e]
  exact few_of_dup l d h1 (fun k hk => (h2 k).mp hk) h
end Z
namespace Z
open PySem L2 PyProof.Rows
section
variable {X : Cx} {a b c e : Expr} {ta tb tc te : TE} {pos : Pos}
def tChain3 (r1 r2 r3 : R2) (ta tb tc te : TE) : TE := fun σ H Q => ta σ H fun x H1 => tb σ H1 fun y H2 => r1 x y H2 fun z H3 => ∃ k, z = .bl k ∧
  (if k = true then tc σ H3 fun w H4 => r2 y w H4 fun z' H5 => ∃ k', z' = .bl k' ∧ (if k' = true then te σ H5 fun u H6 => r3 w u H6 Q else Q (.bl false) H5) else Q (.bl false) H3)
theorem pe_chain3 {o1 o2 o3 : CmpOp} {r1 r2 r3 : R2} (h1 : OpR X (compareOp o1) r1) (h2 : OpR X (compareOp o2) r2) (h3 : OpR X (compareOp o3) r3) (ha : PE X a ta) (hb : PE X b tb) (hc : PE X c tc) (he : PE X e te)
    (hm : lastMarks [o1, o2, o3] [b, c, e] = false := by with_unfolding_all rfl) : PE X (.Compare a [o1, o2, o3] [b, c, e] pos) (tChain3 r1 r2 r3 ta tb tc te) := by
  refine ⟨fun pins s σ H Q I h => ?_⟩
  refine Compare_chain (thn (ha.run pins s σ H _ I h) fun v s1 ⟨x, H1, I1, k1, q1⟩ => chain_link (thn (hb.run pins s1 σ H1 _ I1 q1) fun u s2 ⟨y, H2, I2, k2, q2⟩ =>
    thn (h1 pins s2 σ H2 x y v u _ I2 k1 k2 q2) fun d s3 ⟨z, H3, I3, k3, b1, eb, q3⟩ => ?_)) hm
  subst eb
  cases k3
  refine wpAny_truthy_bool ?_
  cases b1 with
  | false => exact ite_ff ⟨.bl false, H3, I3, rfl, q3⟩
  | true =>
    refine ite_tt (chain_link (thn (hc.run pins s3 σ H3 _ I3 q3) fun w s4 ⟨z', H4, I4, k4, q4⟩ => thn (h2 pins s4 σ H4 y z' u w _ I4 k2 k4 q4) fun d2 s5 ⟨z2, H5, I5, k5, b2, eb2, q5⟩ => ?_))
    subst eb2
    cases k5
    refine wpAny_truthy_bool ?_
    cases b2 with
    | false => exact ite_ff ⟨.bl false, H5, I5, rfl, q5⟩
    | true => exact ite_tt (chain_last (thn (he.run pins s5 σ H5 _ I5 q5) fun w' s6 ⟨z6, H6, I6, k6, q6⟩ => h3 pins s6 σ H6 z' z6 w w' Q I6 k4 k6 q6))
end
section
variable {K : PySem.W.Frag} {τ : T} {μ μ1 μ2 : M} {H H1 H2 : Hp} {σ : L2.St} {Φ Ψ : D → M → Prop} {ta tb tc td te : TE} {r1 r2 r3 : R2} {d e : D} {N : AEnds}
theorem a_chain3 (h : AE K ta τ μ fun d μ1 => AE K tb τ μ1 fun e μ2 => RO K r1 d e μ2 fun z μ3 => ∃ b, z = .bl b ∧
      if b = true then AE K tc τ μ3 fun w μ4 => RO K r2 e w μ4 fun z' μ5 => ∃ b', z' = .bl b' ∧ if b' = true then AE K te τ μ5 fun u μ6 => RO K r3 w u μ6 Φ else Φ (.bl false) μ5 else Φ (.bl false) μ3) :
    AE K (tChain3 r1 r2 r3 ta tb tc te) τ μ Φ := by
  intro σ H s c Q k
  refine h σ H s c _ fun d μ1 v H1 f1 c1 k1 p1 => ?_
  refine p1 σ H1 (s.mono (f1.tx c)) c1 _ fun e μ2 u H2 f2 c2 k2 p2 => ?_
  refine p2 H2 v u c2 (Rel.mono (f2.tx c1) _ _ k1) k2 _ fun z μ3 w H3 f3 c3 kz ⟨b, ez, p3⟩ => ?_
  subst ez
  cases kz
  refine ⟨b, rfl, ?_⟩
  have f13 := (f1.trans f2).trans f3
  cases b with
  | false => exact k _ μ3 _ H3 f13 c3 (.bl false) (show Φ (.bl false) μ3 from p3)
  | true =>
    have p3' : AE K tc τ μ3 fun w μ4 => RO K r2 e w μ4 fun z' μ5 => ∃ b', z' = .bl b' ∧ if b' = true then AE K te τ μ5 fun u μ6 => RO K r3 w u μ6 Φ else Φ (.bl false) μ5 := p3
    rw [if_pos rfl]
    refine p3' σ H3 (s.mono (f13.tx c)) c3 _ fun x4 μ4 w' H4 f4 c4 k4 p4 => ?_
    refine p4 H4 u w' c4 (Rel.mono ((f3.trans f4).tx c2) _ _ k2) k4 _ fun z' μ5 o H5 f5 c5 kz' ⟨b', ez', p5⟩ => ?_
    subst ez'
    cases kz'
    refine ⟨b', rfl, ?_⟩
    have f15 := (f13.trans f4).trans f5
    cases b' with
    | false => exact k _ μ5 _ H5 f15 c5 (.bl false) (show Φ (.bl false) μ5 from p5)
    | true =>
      have p5' : AE K te τ μ5 fun u μ6 => RO K r3 x4 u μ6 Φ := p5
      rw [if_pos rfl]
      refine p5' σ H5 (s.mono (f15.tx c)) c5 _ fun u2 μ6 v6 H6 f6 c6 k6 p6 => ?_
      exact p6 H6 w' v6 c6 (Rel.mono ((f5.trans f6).tx c4) _ _ k4) k6 Q fun z μ7 o7 H7 f7 c7 k7 p7 => k z μ7 o7 H7 ((f15.trans f6).trans f7) c7 k7 p7
end
theorem rc_max3 {K : PySem.W.Frag} {i j l : Int} {μ : M} {Φ : D → M → Prop} (q : Φ (.int (max (max i j) l)) μ) : RC K (rNuC3 nuMax3) [.int i, .int j, .int l] μ Φ := fun H xs c r Q k => by
  cases r with
  | cons a r =>
    cases r with
    | cons b r =>
      cases r with
      | cons d r =>
        cases a; cases b; cases d; cases r
        refine ⟨_, _, _, .int (max (max i j) l), rfl, ?_, k _ μ _ H Fr.refl c (.int _) q⟩
        have m2 : ∀ x y : Int, nuMax2 (.int x) (.int y) = some (.int (max x y)) := fun x y => by
          unfold nuMax2 nuLt nuCB
          simp only [Option.map_some]
          by_cases h : x < y
          · rw [if_pos (decide_eq_true h)]; congr 2; omega
          · rw [if_neg (by simpa using h)]; congr 2; omega
        unfold nuMax3
        rw [m2, Option.bind_some, m2]
def gFld (K : PySem.W.Frag) (to : TE) (f : Str) : TG := fun v σ H Q => to σ H fun x H2 => ∃ a C dx fs, x = .ref a ∧ H2 a = some (.ins C dx fs) ∧ Cls K C ∧ NoAttr K C f ∧ fs.length < 1000 ∧ Q σ (upd H2 a (.ins C dx (putF f v fs)))
theorem pg_fld {X : Cx} {o : Expr} {f : Str} {to : TE} {pos : Pos} (ho : PE X o to) : PG X (.Attribute o f pos) (gFld X.K to f) := by
  refine ⟨fun pins s σ H v u Q I r h => ?_⟩
  rw [PySem.assign_Attribute]
  refine wpAny_bind (wpAny_holding (thn (ho.run pins s σ H _ I h) fun ov s1 ⟨x, H2, I2, rx, a, C, dx, fs, ex, ea, c, n, l, q⟩ => ?_))
  subst ex
  obtain rfl : ov = Value.ref a := rx
  refine wpAny_bind (wpAny_standAt (wpAny_bind (wpAny_holding (setattr_ok I2 ea c n l r fun s3 I3 => ?_))))
  exact wpAny_release ⟨σ, _, I3, q⟩
section
variable {K : PySem.W.Frag} {τ : T} {μ μ1 μ2 : M} {H H1 H2 : Hp} {σ : L2.St} {Φ : D → M → Prop} {to te : TE} {d e : D} {N : AEnds}
theorem kvF_len {vs : List (Str × V)} {fs : List (Str × D)} (r : RelKV K H vs fs) : vs.length = fs.length := Paired.length r
theorem g_fld {f : Str} {Θ : T → M → Prop} (h : AE K to τ μ fun o μ2 => ∃ a C dx fs, o = .ref a ∧ μ2 a = some (.ins C dx fs) ∧ Cls K C ∧ NoAttr K C f ∧ fs.length < 1000 ∧ Θ τ (μ2.set a (.ins C dx (putD f d fs)))) : AG K (gFld K to f) d τ μ Θ := fun σ H v s c r Q k =>
  h σ H s c _ fun o μ2 w H2 f2 c2 r2 ⟨a, C, dx, fs, e, ha, hc, hn, hz, q⟩ => by
    subst e
    cases r2
    obtain ⟨vs, hv, hr⟩ := c2 a _ ha
    have fr := fr_mut (H := H2) (o := .ins C dx (putF f v vs)) (m' := .ins C dx (putD f d fs)) ha
    exact ⟨a, C, dx, vs, rfl, hv, hc, hn, by rw [kvF_len hr]; exact hz, k τ _ σ _ (f2.trans fr) (con_mut c2 ha ⟨_, upd_same, put_rel (Rel.mono ((f2.trans fr).tx c) _ _ r) (RelKV.mono (tx_mut c2 ha) hr)⟩) (s.mono ((f2.trans fr).tx c)) q⟩
theorem a_makeK {C : Addr} {n m : Nat} {cn : Str → Option Value} {P : PT4} {gV : List V → List V → List V} (gD : List D → List D → List D) {E : XK} {t tk : TA} (hg : ∀ H vs zs ds es, Rels K H vs ds → Rels K H zs es → ds.length = n + 1 → es.length = m → Rels K H (gV vs zs) (gD ds es))
    (h : AA K t τ μ fun ds μ1 => AA K tk τ μ1 fun es μ2 => ds.length = n ∧ es.length = m ∧ ∀ x dx, μ2 x = none → P (gD (.ref x :: ds) es) (μ2.set x (.ins C dx [])) (fun v μ3 => v = .non ∧ Φ (.ref x) μ3) fun _ _ _ => False) :
    AE K (tMakeK C n m (spX K cn P) gV E t tk) τ μ Φ := fun σ H s c Q k =>
  h σ H s c _ fun ds μ1 vs H1 f1 c1 r1 p1 => p1 σ H1 (s.mono (f1.tx c)) c1 _ fun es μ2 zs H2 f2 c2 r2 ⟨l1, l2, p2⟩ => by
    refine ⟨by rw [r1.length]; exact l1, by rw [r2.length]; exact l2, fun x dx hx hdx ne => ?_⟩
    have c3 : Con K (upd H2 dx (.own x)) μ2 := con_new hdx c2
    have hx3 : upd H2 dx (.own x) x = none := by rw [upd_ne (Ne.symm ne)]; exact hx
    have c4 : Con K (upd (upd H2 dx (.own x)) x (.ins C dx [])) (μ2.set x (.ins C dx [])) := con_put (m := .ins C dx []) hx3 c3 ⟨[], upd_same, .nil⟩
    have f4 : Fr μ2 (μ2.set x (.ins C dx [])) H2 (upd (upd H2 dx (.own x)) x (.ins C dx [])) := (fr_new hdx).trans (fr_put hx3)
    have r1' := (Rels.mono ((f2.trans f4).tx c1) _ _ r1)
    have r2' := (Rels.mono (f4.tx c2) _ _ r2)
    refine ⟨gD (.ref x :: ds) es, _, _, _, hg _ _ _ _ _ (.cons (.ref x) r1') r2' (by rw [List.length_cons, l1]) l2, c4, p2 x dx (c2.free hx), fun d μ' v H' f c' r ⟨ed, q⟩ => ?_, fun _ _ _ _ _ _ _ _ q => q.elim⟩
    subst ed
    cases r
    exact ⟨rfl, k _ μ' _ H' (((f1.trans f2).trans f4).trans f) c' (.ref x) q⟩
end
end Z
namespace Z
open PySem L2 PyProof.Rows
/-- an own error with one field -/
structure Exc1 (P : Program) (w : World) (K : PySem.W.Frag) (mg : Str → Option Value) (base : Heap) (x f : Str) (C : Addr) : Prop where
  ex : ∃ (B newId initId : String) (tl0 tl : List Value) (fI : Addr) (fd : FuncData) (p1 p2 : Str), ExcBaseFacts B newId initId tl0 ∧ PySem.HandSPX.NewIn B tl ∧ XO.OexB K C newId tl ∧ PySem.W.findIn K (.ref C) "__init__" = some (some (.ref fI)) ∧ PySem.W.typeIn K (.ref fI) = some (.type "function") ∧
    FnOk P w K mg base CX0 1 fI fd [p1, p2] (XO.spI1 K newId tl f) ∧ Binds K fd [p1, p2] []
  no : PySem.W.findIn K (.ref C) f = some none
  mg : mg x = some (.ref C)
  xf : XfC K C
/-- an own error with a text -/
structure Exc0 (K : PySem.W.Frag) (mg : Str → Option Value) (x : Str) (C : Addr) : Prop where
  ex : ∃ (B newId initId : String) (tl : List Value), ExcBaseFacts B newId initId tl ∧ PySem.W.excIn K C tl newId = true
  mg : mg x = some (.ref C)
  kp : PySem.W.keepIn K (.ref C) = true
  r1 : PySem.W.subIn K (.ref C) (.type "BaseException") = some true
  r2 : PySem.W.typeIn K (.ref C) = some (.type "type")
section
variable {X : Cx} {C : Addr} {x f m : Str} {j : Nat} {p p2 pos : Pos} {e : Expr} {es : List Expr} {ta : TA}
theorem pmk_e1 (G : Exc1 X.prog X.w X.K X.mg X.base x f C) (hr : Room 2 X.A) (hg : Gl X x) (ha : PA X (e :: es) ta)
    (hdb : (x == ("__debug__" : Str)) = false := by decide) (he : starEach (e :: es) X.env = (false, eval e X.env) :: starEach es X.env := by rfl) (hpl : (backTo pos (starEach es X.env)).any (·.1) = false := by rfl) :
    PMk X (.Call (.Name x p) (e :: es) [] pos) (XO.tMk1 C f ta) := by
  obtain ⟨B, newId, initId, tl0, tl, fI, fd, p1, p2, F, NI, T, iC, tI, FI, hb⟩ := G.ex
  exact XO.pmk_1 F NI T G.no iC tI FI hr hb hg G.mg ha hdb he hpl
theorem pmk_e0 (G : Exc0 X.K X.mg x C) (hg : Gl X x) (hdb : (x == ("__debug__" : Str)) = false := by decide) : PMk X (.Call (.Name x p) [.Constant (.str m) j p2] [] pos) (fun _ H Q => Q (.ref C) none H) := by
  obtain ⟨B, newId, initId, tl, F, q⟩ := G.ex
  exact pmk_own F q G.mg G.kp (raises_own G.r1 G.r2) hg hdb
end
/-- the values by the parameters' order: behind the written ones, those by name (true) and the lacking ones (false) -/
def gK {α : Type} (π : List (Bool × Nat)) (us mv ws : List α) : List α := us ++ π.filterMap fun p => if p.1 = true then ws[p.2]? else mv[p.2]?
theorem vals_at {vs : List V} {us : List Value} (r : Vals vs us) (i : Nat) : (vs[i]? = none ∧ us[i]? = none) ∨ ∃ v u, vs[i]? = some v ∧ us[i]? = some u ∧ RelV v u := by
  induction r generalizing i with
  | nil => exact .inl ⟨by simp, by simp⟩
  | cons a _ ih =>
    cases i with
    | zero => exact .inr ⟨_, _, by simp, by simp, a⟩
    | succ i => simpa using ih i
theorem rels_at {K : PySem.W.Frag} {H : Hp} : ∀ {vs : List V} {ds : List D} (r : Rels K H vs ds) (i : Nat), (vs[i]? = none ∧ ds[i]? = none) ∨ ∃ v d, vs[i]? = some v ∧ ds[i]? = some d ∧ Rel K H v d
  | [], [], .nil, i => .inl ⟨by simp, by simp⟩
  | v :: vs, d :: ds, .cons a b, 0 => .inr ⟨v, d, by simp, by simp, a⟩
  | v :: vs, d :: ds, .cons a b, i + 1 => by simpa using rels_at b i
theorem vals_gK (π : List (Bool × Nat)) {vs mz zs : List V} {us mv ws : List Value} (r : Vals vs us) (r1 : Vals mz mv) (r2 : Vals zs ws) : Vals (gK π vs mz zs) (gK π us mv ws) := by
  refine r.append ?_
  induction π with
  | nil => exact .nil
  | cons p π ih =>
    have z : (((if p.1 = true then zs[p.2]? else mz[p.2]?) = none ∧ (if p.1 = true then ws[p.2]? else mv[p.2]?) = none)) ∨ ∃ v u, (if p.1 = true then zs[p.2]? else mz[p.2]?) = some v ∧ (if p.1 = true then ws[p.2]? else mv[p.2]?) = some u ∧ RelV v u := by
      by_cases h : p.1 = true
      · rw [if_pos h, if_pos h]; exact vals_at r2 _
      · rw [if_neg h, if_neg h]; exact vals_at r1 _
    rw [List.filterMap_cons, List.filterMap_cons]
    rcases z with ⟨a, b⟩ | ⟨v, u, a, b, k⟩
    · rw [a, b]; exact ih
    · rw [a, b]; exact .cons k ih
theorem rels_gK {K : PySem.W.Frag} {H : Hp} (π : List (Bool × Nat)) {vs mz zs : List V} {us mv ws : List D} (r : Rels K H vs us) (r1 : Rels K H mz mv) (r2 : Rels K H zs ws) : Rels K H (gK π vs mz zs) (gK π us mv ws) := by
  refine r.append ?_
  induction π with
  | nil => exact .nil
  | cons p π ih =>
    have z : (((if p.1 = true then zs[p.2]? else mz[p.2]?) = none ∧ (if p.1 = true then ws[p.2]? else mv[p.2]?) = none)) ∨ ∃ v u, (if p.1 = true then zs[p.2]? else mz[p.2]?) = some v ∧ (if p.1 = true then ws[p.2]? else mv[p.2]?) = some u ∧ Rel K H v u := by
      by_cases h : p.1 = true
      · rw [if_pos h, if_pos h]; exact rels_at r2 _
      · rw [if_neg h, if_neg h]; exact rels_at r1 _
    rw [List.filterMap_cons, List.filterMap_cons]
    rcases z with ⟨a, b⟩ | ⟨v, u, a, b, k⟩
    · rw [a, b]; exact ih
    · rw [a, b]; exact .cons k ih
/-- C(.., k = v, ..), its __init__ keeping sp -/
structure MkK (P : Program) (w : World) (K : PySem.W.Frag) (mg : Str → Option Value) (base : Heap) (x : Str) (C : Addr) (ps : List Str) (n : Nat) (ks : List Str) (π : List (Bool × Nat)) (mz : List V) (k : Nat) (sp : Sp) : Prop where
  ex : ∃ f fd g, Mk K C f ∧ FnOk P w K mg base (L2.CX P w) k f fd ps sp ∧ mg x = some (.ref C) ∧ KBn K fd ps (n + 1) ks g (fun vs zs => gK π vs mz zs)
section
variable {X : Cx} {C : Addr} {x : Str} {ps ks : List Str} {n k : Nat} {π : List (Bool × Nat)} {mz : List V} {sp : Sp} {p pos : Pos} {e : Expr} {es : List Expr} {kws : List Keyword} {t tk : TA}
theorem pe_mkK (G : MkK X.prog X.w X.K X.mg X.base x C ps n ks π mz k sp) (hr : Room (k + 1) X.A) (hg : Gl X x) (ha : PA X (e :: es) t) (hkw : PK X kws tk)
    (hall : (backToKw pos (keywordEach kws X.env)).all (·.1.isSome) = true := by rfl) (hks : (backToKw pos (keywordEach kws X.env)).filterMap (·.1) = ks := by rfl) (hdb : (x == ("__debug__" : Str)) = false := by decide)
    (he : starEach (e :: es) X.env = (false, eval e X.env) :: starEach es X.env := by rfl) (hpl : ((backTo pos (starEach (e :: es) X.env)).any (·.1) || (backToKw pos (keywordEach kws X.env)).any (·.1.isNone)) = false := by rfl) :
    PE X (.Call (.Name x p) (e :: es) kws pos) (tMakeK C n ks.length sp (fun vs zs => gK π vs mz zs) E0 t tk) := by
  obtain ⟨f, fd, g, M, F, hm, hb⟩ := G.ex
  exact pe_makeK M F hr hg hm hb passL ha hkw hall hks hdb he hpl
end
theorem a_mkK {K : PySem.W.Frag} {τ : T} {μ : M} {Φ : D → M → Prop} {C : Addr} {n m : Nat} {π : List (Bool × Nat)} {mz : List V} (mD : List D) (hmz : ∀ H, Rels K H mz mD) {cn : Str → Option Value} {P : PT4} {E : XK} {t tk : TA}
    (h : AA K t τ μ fun ds μ1 => AA K tk τ μ1 fun es μ2 => ds.length = n ∧ es.length = m ∧ ∀ x dx, μ2 x = none → P (gK π (.ref x :: ds) mD es) (μ2.set x (.ins C dx [])) (fun v μ3 => v = .non ∧ Φ (.ref x) μ3) fun _ _ _ => False) :
    AE K (tMakeK C n m (spX K cn P) (fun vs zs => gK π vs mz zs) E t tk) τ μ Φ := a_makeK (fun ds es => gK π ds mD es) (fun H vs zs ds es r1 r2 _ _ => rels_gK π r1 (hmz H) r2) h
/-- a def of a class, its keyword defaults by name -/
theorem kbn_of {K : PySem.W.Frag} {x qual : Str} {params : Arguments} {body : List Stmt} {scope : Scope} {kws : List (Str × V)} {f : Addr} {fd : FuncData} {ps : List Str} (F : FunD K x qual params body scope [] kws f fd) (n : Nat) (ks : List Str) (ms : List (Str × V)) (π : List (Bool × Nat)) (hk : kws ≠ []) (hms : ∀ q ∈ ms, q ∈ kws)
    (h : ∀ (D : Addr) (doc pm : Value) (an : Option Addr) (cdv ct : Value) (us mv ws : List Value), us.length = n → mv.length = ms.length → ws.length = ks.length →
      KwChain D ((ms.map (·.1)).zip mv) (bindArgs (PySem.W.fnOf x qual params body scope .none (.ref D) doc pm an cdv ct) ⟨us, ks.zip ws⟩) (ps.zip (gK π us mv ws))) : ∃ g, KBn K fd ps n ks g (fun vs zs => gK π vs (ms.map (·.2)) zs) := by
  obtain ⟨mv, hb⟩ := F.kbinds0 n ks ms (fun us mv ws => gK π us mv ws) hk hms (fun r1 r2 r3 => vals_gK π r1 r2 r3) h
  exact ⟨_, hb⟩
/-- does «except C» name an error of the class at S -/
theorem exm_pair {K : PySem.W.Frag} {S C : Addr} {b : Bool} (h1 : PySem.W.subIn K (.ref C) (.type "BaseException") = some true) (h2 : PySem.W.isClsIn K C = true) (h3 : PySem.W.typeIn K (.ref C) = some (.type "type")) (h4 : PySem.W.subIn K (.ref S) (.ref C) = some b) :
    PySem.W.exmOne K (.ref S) (.ref C) = some b := by
  have e2 : ((PySem.W.clsIn K C).isSome && PySem.W.typeIn K (.ref C) == some (.type "type")) = true := by
    have h5 : (PySem.W.clsIn K C).isSome = true := h2
    rw [h5, h3] <;> rfl
  have e1 : (PySem.W.subIn K (.ref C) (.type "BaseException") == some true) = true := by rw [h1] <;> rfl
  unfold PySem.W.exmOne
  rw [if_pos e1]
  unfold PySem.W.kitCls
  first
    | (rw [if_pos e2]; exact h4)
    | (simp only [e2, if_true]; exact h4)
section
variable {X : Cx} {K : PySem.W.Frag} {o value : Expr} {f : PySem.Str} {ta tv : TE} {pos pos' : Pos}
theorem ps_fldK (h : X.K = K) (ha : PE X o ta) (hv : PE X value tv) (hs : swapsWith value (some (.Attribute o f pos')) pos.line X.env = pure false) : PS X (.Assign [.Attribute o f pos'] value pos) (sFld K ta tv f) := by
  subst h; exact ps_fld ha hv hs
theorem pg_fldK (h : X.K = K) (ho : PE X o ta) : PG X (.Attribute o f pos) (gFld K ta f) := by subst h; exact pg_fld ho
end
/-- a written constant of the top -/
structure Cst (mg : Str → Option Value) (x : Str) (v : V) : Prop where
  ex : ∃ u, mg x = some u ∧ RelV v u
theorem pe_cst {X : Cx} {x : Str} {v : V} {pos : Pos} (G : Cst X.mg x v) (hg : Gl X x) (hd : (x == ("__debug__" : Str)) = false := by decide) : PE X (.Name x pos) (tC v) := by
  obtain ⟨u, hm, r⟩ := G.ex
  exact pe_glob hg hm r hd
theorem okn_str {s : Str} (h : PyData.strOk s = true) : OkN 0 (.str s) := ⟨by simp only [D.plain], by simp only [D.py, PyData.canLay0]; exact h, by simp only [D.py, PyData.depth]; exact Nat.le_refl _⟩
section
variable {K : PySem.W.Frag} {μ : M} {Φ : D → M → Prop} {a b : Addr}
theorem ro_neLL {n : Nat} {ds : List D} (h1 : μ a = some (.lst ds)) (h2 : μ b = some (.lst ds)) (ok : ∀ x ∈ ds, OkN n x) (hn : n < 64) (q : Φ (.bl false) μ) : RO K (rNeD K) (.ref a) (.ref b) μ Φ := fun H x y c r1 r2 Q k => by
  cases r1; cases r2
  obtain ⟨xs, hx, hr⟩ := c a _ h1
  obtain ⟨ys, hy, hr2⟩ := c b _ h2
  obtain ⟨p1, p2, p3⟩ := okn_all ok
  have lay : (PyData.list (D.pys ds)).canLay0 = true := by simp only [PyData.canLay0]; exact p2
  have sh : SeqAt.shaped (.list (D.pys ds)) = true := by
    unfold SeqAt.shaped
    rw [Bool.and_eq_true]
    exact ⟨lay, decide_eq_true (by simp only [PyData.depth]; omega)⟩
  refine ⟨.list (D.pys ds), .list (D.pys ds), .lst (SqL.of hx) (Rels.dp _ _ hr p1), .lst (SqL.of hy) (Rels.dp _ _ hr2 p1), sh, sh, ?_⟩
  rw [SeqAt.eqv_refl _ lay]
  exact k _ μ _ H Fr.refl c (.bl _) q
theorem rels_rep {H : Hp} {xs : List V} {ds : List D} (r : Rels K H xs ds) : ∀ n : Nat, Rels K H (List.replicate n xs).flatten (List.replicate n ds).flatten
  | 0 => .nil
  | n + 1 => by
    rw [List.replicate_succ, List.replicate_succ, List.flatten_cons, List.flatten_cons]
    exact r.append (rels_rep r n)
theorem ro_rep {k : Int} {ds : List D} (h : μ a = some (.lst ds)) (hk : -2 ^ 63 ≤ k ∧ k < 2 ^ 63) (hz : ds.length * k.toNat ≤ sizeLine) (q : ∀ p, μ p = none → Φ (.ref p) (μ.set p (.lst (List.replicate k.toNat ds).flatten))) : RO K rRep (.ref a) (.int k) μ Φ := fun H x y c r1 r2 Q kk => by
  cases r1; cases r2
  obtain ⟨xs, hx, hr⟩ := c a _ h
  refine ⟨a, k, xs, rfl, rfl, hx, hk.1, hk.2, by rw [hr.length]; exact hz, fun p hp => ?_⟩
  exact kk _ _ _ _ (fr_put hp) (con_put (m := .lst (List.replicate k.toNat ds).flatten) hp c ⟨_, upd_same, Rels.mono (tx_new hp) _ _ (rels_rep hr _)⟩) (.ref p) (q p (c.free hp))
end
end Z
namespace SD
open PySem PySem.Spec PyProof.Rows L2 PySem.W
end SD
namespace Z
open PySem L2 SD PySem.W
end Z
namespace ZT
open PySem PySem.Spec PyProof.Rows L2
section
variable {M : Model} {h : Heap} {a : Addr} {oe : Obj} {vs : Array Value}
theorem lk_type (ha : h.get? a = some oe) : PySem.W.Looks M h (typeOf (.ref a)) oe.cls :=
  fun _ _ _ _ k q => wpAny_typeOf_ref (k _ _ ha) q
end
end ZT
namespace ZT
open PySem PySem.Spec PyProof.Rows L2
/-- kinds of records: with any context, with none -/
structure Kind (Z : Value → Option Addr → Obj → Prop) : Prop where
  zc : ∀ {c d o}, Z c d o → Zc c d o
  land : ∀ {M : Model} {A : Around} {E₁ : Value → Shared → Prop} {env : Env} {outer : List Env} {B : Heap} {L a : Addr} {c : Value} {d : Option Addr} {Q : Unit → Shared → Prop} {s : Shared}, A.frames = some (env :: outer) → env.frame = some L →
    Sky B (env :: outer) a (Z c d) L s.heap → (∀ h', HandSPX.FlyingZ B (env :: outer) a (Z c d) h' → s.heap.UpToSlots h' → Q () { s with heap := h' }) →
      wpAny M A (noteFrame (.ref a) env) (fun _ s₂ => wpAny M A (setFlight (.ref a) none) Q E₁ s₂) E₁ s
/-- the own frame is on top -/
structure Top (X : Cx) : Prop where
  ok : X.Ok
  stk : X.stack = X.env :: X.outer
  frm : X.env.frame = some X.env.locals
theorem Top.frames {X : Cx} (t : Top X) (hd : Option Value) : (X.A.mark hd).frames = some (X.env :: X.outer) := t.stk ▸ t.ok.frames
section
variable {Z : Value → Option Addr → Obj → Prop} {X : Cx} {B : Heap} {sI s : Shared} {pins : List (Addr × Obj)} {σ : L2.St} {H : Hp} {c : Value} {d : Option Addr} {a : Addr}
/-- the same, caught: it flies over this frame, noted nowhere -/
structure Got (Z : Value → Option Addr → Obj → Prop) (X : Cx) (B : Heap) (sI : Shared) (pins : List (Addr × Obj)) (σ : L2.St) (H : Hp) (c : Value) (d : Option Addr) (a : Addr) (s : Shared) : Prop where
  top : Top X
  inv : Inv X pins σ H sI
  gnd : ∀ b o, sI.heap.get? b = some o → b ∉ frs X.stack → B.get? b = some o
  up : sI.heap.UpToSlots s.heap
  fl : HandSPX.FlyingZ B (X.env :: X.outer) a (Z c d) s.heap
  na : H a = none
  os : s.os = sI.os
  ag : AllBare s.gens
theorem Got.here (g : Got Z X B sI pins σ H c d a s) : Inv X pins σ H s := g.inv.landed g.gnd g.fl.1 g.up g.os g.ag
/-- its record stands apart from all frames, and from the ground -/
theorem Got.apart (g : Got Z X B sI pins σ H c d a s) : ∃ oe vs, s.heap.get? a = some oe ∧ Z c d oe ∧ oe.data = .fields vs ∧ a ≠ X.env.locals ∧ a ∉ X.fs ∧ X.base.get? a = none := by
  obtain ⟨oe, vs, he, hz, hd⟩ := g.fl.there
  have off : a ∉ frs (X.env :: X.outer) := fun hm => by
    obtain ⟨-, o, e, nf⟩ := g.fl.2.2.1.mem hm
    exact nf vs (Option.some.inj (he.symm.trans e) ▸ hd)
  have nl : a ≠ X.env.locals := fun z => off (List.mem_filterMap.mpr ⟨X.env, List.mem_cons_self, z ▸ g.top.frm⟩)
  have nf : a ∉ X.fs := fun hm => off (by
    obtain ⟨e, he, q⟩ := List.mem_filterMap.mp hm
    exact List.mem_filterMap.mpr ⟨e, List.mem_cons_of_mem _ he, q⟩)
  refine ⟨oe, vs, he, hz, hd, nl, nf, Option.eq_none_iff_forall_not_mem.mpr fun o e => ?_⟩
  have b1 := g.gnd a o (g.inv.bk a o e) (g.top.stk ▸ off)
  exact Option.some_ne_none _ (b1.symm.trans g.fl.2.1)
/-- .. and stays so in a greater heap, or when its flight is told again -/
theorem Got.grow (g : Got Z X B sI pins σ H c d a s) (o : Obj) : Got Z X B sI pins σ H c d a { s with heap := s.heap.push o } := by
  have k : ∀ b u, s.heap.get? b = some u → (s.heap.push o).get? b = some u := fun b u e => Heap.get?_push_of_some _ e
  obtain ⟨f1, f2, f3, oe, vs, T, oT, ts, k1, k2, k3, k4, k5, k6, k7, k8⟩ := g.fl
  exact ⟨g.top, g.inv, g.gnd, g.up.trans (.of_keeps k), ⟨fun b u e => k b u (f1 b u e), f2, f3.of_keeps fun b u e _ => ⟨u, k b u e, rfl⟩, oe, vs, T, oT, ts, k _ _ k1, k2, k3, k4, k5, k6, k _ _ k7, k8⟩, g.na, g.os, g.ag⟩
end
section
variable {X : Cx} {pins : List (Addr × Obj)} {σ : L2.St} {H : Hp} {s : Shared}
/-- h' is h but for the object at L -/
def Off (L : Addr) (h h' : Heap) : Prop := ∀ b, b ≠ L → h'.get? b = h.get? b
theorem Off.un {fs ex : List Addr} {H' : Hp} {L : Addr} {h0 h h' : Heap} (u : Un fs ex H' H h0 h) (f : Off L h h') (n : ∀ b o, h0.get? b = some o → b ≠ L) : Un fs ex H' H h0 h' where
  keep b o e z i j := (f b (n b o e)).trans (u.keep b o e z i j)
  slot b o e z i j := (u.slot b o e z i j).imp fun _ q => (f b (n b o e)).trans q
  free := u.free
  there b o e j := (u.there b o e j).imp fun _ q => (f b (n b o e)).trans q
  tups := u.tups
  frzs := u.frzs
  tbls := u.tbls
theorem Off.hok {P : Program} {w : World} {L : Addr} {h h' : Heap} (k : HOk P w H h) (f : Off L h h') (n : H L = none) : HOk P w H h' := fun b o e =>
  (k b o e).stay (fun x u way q => (f x fun z => way.elim (fun w => by rw [← w, z, n] at e; cases e) fun w => by rw [z, n] at w; cases w).trans q) (fun _ q => q) fun _ _ q => q
end
end ZT
namespace ZT
open PySem PySem.Spec PyProof.Rows L2
/-- the context of a suite, F about what leaves it -/
abbrev sctx (X : Cx) (a : Addr) (pn : List (Addr × Obj)) (F : Value → Shared → Prop) : Cx := { X with A := X.A.mark (some (.ref a)), calm := false, pn := pn, xe := F }
end ZT
namespace ZT
open PySem PySem.Spec PyProof.Rows L2
/-- the names in a clause's tuple -/
inductive NsL (X : Cx) : List Expr → List Value → Prop
  | nil : NsL X [] []
  | cons {x : Str} {c : Value} {np : Pos} {es : List Expr} {cs : List Value} (hc : Names X x c) (r : NsL X es cs) : NsL X (.Name x np :: es) (c :: cs)
/-- a clause's classes, by what they answer -/
inductive Test (X : Cx) : Expr → (Value → Option Bool) → Prop
  | one {x : Str} {c : Value} {np : Pos} (hc : Names X x c) : Test X (.Name x np) (fun cls => PySem.W.exmOne X.K cls c)
  | tup {es : List Expr} {cs : List Value} {k : Nat} {np : Pos} (h : NsL X es cs) (z : cs.length = 2 ∨ cs.length = 3 ∨ cs.length = 4) : Test X (.Tuple es k np) (fun cls => PySem.W.exmAny X.K cls cs)
section
variable {Z : Value → Option Addr → Obj → Prop} {X : Cx} {B : Heap} {sI s : Shared} {pins : List (Addr × Obj)} {σ : L2.St} {H : Hp} {c : Value} {d : Option Addr} {a : Addr}
/-- the state as a suite's -/
theorem Got.suite (g : Got Z X B sI pins σ H c d a s) : ∃ oe, Z c d oe ∧ (∃ vs, oe.data = .fields vs) ∧ X.base.get? a = none ∧ s.heap.get? a = some oe ∧ ∀ F, Inv (sctx X a ((a, oe) :: (X.pn ++ pins)) F) [] σ H s := by
  obtain ⟨oe, vs, he, hz, hd, nl, nf, nb⟩ := g.apart
  exact ⟨oe, hz, ⟨vs, hd⟩, nb, he, fun F => Inv.unwish (X := sctx X a _ F) (E := fun _ _ => False) (g.here.suite he hd g.na nl nf)⟩
theorem name_ld {x : Str} {v : Value} {np : Pos} {pn : List (Addr × Obj)} {Q E : Value → Shared → Prop} (I : Inv (X.suite a pn) [] σ H s) (hc : Names X x v) (q : Q v s) : wpAny (model X.prog X.w) (X.A.mark (some (.ref a))) (eval (.Name x np) X.env) Q E s :=
  match hc with
  | ⟨g, dbg, .inl m⟩ => ld_glob (X := X.suite a pn) I g m q dbg
  | ⟨g, dbg, .inr ⟨m, v, nn⟩⟩ => ld_blt (X := X.suite a pn) I g m v q nn dbg
theorem names_ld {es : List Expr} {cs : List Value} {pos : Pos} {pn : List (Addr × Obj)} {E : Value → Shared → Prop} (I : Inv (X.suite a pn) [] σ H s) (hn : NsL X es cs) : ∀ {Q : List Value → Shared → Prop}, Q cs s → wpAny (model X.prog X.w) (X.A.mark (some (.ref a))) (spliced (backTo pos (starEach es X.env))) Q E s := by
  induction hn with
  | nil => exact fun q => wpAny_items_nil q
  | cons hc _ ih => exact fun q => wpAny_items_cons (name_ld I hc (ih q))
theorem Test.run {te : Expr} {ans : Value → Option Bool} {b : Bool} {G : Bool → Shared → Prop} {E1 E2 : Value → Shared → Prop} (t : Test X te ans) (k : Kind Z) (g : Got Z X B sI pins σ H c d a s) (hb : ans c = some b)
    (q : ∀ h', Got Z X B sI pins σ H c d a { s with heap := h' } → G b { s with heap := h' }) :
    wpAny (model X.prog X.w) (X.A.mark (some (.ref a))) (eval te X.env) (fun v s₁ => wpAny (model X.prog X.w) (X.A.mark (some (.ref a))) (excMatches (.ref a) v) G E2 s₁) E1 s := by
  obtain ⟨oe, hz, -, -, he, J⟩ := g.suite
  have I := J fun _ _ => False
  have ty : PySem.W.Looks (model X.prog X.w) s.heap (typeOf (.ref a)) c := (k.zc hz).1 ▸ lk_type he
  cases t with
  | one hc => exact name_ld I hc ((PySem.W.exm_one I.kIn ty hb).here (q _ g))
  | @tup es cs n np hn z =>
    refine wpAny_Tuple (names_ld I hn ⟨by have := sizeLine_eq; omega, ?_⟩)
    have more : ∀ b o, s.heap.get? b = some o → (s.heap.push { cls := .type "tuple", data := .seq cs.toArray }).get? b = some o := fun b o e => Heap.get?_push_of_some _ e
    have at_ := Heap.get?_push_size s.heap (o := { cls := .type "tuple", data := .seq cs.toArray }) rfl
    have fin := q _ (g.grow { cls := .type "tuple", data := .seq cs.toArray })
    match cs, z, hb with
    | [_, _], _, hb => exact (PySem.W.exm_tup2 (I.kIn.keeps more) (ty.keeps more) at_ hb).here fin
    | [_, _, _], _, hb => exact (PySem.W.exm_tup3 (I.kIn.keeps more) (ty.keeps more) at_ hb).here fin
    | [_, _, _, _], _, hb => exact (PySem.W.exm_tup4 (I.kIn.keeps more) (ty.keeps more) at_ hb).here fin
end
end ZT
namespace Z
open PySem PySem.Spec PyProof.Rows L2
end Z
namespace Z
open PySem PySem.Spec PyProof.Rows L2
end Z
namespace Z
open PySem PySem.Spec PyProof.Rows L2
end Z
namespace Z
open PySem PySem.Spec PyProof.Rows L2
end Z
namespace Z
open PySem
end Z
namespace Z
open PySem L2
def wh : D → Bool
  | .int _ => true
  | _ => false
/-- of a kind that can be asked for -/
def Kd (μ : M) (d : D) : Prop := ∃ n, tyn μ d = some n
theorem kd_int {μ : M} {i : Int} : Kd μ (.int i) := ⟨_, rfl⟩
theorem kd_tup {μ : M} {ds : List D} : Kd μ (.tup ds) := ⟨_, rfl⟩
theorem kd_non {μ : M} : Kd μ .non := ⟨_, rfl⟩
theorem kd_bl {μ : M} {b : Bool} : Kd μ (.bl b) := ⟨_, rfl⟩
theorem kd_str {μ : M} {s : Str} : Kd μ (.str s) := ⟨_, rfl⟩
def wi (d : D) (lo hi : Int) : Bool := match d with
  | .int i => decide (lo ≤ i) && decide (i ≤ hi)
  | _ => false
def ir (d : D) (lo hi : Int) : Bool := match d with
  | .tup xs => decide (lo ≤ xs.length) && decide ((xs.length : Int) ≤ hi)
  | _ => false
def aw (d : D) (m : Int) : Bool := match d with
  | .tup xs => decide ((xs.length : Int) = m) && xs.all wh
  | _ => false
def pr (d : D) (w h l : Int) : Bool := match d with
  | .tup [.int x, .int y, .int f, .int g] => (decide (0 < x) && decide (x < w)) && (decide (0 < y) && decide (y < h)) && (decide (0 ≤ f) && decide (f ≤ g) && decide (g < l))
  | _ => false
/-- the room of two pins -/
def rm (s : Int) (a b : Int × Int) : Int := max 0 ((max (b.1 - a.1).natAbs (b.2 - a.2).natAbs : Nat) / s - 1)
/-- where a row of a pin stands -/
def spot : D → List Int
  | .tup (.int x :: .int y :: _) => [x, y]
  | _ => []
def ab (w h p l s : D) : Bool := wi w 2 1000000 && wi h 2 1000000 && wi l 1 3 && wi s 1 1000000 && (match w, h, p, l with
  | .int w, .int h, .tup rows, .int l => decide (rows.length ≤ 16) && rows.all (fun r => pr r w h l) && decide (rows.map spot).Nodup
  | _, _, _, _ => false)
theorem wh_int {d : D} (h : wh d = true) : ∃ i, d = .int i := by
  cases d <;> first | exact ⟨_, rfl⟩ | cases h
theorem wi_int {d : D} {lo hi : Int} (h : wi d lo hi = true) : ∃ i, d = .int i ∧ lo ≤ i ∧ i ≤ hi := by
  cases d <;> first | cases h | skip
  rename_i i
  simp only [wi, Bool.and_eq_true, decide_eq_true_eq] at h
  exact ⟨i, rfl, h⟩
theorem pr_int {d : D} {w h l : Int} (k : pr d w h l = true) : ∃ x y f g : Int, d = .tup [.int x, .int y, .int f, .int g] ∧ (0 < x ∧ x < w) ∧ (0 < y ∧ y < h) ∧ (0 ≤ f ∧ f ≤ g) ∧ g < l := by
  unfold pr at k
  split at k
  · simp only [Bool.and_eq_true, decide_eq_true_eq] at k
    exact ⟨_, _, _, _, rfl, k.1.1, k.1.2, k.2.1, k.2.2⟩
  · cases k
theorem aw_four {d : D} (h : aw d 4 = true) : ∃ x y f g : Int, d = .tup [.int x, .int y, .int f, .int g] := by
  unfold aw at h
  split at h
  · rename_i xs
    simp only [Bool.and_eq_true, decide_eq_true_eq, List.all_eq_true] at h
    obtain ⟨hl, ha⟩ := h
    match xs, hl with
    | [a, b, c, e], _ =>
      obtain ⟨x, rfl⟩ := wh_int (ha a (by simp))
      obtain ⟨y, rfl⟩ := wh_int (ha b (by simp))
      obtain ⟨f, rfl⟩ := wh_int (ha c (by simp))
      obtain ⟨g, rfl⟩ := wh_int (ha e (by simp))
      exact ⟨x, y, f, g, rfl⟩
    | [], e => simp at e
    | [_], e => simp at e
    | [_, _], e => simp at e
    | [_, _, _], e => simp at e
    | _ :: _ :: _ :: _ :: _ :: _, e => simp at e; omega
  · cases h
theorem aw_pr {d : D} {w h l : Int} (k : aw d 4 = false) : pr d w h l = false := by
  cases e : pr d w h l with
  | false => rfl
  | true =>
    obtain ⟨x, y, f, g, rfl, _⟩ := pr_int e
    simp [aw, wh] at k
theorem atI_map {α : Type} {f : α → D} {l : List α} {i : Int} {a : α} (h0 : 0 ≤ i) (h : l[i.toNat]? = some a) : atI (l.map f) i = some (f a) := by
  have hl := (List.getElem?_eq_some_iff.mp h).1
  unfold atI ixN
  rw [if_pos h0, if_pos (by rw [List.length_map]; omega), Option.bind_some, List.getElem?_map, h]
  rfl
end Z
namespace W
open PySem L2 Z
local macro_rules | `(tactic| walk_at "mu") => `(tactic| first
  | assumption
  | exact set_same
  | (refine Eq.trans (set_ne ?_) ?_; (first | assumption | (apply Ne.symm; assumption) | (intro h; subst h; simp_all)); walk_at "mu"))
local macro_rules | `(tactic| walk_at "seq") => `(tactic| first
  | rfl
  | (refine seq_ref ?_; walk_at "mu"))
local macro_rules | `(tactic| walk_at "sz") => `(tactic| first
  | assumption
  | (refine sz_2 ?_; decide)
  | (refine sz_8 ?_; decide)
  | (refine sz_32 ?_; decide)
  | (refine sz_128 ?_; decide +kernel)
  | ((with_reducible refine sz_add (a := ?a) (b := ?b) ?h ?k); (case h => walk_at "sz"); (case k => walk_at "sz"))
  | ((with_reducible refine sz_sub (a := ?a) (b := ?b) ?h ?k); (case h => walk_at "sz"); (case k => walk_at "sz"))
  | ((with_reducible refine sz_mul (a := ?a) (b := ?b) ?h ?k); (case h => walk_at "sz"); (case k => walk_at "sz"))
  | ((with_reducible refine sz_neg ?_) <;> walk_at "sz")
  | with_reducible exact sz_b
  | ((with_reducible refine sz_mod ?h1 ?h2); (case h1 => omega); (case h2 => walk_at "sz")))
local macro_rules | `(tactic| walk_at "szN") => `(tactic| first
  | assumption
  | (refine sz_mono (a := ?a) ?h ?l; (case h => walk_at "sz"); (case l => first | decide | omega)))
local macro_rules | `(tactic| walk_at "cond") => `(tactic| first
  | assumption
  | (refine mulw_of (a := ?a) (b := ?b) ?h ?k ?l; (case h => walk_at "sz"); (case k => walk_at "sz"); (case l => first | decide | omega))
  | (refine divw_of (b := ?b) ?h ?k ?l; (case h => omega); (case k => walk_at "sz"); (case l => first | decide | omega))
  | (show (0 : Int) < _; first | assumption | omega | decide)
  | (refine ⟨?_, ?_, ?_⟩ <;> first | assumption | decide | omega))
local macro_rules | `(tactic| walk_at "nf") => `(tactic| ((try simp only [List.set_cons_zero, List.set_cons_succ, Int.reduceToNat, Int.reducePow]); (try dsimp only)))
local macro_rules | `(tactic| walk_at "z1") => `(tactic| first
  | (with_reducible refine s_seq ?_)
  | ((with_reducible refine s_asgX ?_); (first | refine x_meth ?_ | refine x_call ?_))
  | (with_reducible refine s_asg ?_)
  | ((with_reducible refine s_ret ?_); (try dsimp only))
  | ((with_reducible refine s_next ?_); (try dsimp only))
  | ((with_reducible refine s_dropX ?_); (first | refine x_meth ?_ | refine x_call ?_))
  | (with_reducible refine s_drop ?_)
  | ((with_reducible refine s_retN ?_); (try dsimp only))
  | (with_reducible refine s_par ?_)
  | (with_reducible refine s_par3 ?_)
  | ((with_reducible refine g_name ?_); walk_at "nf")
  | ((with_reducible refine g_tup ?zn ?_); (case zn => rfl))
  | (with_reducible refine gs_cons ?_)
  | ((with_reducible refine gs_nil ?_); (try dsimp only))
  | ((with_reducible refine s_aug (d := ?zd) ?zh ?_); (case zh => rfl))
  | ((with_reducible refine a_var (d := ?zd) ?zh ?_); (case zh => rfl))
  | (with_reducible refine a_int ?_)
  | (with_reducible refine a_bl ?_)
  | (with_reducible refine a_str ?_)
  | (with_reducible refine a_non ?_)
  | (with_reducible refine a_ty ?_)
  | (with_reducible refine a_cref ?_)
  | (with_reducible refine a_revT ?_)
  | (with_reducible refine ro_neS ?_)
  | (with_reducible refine a_op ?_)
  | (with_reducible refine a_un ?_)
  | (with_reducible refine aa_cons ?_)
  | (with_reducible refine aa_nil ?_)
  | ((with_reducible refine a_tup ?_))
  | ((with_reducible refine a_lst ?_))
  | ((with_reducible refine a_lenSc (dec := ?zd) ?zt ?_); (case zt => first | exact tg_4 | exact tg_2 | exact tg_3 | exact tg_name))
  | (with_reducible refine a_cb ?_)
  | (with_reducible refine a_call ?_)
  | (with_reducible refine a_callX ?_)
  | (with_reducible refine a_methX ?_)
  | (with_reducible refine a_methI ?_)
  | (with_reducible refine rc_max3 ?_)
  | (with_reducible refine a_if ?_)
  | (with_reducible refine a_andV ?_)
  | (with_reducible refine a_orV ?_)
  | (with_reducible refine a_notV ?_)
  | (with_reducible refine at_test ?_)
  | (with_reducible refine at_B ?_)
  | (with_reducible refine at_and ?_)
  | (with_reducible refine at_or ?_)
  | (with_reducible refine at_not ?_)
  | (with_reducible refine at_yes ?_)
  | (with_reducible refine a_chain ?_)
  | (with_reducible refine a_chain3 ?_)
  | (with_reducible refine s_if ?_)
  | (with_reducible refine g_sub ?_)
  | (with_reducible refine ro_i ?_)
  | (with_reducible refine ru_i ?_)
  | (with_reducible refine ro_b ?_)
  | ((with_reducible refine ro_c (C := CPow) ?zc ?_); (case zc => walk_at "cond"); walk_at "nf")
  | ((with_reducible refine ro_c ?zc ?_); (case zc => walk_at "cond"))
  | ((with_reducible refine ro_ix (ds := ?zd) (e := ?ze) ?zs ?zi ?_); (case zs => walk_at "seq"); (case zi => rfl))
  | ((with_reducible refine set_lst (ds := ?zd) (j := ?zj) ?zs ?zi ?_); (case zs => walk_at "mu"); (case zi => rfl); walk_at "nf")
  | (with_reducible refine a_sl ?_)
  | (with_reducible refine ao_no ?_)
  | (with_reducible refine ao_pt ?_)
  | ((with_reducible refine rs_ref (ds := ?zd) ?zs ?_); (case zs => walk_at "mu"))
  | (with_reducible refine rs_rol ?_)
  | (with_reducible refine rs_tupA ?_)
  | ((with_reducible refine ro_catA ?zl ?_); (case zl => exact Nat.le_of_ble_eq_true rfl))
  | ((with_reducible refine ro_cat (ds := ?zd) (es := ?ze) ?zs ?zt ?zl ?_); (case zs => walk_at "mu"); (case zt => walk_at "mu"); (case zl => exact Nat.le_of_ble_eq_true rfl))
  | (with_reducible refine iteT ?_)
  | (with_reducible refine iteF ?_)
  | (with_reducible refine iteNT ?_)
  | (with_reducible refine iteNF ?_)
  | ((with_reducible refine ro_eqD ?h1 ?h2 ?_); (case h1 => rfl); (case h2 => rfl))
  | ((with_reducible refine ro_neD ?h1 ?h2 ?_); (case h1 => rfl); (case h2 => rfl))
  | ((with_reducible refine ro_inS (ds := ?zd) ?zs ?h1 ?h2 ?_); (case zs => walk_at "seq"); (case h1 => rfl); (case h2 => rfl); (try simp only [if_true, if_false, Bool.false_eq_true]))
  | (with_reducible refine ro_isB ?_)
  | (with_reducible refine ro_isN ?_)
  | (with_reducible refine ro_notN ?_)
  | (with_reducible refine ro_notB ?_)
  | (with_reducible refine ro_eqI ?_)
  | (with_reducible refine ro_neI ?_)
  | (with_reducible refine ro_eqB ?_)
  | (with_reducible refine ro_neB ?_)
  | (with_reducible refine rc_intB ?_)
  | (with_reducible refine rc_intI ?_)
  | (with_reducible refine rc_abs ?_)
  | (with_reducible refine rc_min ?_)
  | (with_reducible refine rc_max ?_)
  | ((with_reducible refine rc_len (ds := ?zd) ?zs ?_); (case zs => walk_at "seq"))
  | ((with_reducible refine rc_isi (n := ?zn) (b := ?zb) ?zs ?zk ?_); (case zs => rfl); (case zk => first | rfl | decide +kernel))
  | (with_reducible refine ⟨_, rfl, ?_⟩)
  | ((with_reducible refine ⟨_, _, rfl, ?_⟩); walk_at "nf")
  | ((with_reducible refine ⟨_, _, _, rfl, ?_⟩); walk_at "nf")
  | (refine ⟨Nat.le_of_ble_eq_true rfl, ?_⟩))
local macro_rules | `(tactic| walk_at "go") => `(tactic| repeat (walk_at "z1"))
def top (i : Nat) : Stmt := PySem.Challenge.pw_rubberroutes_k10_rooms.main.body.getD i (.Pass ⟨0, 0, 0, 0⟩)
abbrev s_is_whole : Stmt := top 7
abbrev N_is_whole : List Str := ["thing"]
theorem sc_is_whole : FnScope N_is_whole ["thing"] (defScope s_is_whole) := ⟨rfl, rfl, rfl, by decide +kernel, rfl, by decide +kernel, by decide +kernel⟩
abbrev s_is_within : Stmt := top 8
abbrev N_is_within : List Str := ["thing", "least", "most"]
theorem sc_is_within : FnScope N_is_within ["thing", "least", "most"] (defScope s_is_within) := ⟨rfl, rfl, rfl, by decide +kernel, rfl, by decide +kernel, by decide +kernel⟩
abbrev s_is_row : Stmt := top 9
abbrev N_is_row : List Str := ["thing", "least", "most"]
theorem sc_is_row : FnScope N_is_row ["thing", "least", "most"] (defScope s_is_row) := ⟨rfl, rfl, rfl, by decide +kernel, rfl, by decide +kernel, by decide +kernel⟩
abbrev s_are_whole : Stmt := top 10
abbrev N_are_whole : List Str := ["thing", "many", "one"]
theorem sc_are_whole : FnScope N_are_whole ["thing", "many"] (defScope s_are_whole) := ⟨rfl, rfl, rfl, by decide +kernel, rfl, by decide +kernel, by decide +kernel⟩
abbrev s_is_pin_row : Stmt := top 22
abbrev N_is_pin_row : List Str := ["thing", "width", "height", "layers", "x", "y", "first", "last"]
theorem sc_is_pin_row : FnScope N_is_pin_row ["thing", "width", "height", "layers"] (defScope s_is_pin_row) := ⟨rfl, rfl, rfl, by decide +kernel, rfl, by decide +kernel, by decide +kernel⟩
abbrev s_are_board : Stmt := top 23
abbrev N_are_board : List Str := ["width", "height", "pins", "layers", "spacing", "row", "x", "y", "first", "last"]
theorem sc_are_board : FnScope N_are_board ["width", "height", "pins", "layers", "spacing"] (defScope s_are_board) := ⟨rfl, rfl, rfl, by decide +kernel, rfl, by decide +kernel, by decide +kernel⟩
abbrev s_board_init : Stmt := inClass (top 24) 0
abbrev N_board_init : List Str := ["self", "width", "height", "pins", "layers", "spacing", "row"]
theorem sc_board_init : FnScope N_board_init ["self", "width", "height", "pins", "layers", "spacing"] (defScope s_board_init) := ⟨rfl, rfl, rfl, by decide +kernel, rfl, by decide +kernel, by decide +kernel⟩
abbrev s_board_look_pin : Stmt := inClass (top 24) 6
abbrev N_board_look_pin : List Str := ["self", "number"]
theorem sc_board_look_pin : FnScope N_board_look_pin ["self", "number"] (defScope s_board_look_pin) := ⟨rfl, rfl, rfl, by decide +kernel, rfl, by decide +kernel, by decide +kernel⟩
abbrev s_board_room : Stmt := inClass (top 24) 20
abbrev N_board_room : List Str := ["self", "one", "other", "a", "b"]
theorem sc_board_room : FnScope N_board_room ["self", "one", "other"] (defScope s_board_room) := ⟨rfl, rfl, rfl, by decide +kernel, rfl, by decide +kernel, by decide +kernel⟩
abbrev s_l_cell_at : Stmt := top 26
abbrev N_l_cell_at : List Str := ["_law_script", "_law_k"]
theorem sc_l_cell_at : FnScope N_l_cell_at ["_law_script", "_law_k"] (defScope s_l_cell_at) := ⟨rfl, rfl, rfl, by decide +kernel, rfl, by decide +kernel, by decide +kernel⟩
abbrev s_l_bag : Stmt := top 27
abbrev N_l_bag : List Str := ["_law_script", "_law_at", "_law_primes", "_law_cell", "_law_mix", "_law_k", "_law_one"]
theorem sc_l_bag : FnScope N_l_bag ["_law_script", "_law_at"] (defScope s_l_bag) := ⟨rfl, rfl, rfl, by decide +kernel, rfl, by decide +kernel, by decide +kernel⟩
abbrev s_l_take : Stmt := top 28
abbrev N_l_take : List Str := ["_law_bag_here", "_law_many", "_law_digit"]
theorem sc_l_take : FnScope N_l_take ["_law_bag_here", "_law_many"] (defScope s_l_take) := ⟨rfl, rfl, rfl, by decide +kernel, rfl, by decide +kernel, by decide +kernel⟩
abbrev s_l_made : Stmt := top 30
abbrev N_l_made : List Str := ["_law_bag_here", "_law_most", "_law_way", "_law_wide", "_law_high", "_law_scale", "_law_row", "_law_floors", "_law_pins_here", "_law_k", "_law_spot", "_law_low", "_law_rows"]
theorem sc_l_made : FnScope N_l_made ["_law_bag_here", "_law_most"] (defScope s_l_made) := ⟨rfl, rfl, rfl, by decide +kernel, rfl, by decide +kernel, by decide +kernel⟩
abbrev s_l_board : Stmt := top 31
abbrev N_l_board : List Str := ["_law_made_here"]
theorem sc_l_board : FnScope N_l_board ["_law_made_here"] (defScope s_l_board) := ⟨rfl, rfl, rfl, by decide +kernel, rfl, by decide +kernel, by decide +kernel⟩
abbrev s_l_points : Stmt := top 32
abbrev N_l_points : List Str := ["_law_made_here", "_law_wide", "_law_high", "_law_row"]
theorem sc_l_points : FnScope N_l_points ["_law_made_here"] (defScope s_l_points) := ⟨rfl, rfl, rfl, by decide +kernel, rfl, by decide +kernel, by decide +kernel⟩
abbrev s_l_fit : Stmt := top 34
abbrev N_l_fit : List Str := ["_law_far", "_law_gap", "_law_low", "_law_high", "_law_mid"]
theorem sc_l_fit : FnScope N_l_fit ["_law_far", "_law_gap"] (defScope s_l_fit) := ⟨rfl, rfl, rfl, by decide +kernel, rfl, by decide +kernel, by decide +kernel⟩
abbrev s_l_no_pin : Stmt := top 35
abbrev N_l_no_pin : List Str := ["_law_board_here", "_law_first", "_law_second", "e"]
theorem sc_l_no_pin : FnScope N_l_no_pin ["_law_board_here", "_law_first", "_law_second"] (defScope s_l_no_pin) := ⟨rfl, rfl, rfl, by decide +kernel, rfl, by decide +kernel, by decide +kernel⟩
abbrev s_l_whole : Stmt := top 29
abbrev N_l_whole : List Str := ["_law_thing"]
theorem sc_l_whole : FnScope N_l_whole ["_law_thing"] (defScope s_l_whole) := ⟨rfl, rfl, rfl, by decide +kernel, rfl, by decide +kernel, by decide +kernel⟩
abbrev s_law : Stmt := top 36
abbrev N_law : List Str := ["_law_script", "_law_k", "_law_bag_here", "_law_made_here", "_law_spots", "_law_one", "_law_two", "_law_far", "_law_board_here", "_law_p", "_law_q", "_law_told", "_law_odd", "_law_strange"]
theorem sc_law : FnScope N_law ["_law_script"] (defScope s_law) := ⟨rfl, rfl, rfl, by decide +kernel, rfl, by decide +kernel, by decide +kernel⟩
abbrev s_nopin_init : Stmt := inClass (top 4) 0
abbrev N_nopin_init : List Str := ["self", "pin"]
theorem sc_nopin_init : FnScope N_nopin_init ["self", "pin"] (defScope s_nopin_init) := ⟨rfl, rfl, rfl, by decide +kernel, rfl, by decide +kernel, by decide +kernel⟩
structure Bs (mg : Str → Option Value) : Prop where
  b_abs : mg "abs" = none
  b_all : mg "all" = none
  b_bool : mg "bool" = none
  b_int : mg "int" = none
  b_isinstance : mg "isinstance" = none
  b_len : mg "len" = none
  b_max : mg "max" = none
  b_min : mg "min" = none
  b_range : mg "range" = none
  b_tuple : mg "tuple" = none
structure Cl_Board (K : PySem.W.Frag) (C : Addr) : Prop where
  cls : Cls K C
  n_wide : NoAttr K C "wide"
  n_high : NoAttr K C "high"
  n_pin_rows : NoAttr K C "pin_rows"
  n_layer_count : NoAttr K C "layer_count"
  n_apart_by : NoAttr K C "apart_by"
  n_spots : NoAttr K C "spots"
  n_kept_gates : NoAttr K C "kept_gates"
  n_kept_triangles : NoAttr K C "kept_triangles"
abbrev xn (mg : Str → Option Value) : Str → Option Value := fun x => if x ∈ (["NoBoard", "NoPin"] : List Str) then mg x else none
theorem xn_at {mg : Str → Option Value} {x : Str} {v : Value} (m : mg x = some v) (h : x ∈ (["NoBoard", "NoPin"] : List Str) := by decide) : xn mg x = some v := by
  unfold xn
  rw [if_pos h]
  exact m
theorem xn_or {mg : Str → Option Value} {x : Str} {c : Value} (h : xn mg x = some c) : (x = "NoBoard" ∧ mg "NoBoard" = some c) ∨ (x = "NoPin" ∧ mg "NoPin" = some c) := by
  unfold xn at h
  split at h
  · rename_i hm
    simp only [List.mem_cons, List.not_mem_nil, or_false] at hm
    rcases hm with rfl | rfl <;> simp [h]
  · cases h
section
variable {P : Program} {w : World} {K : PySem.W.Frag} {mg : Str → Option Value} {base : Heap}
theorem xi_NoPin {f : Addr} {fd : FuncData} (F : Fun K "__init__" "NoPin.__init__" s_nopin_init f fd) : FnOk P w K mg base CX0 1 f fd ["self", "pin"] (XO.spI1 K "IndexError.__new__" XO.tlIE "pin") :=
  F.ok sc_nopin_init (fun vs H Q E h => by obtain ⟨_, _, _, e, _⟩ := h; rw [e]; rfl) fun cdv A outer s H vs Q E hr h => ⟨XO.tOs1 K "IndexError.__new__" XO.tlIE "pin" (tVar 0) (tVar 1), pss_one (XO.ps_os1 (pv 0) (pv 1)), XO.init_ok (P := P) (w := w) (D := ⟨fun _ _ => False, fun _ _ => False, fun _ _ => False, fun _ _ => False⟩) h⟩
def P_is_whole : PT3 := fun ds μ Φ => ∃ d, ds = [d] ∧ Kd μ d ∧ Φ (.bl (wh d)) μ
theorem len_is_whole (ds : List D) (μ : M) (Φ : D → M → Prop) (h : P_is_whole ds μ Φ) : ds.length = 1 := by
  obtain ⟨_, rfl, _⟩ := h
  rfl
def P_is_within : PT3 := fun ds μ Φ => ∃ d lo hi, ds = [d, .int lo, .int hi] ∧ Kd μ d ∧ Φ (.bl (wi d lo hi)) μ
theorem len_is_within (ds : List D) (μ : M) (Φ : D → M → Prop) (h : P_is_within ds μ Φ) : ds.length = 3 := by
  obtain ⟨_, _, _, rfl, _⟩ := h
  rfl
def P_is_row : PT3 := fun ds μ Φ => ∃ d lo hi, ds = [d, .int lo, .int hi] ∧ Kd μ d ∧ Φ (.bl (ir d lo hi)) μ
theorem len_is_row (ds : List D) (μ : M) (Φ : D → M → Prop) (h : P_is_row ds μ Φ) : ds.length = 3 := by
  obtain ⟨_, _, _, rfl, _⟩ := h
  rfl
def P_are_whole : PT3 := fun ds μ Φ => ∃ d m, ds = [d, .int m] ∧ Kd μ d ∧ (∀ xs, d = .tup xs → xs.length ≤ 1000 ∧ ∀ x ∈ xs, Kd μ x) ∧ Φ (.bl (aw d m)) μ
theorem len_are_whole (ds : List D) (μ : M) (Φ : D → M → Prop) (h : P_are_whole ds μ Φ) : ds.length = 2 := by
  obtain ⟨_, _, rfl, _⟩ := h
  rfl
theorem ok_is_whole {f : Addr} {fd : FuncData} (F : Fun K "is_whole" "is_whole" s_is_whole f fd) (B : Bs mg) : FnOk P w K mg base CX0 1 f fd ["thing"] (spI K P_is_whole) := by
  refine F.ok sc_is_whole (fun vs H Q E h => spI_len h len_is_whole) (fun cdv A outer s H vs Q E hr h => ?_)
  have hu65 := hu65_of hr
  refine ⟨_, (pss_one (ps_ret (pe_and (pe_callB (call_isiK1 (K := K) rfl) (by rfl) B.b_isinstance (by decide +kernel) (pa_cons (pv 0) (pa_cons (pe_bltn (v := .ty "int") (by rfl) B.b_int (by decide +kernel) rfl) pa_nil))) (pe_one (pe_not (pe_callB (call_isiK1 (K := K) rfl) (by rfl) B.b_isinstance (by decide +kernel) (pa_cons (pv 0) (pa_cons (pe_bltn (v := .ty "bool") (by rfl) B.b_bool (by decide +kernel) rfl) pa_nil)))))))), body_ok h (fun ds μ Φ p => ?_)⟩
  (try dsimp only [cxOf, Cx.nox, Cx.wish, List.map_cons, List.map_nil])
  obtain ⟨d, rfl, ⟨n, hn⟩, q⟩ := p
  show AS K _ [some _] _ _
  cases d with
  | non => walk_at "go"; exact q
  | bl b =>
    walk_at "go"
    rw [if_pos (by decide +kernel)]
    walk_at "go"
    exact q
  | int i => walk_at "go"; exact q
  | str s => walk_at "go"; exact q
  | ty n => cases hn
  | tup xs => walk_at "go"; exact q
  | rol xs => walk_at "go"; exact q
  | ref a =>
    have hk : n = "list" ∨ n = "dict" := by
      unfold tyn at hn
      simp only at hn
      split at hn <;> first | (cases hn; first | exact .inl rfl | exact .inr rfl) | cases hn
    rcases hk with rfl | rfl
    · walk_at "go"
      refine rc_isi hn (b := false) (by decide +kernel) ?_
      walk_at "go"
      exact q
    · walk_at "go"
      refine rc_isi hn (b := false) (by decide +kernel) ?_
      walk_at "go"
      exact q
theorem ok_is_within {f : Addr} {fd : FuncData} (F : Fun K "is_within" "is_within" s_is_within f fd) (B : Bs mg) (G_is_whole : Def P w K mg base "is_whole" ["thing"] 1 (spI K P_is_whole)) : FnOk P w K mg base CX0 2 f fd ["thing", "least", "most"] (spI K P_is_within) := by
  refine F.ok sc_is_within (fun vs H Q E h => spI_len h len_is_within) (fun cdv A outer s H vs Q E hr h => ?_)
  have hu65 := hu65_of hr
  refine ⟨_, (pss_one (ps_ret (pe_and (pe_def G_is_whole (hr.mono (by decide)) (by rfl) (pa_cons (pv 0) pa_nil)) (pe_one (pe_chain op_le op_le (pv 1) (pv 0) (pv 2)))))), body_ok h (fun ds μ Φ p => ?_)⟩
  (try dsimp only [cxOf, Cx.nox, Cx.wish, List.map_cons, List.map_nil])
  obtain ⟨d, lo, hi, rfl, hk, q⟩ := p
  show AS K _ [some _, some _, some _] _ _
  walk_at "go"
  refine ⟨d, rfl, hk, ?_⟩
  cases d with
  | int i =>
    walk_at "go"
    simp only [wi] at q
    by_cases h : lo ≤ i
    · simp only [h, decide_true, Bool.true_and] at q
      simp only [wh, if_true]
      walk_at "go"
      simp only [h, decide_true, if_true]
      walk_at "go"
      exact q
    · simp only [h, decide_false, Bool.false_and] at q
      simp only [wh, if_true]
      walk_at "go"
      simp only [h, decide_false, Bool.false_eq_true, if_false]
      exact q
  | non => walk_at "go"; exact q
  | bl b => walk_at "go"; exact q
  | str s => walk_at "go"; exact q
  | ty n => walk_at "go"; exact q
  | tup xs => walk_at "go"; exact q
  | rol xs => walk_at "go"; exact q
  | ref a => walk_at "go"; exact q
theorem ok_is_row {f : Addr} {fd : FuncData} (F : Fun K "is_row" "is_row" s_is_row f fd) (B : Bs mg) : FnOk P w K mg base CX0 1 f fd ["thing", "least", "most"] (spI K P_is_row) := by
  refine F.ok sc_is_row (fun vs H Q E h => spI_len h len_is_row) (fun cdv A outer s H vs Q E hr h => ?_)
  have hu65 := hu65_of hr
  refine ⟨_, (pss_one (ps_ret (pe_and (pe_callB (call_isiK1 (K := K) rfl) (by rfl) B.b_isinstance (by decide +kernel) (pa_cons (pv 0) (pa_cons (pe_bltn (v := .ty "tuple") (by rfl) B.b_tuple (by decide +kernel) rfl) pa_nil))) (pe_one (pe_chain op_le op_le (pv 1) (pe_callB (call_lenK (K := K) rfl) (by rfl) B.b_len (by decide +kernel) (pa_cons (pv 0) pa_nil)) (pv 2)))))), body_ok h (fun ds μ Φ p => ?_)⟩
  (try dsimp only [cxOf, Cx.nox, Cx.wish, List.map_cons, List.map_nil])
  obtain ⟨d, lo, hi, rfl, ⟨n, hn⟩, q⟩ := p
  show AS K _ [some _, some _, some _] _ _
  cases d with
  | non => walk_at "go"; exact q
  | bl b => walk_at "go"; exact q
  | int i => walk_at "go"; exact q
  | str s => walk_at "go"; exact q
  | ty n => cases hn
  | rol xs => walk_at "go"; exact q
  | tup xs =>
    walk_at "go"
    simp only [ir] at q
    by_cases h : lo ≤ (xs.length : Int)
    · simp only [h, decide_true, Bool.true_and] at q
      simp only [h, decide_true, if_true]
      walk_at "go"
      exact q
    · simp only [h, decide_false, Bool.false_and] at q
      simp only [h, decide_false, Bool.false_eq_true, if_false]
      exact q
  | ref a =>
    have hk : n = "list" ∨ n = "dict" := by
      unfold tyn at hn
      simp only at hn
      split at hn <;> first | (cases hn; first | exact .inl rfl | exact .inr rfl) | cases hn
    rcases hk with rfl | rfl
    · walk_at "go"
      refine rc_isi hn (b := false) (by decide +kernel) ?_
      walk_at "go"
      exact q
    · walk_at "go"
      refine rc_isi hn (b := false) (by decide +kernel) ?_
      walk_at "go"
      exact q
theorem ok_are_whole {f : Addr} {fd : FuncData} (F : Fun K "are_whole" "are_whole" s_are_whole f fd) (B : Bs mg) (G_is_row : Def P w K mg base "is_row" ["thing", "least", "most"] 1 (spI K P_is_row)) (G_is_whole : Def P w K mg base "is_whole" ["thing"] 1 (spI K P_is_whole)) : FnOk P w K mg base CX0 2 f fd ["thing", "many"] (spI K P_are_whole) := by
  refine F.ok sc_are_whole (fun vs H Q E h => spI_len h len_are_whole) (fun cdv A outer s H vs Q E hr h => ?_)
  have hu65 := hu65_of hr
  refine ⟨_, (pss_one (ps_ret (pe_and (pe_def G_is_row (hr.mono (by decide)) (by rfl) (pa_cons (pv 0) (pa_cons (pv 1) (pa_cons (pv 1) pa_nil)))) (pe_one (pe_callB (cr_allK (K := K) rfl rfl) (by rfl) B.b_all (by decide +kernel) (pa_cons (pe_lc (own := [("one", 2)]) (g := gName 2) (tt := tYes) rfl sc_are_whole.nd (pi_tupK (K := K) rfl (pv 0)) (blkOk_by (own := [("one", 2)]) (N := N_are_whole) (sc := defScope s_are_whole) (by decide +kernel)) (fun _ _ _ _ _ => (pg_name (i := 2) sc_are_whole.nd rfl (by first | exact Or.inl rfl | exact Or.inr rfl))) (fun _ _ _ _ _ => pts_nil) (fun _ _ _ _ _ => (pe_def G_is_whole (hr.mono (by decide)) (by rfl) (pa_cons (pv 2) pa_nil)))) pa_nil)))))), body_okU h (fun ds μ Φ p => ?_)⟩
  (try dsimp only [cxOf, Cx.nox, Cx.wish, List.map_cons, List.map_nil])
  obtain ⟨d, m, rfl, hk, hx, q⟩ := p
  show AS K _ [some _, some _, none] _ _
  walk_at "go"
  refine ⟨d, m, m, rfl, hk, ?_⟩
  by_cases hr : ir d m m = true
  · cases d with
    | tup xs =>
      obtain ⟨h1, h2⟩ := hx xs rfl
      have hl : (xs.length : Int) = m := by
        simp only [ir, Bool.and_eq_true, decide_eq_true_eq] at hr
        omega
      rw [hr]
      walk_at "go"
      refine a_lc1 (fun x => .bl (wh x)) (fun _ => true) (ai_T ?_)
      walk_at "go"
      refine ⟨by have := sizeLine_eq; omega, fun x hx => at_yes ⟨rfl, rfl⟩, fun x hx _ => ?_, fun l hl2 => ?_⟩
      · walk_at "nf"
        walk_at "go"
        exact ⟨x, rfl, h2 x hx, rfl, rfl⟩
      · walk_at "go"
        have e : List.map (fun x => D.bl (wh x)) (List.filter (fun _ => true) xs) = (xs.map wh).map D.bl := by
          rw [List.filter_eq_self.mpr (fun _ _ => rfl), List.map_map]; rfl
        rw [e]
        refine rc_all set_same ?_
        refine up_of (sub_new Sub.refl hl2) ?_
        have e2 : (xs.map wh).all id = xs.all wh := by rw [List.all_map]; rfl
        rw [e2]
        simp only [aw, hl, decide_true, Bool.true_and] at q
        exact q
    | non => cases hr
    | bl b => cases hr
    | int i => cases hr
    | str s => cases hr
    | ty n => cases hr
    | rol xs => cases hr
    | ref a => cases hr
  · have hf : ir d m m = false := by simpa using hr
    rw [hf]
    walk_at "go"
    refine up ?_
    have e : aw d m = false := by
      cases d <;> first | rfl | skip
      rename_i xs
      simp only [ir, aw] at hf ⊢
      rw [Bool.and_eq_false_iff] at hf ⊢
      left
      rcases hf with h | h <;> (simp only [decide_eq_false_iff_not] at h ⊢; omega)
    rw [e] at q
    exact q
def Kx (μ : M) (d : D) : Prop := Kd μ d ∧ ∀ xs, d = .tup xs → xs.length ≤ 1000 ∧ ∀ x ∈ xs, Kd μ x
def P_is_pin_row : PT3 := fun ds μ Φ => ∃ d w h l, ds = [d, .int w, .int h, .int l] ∧ Kx μ d ∧ Φ (.bl (pr d w h l)) μ
theorem len_is_pin_row (ds : List D) (μ : M) (Φ : D → M → Prop) (h : P_is_pin_row ds μ Φ) : ds.length = 4 := by
  obtain ⟨_, _, _, _, rfl, _⟩ := h
  rfl
def P_are_board : PT3 := fun ds μ Φ => ∃ w h p l s, ds = [w, h, p, l, s] ∧ Kd μ w ∧ Kd μ h ∧ Kd μ p ∧ Kd μ l ∧ Kd μ s ∧ (∀ rows, p = .tup rows → rows.length ≤ 1000 ∧ ∀ r ∈ rows, Kx μ r) ∧ Φ (.bl (ab w h p l s)) μ
theorem len_are_board (ds : List D) (μ : M) (Φ : D → M → Prop) (h : P_are_board ds μ Φ) : ds.length = 5 := by
  obtain ⟨_, _, _, _, _, rfl, _⟩ := h
  rfl
theorem ok_is_pin_row {f : Addr} {fd : FuncData} (F : Fun K "is_pin_row" "is_pin_row" s_is_pin_row f fd) (B : Bs mg) (G_are_whole : Def P w K mg base "are_whole" ["thing", "many"] 2 (spI K P_are_whole)) : FnOk P w K mg base CX0 3 f fd ["thing", "width", "height", "layers"] (spI K P_is_pin_row) := by
  refine F.ok sc_is_pin_row (fun vs H Q E h => spI_len h len_is_pin_row) (fun cdv A outer s H vs Q E hr h => ?_)
  have hu65 := hu65_of hr
  refine ⟨_, (pss_cons (ps_if (pt_not (pt_val (pe_def G_are_whole (hr.mono (by decide)) (by rfl) (pa_cons (pv 0) (pa_cons pe_int pa_nil))))) (pss_one (ps_ret pe_bl)) pss_nil)
      (pss_cons (ps_asg (pv 0) (pg_tup (by rfl) (pgs_cons (pg_name (i := 4) sc_is_pin_row.nd rfl (by first | exact Or.inl rfl | exact Or.inr rfl)) (pgs_cons (pg_name (i := 5) sc_is_pin_row.nd rfl (by first | exact Or.inl rfl | exact Or.inr rfl)) (pgs_cons (pg_name (i := 6) sc_is_pin_row.nd rfl (by first | exact Or.inl rfl | exact Or.inr rfl)) (pgs_cons (pg_name (i := 7) sc_is_pin_row.nd rfl (by first | exact Or.inl rfl | exact Or.inr rfl)) pgs_nil))))))
      (pss_one (ps_ret (pe_and (pe_chain op_lt op_lt pe_int (pv 4) (pv 1)) (pe_and (pe_chain op_lt op_lt pe_int (pv 5) (pv 2)) (pe_one (pe_chain3 op_le op_le op_lt pe_int (pv 6) (pv 7) (pv 3))))))))), body_ok h (fun ds μ Φ p => ?_)⟩
  (try dsimp only [cxOf, Cx.nox, Cx.wish, List.map_cons, List.map_nil])
  obtain ⟨d, w, h, l, rfl, ⟨hk, hx⟩, q⟩ := p
  show AS K _ [some _, some _, some _, some _, none, none, none, none] _ _
  walk_at "go"
  refine ⟨d, 4, rfl, hk, hx, ?_⟩
  by_cases hw : aw d 4 = true
  · obtain ⟨x, y, f, g, rfl⟩ := aw_four hw
    rw [hw]
    have fin : ∀ b, pr (.tup [.int x, .int y, .int f, .int g]) w h l = b → Φ (.bl b) μ := fun b e => e ▸ q
    walk_at "go"
    refine ite_d (fun h1 => ?_) (fun h1 => ?_)
    rotate_left
    · walk_at "go"
      exact fin _ (by simp [pr, h1])
    walk_at "go"
    refine ite_d (fun h2 => ?_) (fun h2 => ?_)
    rotate_left
    · exact fin _ (by simp [pr, h2])
    walk_at "go"
    refine ite_d (fun h3 => ?_) (fun h3 => ?_)
    rotate_left
    · walk_at "go"
      exact fin _ (by simp [pr, h3])
    walk_at "go"
    refine ite_d (fun h4 => ?_) (fun h4 => ?_)
    rotate_left
    · exact fin _ (by simp [pr, h4])
    walk_at "go"
    refine ite_d (fun h5 => ?_) (fun h5 => ?_)
    rotate_left
    · exact fin _ (by simp [pr, h5])
    walk_at "go"
    refine ite_d (fun h6 => ?_) (fun h6 => ?_)
    rotate_left
    · exact fin _ (by simp [pr, h6])
    walk_at "go"
    exact fin _ (by simp [pr, h1, h2, h3, h4, h5, h6])
  · have hf : aw d 4 = false := by simpa using hw
    rw [hf]
    walk_at "go"
    rw [aw_pr hf] at q
    exact q
theorem ok_are_board {f : Addr} {fd : FuncData} (F : Fun K "are_board" "are_board" s_are_board f fd) (B : Bs mg) (V_MOST : Cst mg "MOST" (.int 1000000)) (V_MOST_LAYERS : Cst mg "MOST_LAYERS" (.int 3)) (V_MOST_PINS : Cst mg "MOST_PINS" (.int 16)) (G_is_pin_row : Def P w K mg base "is_pin_row" ["thing", "width", "height", "layers"] 3 (spI K P_is_pin_row)) (G_is_row : Def P w K mg base "is_row" ["thing", "least", "most"] 1 (spI K P_is_row)) (G_is_within : Def P w K mg base "is_within" ["thing", "least", "most"] 2 (spI K P_is_within)) : FnOk P w K mg base CX0 4 f fd ["width", "height", "pins", "layers", "spacing"] (spI K P_are_board) := by
  refine F.ok sc_are_board (fun vs H Q E h => spI_len h len_are_board) (fun cdv A outer s H vs Q E hr h => ?_)
  have hu65 := hu65_of hr
  refine ⟨_, (pss_cons (ps_if (PW.pt (pw_or (pt_not (pt_val (pe_def G_is_within (hr.mono (by decide)) (by rfl) (pa_cons (pv 0) (pa_cons pe_int (pa_cons (pe_cst V_MOST (by rfl)) pa_nil)))))) (pw_or (pt_not (pt_val (pe_def G_is_within (hr.mono (by decide)) (by rfl) (pa_cons (pv 1) (pa_cons pe_int (pa_cons (pe_cst V_MOST (by rfl)) pa_nil)))))) (pw_or1 (pt_not (pt_val (pe_def G_is_within (hr.mono (by decide)) (by rfl) (pa_cons (pv 3) (pa_cons pe_int (pa_cons (pe_cst V_MOST_LAYERS (by rfl)) pa_nil)))))))))) (pss_one (ps_ret pe_bl)) pss_nil)
      (pss_cons (ps_if (PW.pt (pw_or (pt_not (pt_val (pe_def G_is_within (hr.mono (by decide)) (by rfl) (pa_cons (pv 4) (pa_cons pe_int (pa_cons (pe_cst V_MOST (by rfl)) pa_nil)))))) (pw_or1 (pt_not (pt_val (pe_def G_is_row (hr.mono (by decide)) (by rfl) (pa_cons (pv 2) (pa_cons pe_int (pa_cons (pe_cst V_MOST_PINS (by rfl)) pa_nil))))))))) (pss_one (ps_ret pe_bl)) pss_nil)
      (pss_cons (ps_if (pt_not (pt_val (pe_callB (cr_allK (K := K) rfl rfl) (by rfl) B.b_all (by decide +kernel) (pa_cons (pe_lc (own := [("row", 5)]) (g := gName 5) (tt := tYes) rfl sc_are_board.nd (pi_tupK (K := K) rfl (pv 2)) (blkOk_by (own := [("row", 5)]) (N := N_are_board) (sc := defScope s_are_board) (by decide +kernel)) (fun _ _ _ _ _ => (pg_name (i := 5) sc_are_board.nd rfl (by first | exact Or.inl rfl | exact Or.inr rfl))) (fun _ _ _ _ _ => pts_nil) (fun _ _ _ _ _ => (pe_def G_is_pin_row (hr.mono (by decide)) (by rfl) (pa_cons (pv 5) (pa_cons (pv 0) (pa_cons (pv 1) (pa_cons (pv 3) pa_nil))))))) pa_nil)))) (pss_one (ps_ret pe_bl)) pss_nil)
      (pss_one (ps_ret (pe_cmpR op_eq (pe_callB ST.cr_lenST (by rfl) B.b_len (by decide +kernel) (pa_cons (ST.pe_scT (own := [("x", 6), ("y", 7), ("first", 8), ("last", 9)]) (g := gTup K 4 (gCons (gName 6) (gCons (gName 7) (gCons (gName 8) (gCons (gName 9) gNil))))) (tt := tYes) (hu_of hr) rfl sc_are_board.nd (pi_tupK (K := K) rfl (pv 2)) (blkOk_by (own := [("x", 6), ("y", 7), ("first", 8), ("last", 9)]) (N := N_are_board) (sc := defScope s_are_board) (by decide +kernel)) (fun _ _ _ _ _ => (pg_tup (by rfl) (pgs_cons (pg_name (i := 6) sc_are_board.nd rfl (by first | exact Or.inl rfl | exact Or.inr rfl)) (pgs_cons (pg_name (i := 7) sc_are_board.nd rfl (by first | exact Or.inl rfl | exact Or.inr rfl)) (pgs_cons (pg_name (i := 8) sc_are_board.nd rfl (by first | exact Or.inl rfl | exact Or.inr rfl)) (pgs_cons (pg_name (i := 9) sc_are_board.nd rfl (by first | exact Or.inl rfl | exact Or.inr rfl)) pgs_nil)))))) (fun _ _ _ _ _ => pts_nil) (fun _ _ _ _ _ => (pe_tup (pa_cons (pv 6) (pa_cons (pv 7) pa_nil))))) pa_nil)) (pe_callB (call_lenK (K := K) rfl) (by rfl) B.b_len (by decide +kernel) (pa_cons (pv 2) pa_nil)) (by first | exact nomark _ | rfl))))))), body_okU h (fun ds μ Φ p => ?_)⟩
  (try dsimp only [cxOf, Cx.nox, Cx.wish, List.map_cons, List.map_nil])
  obtain ⟨w, h, p, l, s, rfl, kw, kh, kp, kl, ks, kr, q⟩ := p
  show AS K _ [some _, some _, some _, some _, some _, none, none, none, none, none] _ _
  have fin : ∀ b, ab w h p l s = b → Φ (.bl b) μ := fun b e => e ▸ q
  walk_at "go"
  refine ⟨w, 2, 1000000, rfl, kw, _, rfl, ?_⟩
  by_cases h1 : wi w 2 1000000 = true
  rotate_left
  · have f1 : wi w 2 1000000 = false := by simpa using h1
    rw [f1]
    walk_at "go"
    exact up (fin _ (by simp [ab, f1]))
  rw [h1]
  walk_at "go"
  refine ⟨h, 2, 1000000, rfl, kh, _, rfl, ?_⟩
  by_cases h2 : wi h 2 1000000 = true
  rotate_left
  · have f1 : wi h 2 1000000 = false := by simpa using h2
    rw [f1]
    walk_at "go"
    exact up (fin _ (by simp [ab, f1]))
  rw [h2]
  walk_at "go"
  refine ⟨l, 1, 3, rfl, kl, _, rfl, ?_⟩
  by_cases h3 : wi l 1 3 = true
  rotate_left
  · have f1 : wi l 1 3 = false := by simpa using h3
    rw [f1]
    walk_at "go"
    exact up (fin _ (by simp [ab, f1]))
  rw [h3]
  walk_at "go"
  refine ⟨s, 1, 1000000, rfl, ks, _, rfl, ?_⟩
  by_cases h4 : wi s 1 1000000 = true
  rotate_left
  · have f1 : wi s 1 1000000 = false := by simpa using h4
    rw [f1]
    walk_at "go"
    exact up (fin _ (by simp [ab, f1]))
  rw [h4]
  walk_at "go"
  obtain ⟨wn, rfl, _⟩ := wi_int h1
  obtain ⟨hn, rfl, _⟩ := wi_int h2
  obtain ⟨ln, rfl, _⟩ := wi_int h3
  refine ⟨p, 0, 16, rfl, kp, _, rfl, ?_⟩
  by_cases h5 : ir p 0 16 = true
  rotate_left
  · have f1 : ir p 0 16 = false := by simpa using h5
    rw [f1]
    walk_at "go"
    refine up (fin _ ?_)
    cases p <;> first | (simp [ab]; done) | skip
    rename_i rows
    simp only [ir] at f1
    have : ¬ rows.length ≤ 16 := by
      intro hh
      simp at f1
      omega
    simp [ab, this]
  rw [h5]
  walk_at "go"
  obtain ⟨rows, rfl, hl⟩ : ∃ rows, p = .tup rows ∧ rows.length ≤ 16 := by
    cases p <;> first | (simp [ir] at h5; done) | skip
    rename_i rows
    refine ⟨rows, rfl, ?_⟩
    simp [ir] at h5
    omega
  obtain ⟨_, kr⟩ := kr rows rfl
  have hz : rows.length < 63 := by omega
  refine a_lc1 (fun r => .bl (pr r wn hn ln)) (fun _ => true) (ai_T ?_)
  walk_at "go"
  refine ⟨by have := sizeLine_eq; omega, fun x hx => at_yes ⟨rfl, rfl⟩, fun x hx _ => ?_, fun l2 hl2 => ?_⟩
  · walk_at "nf"
    walk_at "go"
    exact ⟨x, wn, hn, ln, rfl, kr x hx, rfl, rfl⟩
  walk_at "go"
  have e1 : List.map (fun r => D.bl (pr r wn hn ln)) (List.filter (fun _ => true) rows) = (rows.map fun r => pr r wn hn ln).map D.bl := by
    rw [List.filter_eq_self.mpr (fun _ _ => rfl), List.map_map]; rfl
  rw [e1]
  refine rc_all set_same ?_
  have e2 : (rows.map fun r => pr r wn hn ln).all id = rows.all fun r => pr r wn hn ln := by rw [List.all_map]; rfl
  rw [e2]
  by_cases h6 : (rows.all fun r => pr r wn hn ln) = true
  rotate_left
  · have f1 : (rows.all fun r => pr r wn hn ln) = false := by simpa using h6
    rw [f1]
    refine ⟨_, rfl, ?_⟩
    walk_at "go"
    exact up_of (sub_new Sub.refl hl2) (fin _ (by simp only [ab, f1, Bool.and_false, Bool.false_and]))
  rw [h6]
  refine ⟨_, rfl, ?_⟩
  walk_at "go"
  have hs : ∀ r ∈ rows, ∃ x y f g : Int, r = .tup [.int x, .int y, .int f, .int g] := fun r hr => by
    obtain ⟨x, y, f, g, e, _⟩ := pr_int (List.all_eq_true.mp h6 r hr)
    exact ⟨x, y, f, g, e⟩
  refine ai_T ?_
  walk_at "go"
  refine ⟨spot, hz, fun r hr => ?_, fun n hn2 => ?_⟩
  · obtain ⟨x, y, f, g, rfl⟩ := hs r hr
    refine ⟨_, ⟨rfl, rfl⟩, rfl, ?_⟩
    walk_at "nf"
    walk_at "go"
    exact ⟨rfl, rfl⟩
  walk_at "go"
  refine up_of (sub_new Sub.refl hl2) (fin _ ?_)
  by_cases h7 : (rows.map spot).Nodup
  · have e := num_all h7 hn2
    rw [List.length_map] at e
    simp only [ab, h1, h2, h3, h4, h6, h7, hl, decide_true, Bool.and_true, e]
  · have e := num_some h7 hn2
    rw [List.length_map] at e
    have e8 : ¬ ((n : Int) = rows.length) := by omega
    simp only [ab, h1, h2, h3, h4, h6, h7, hl, decide_true, Bool.and_true, decide_false, Bool.and_false, e8]
abbrev R4 := Int × Int × Int × Int
abbrev encR (r : R4) : D := .tup [.int r.1, .int r.2.1, .int r.2.2.1, .int r.2.2.2]
/-- where the pins of a board are -/
def spots (w h : Int) (rows : List R4) : List (Int × Int) := [(0, 0), (w, 0), (w, h), (0, h)] ++ rows.map fun r => (r.1, r.2.1)
abbrev encS (p : Int × Int) : D := pt p.1 p.2
/-- a board stands at b -/
def Brd (C : Addr) (μ : M) (b : Addr) (w h : Int) (rows : List R4) (l s : Int) (sp kg kt : Addr) : Prop := ∃ dx,
  μ b = some (.ins C dx [("wide", .int w), ("high", .int h), ("pin_rows", .tup (rows.map encR)), ("layer_count", .int l), ("apart_by", .int s), ("spots", .ref sp), ("kept_gates", .ref kg), ("kept_triangles", .ref kt)]) ∧
  μ sp = some (.lst ((spots w h rows).map encS)) ∧ μ kg = some (.dK []) ∧ μ kt = some (.dK [])
def P_board_init (C : Addr) : PT4 := fun ds μ Φ Ξ => ∃ b dx w h p l s, ds = [.ref b, w, h, p, l, s] ∧ μ b = some (.ins C dx []) ∧ Kd μ w ∧ Kd μ h ∧ Kd μ p ∧ Kd μ l ∧ Kd μ s ∧ (∀ rows, p = .tup rows → rows.length ≤ 1000 ∧ ∀ r ∈ rows, Kx μ r) ∧
  (∀ wn hn rows ln sn, ab w h p l s = true → w = .int wn → h = .int hn → p = .tup (rows.map encR) → l = .int ln → s = .int sn → ∀ μ' sp kg kt, SubB b μ μ' → μ sp = none → μ kg = none → μ kt = none → Brd C μ' b wn hn rows ln sn sp kg kt → Φ .non μ') ∧ (ab w h p l s = false → Ξ "NoBoard" none μ)
theorem len_board_init (C : Addr) (ds : List D) (μ : M) (Φ : D → M → Prop) (Ξ : XW) (h : P_board_init C ds μ Φ Ξ) : ds.length = 6 := by
  obtain ⟨_, _, _, _, _, _, _, rfl, _⟩ := h
  rfl
theorem rows_of {w h l : Int} : ∀ {ds : List D}, (ds.all fun r => pr r w h l) = true → ∃ rows : List R4, ds = rows.map encR
  | [], _ => ⟨[], rfl⟩
  | d :: ds, h => by
    rw [List.all_cons, Bool.and_eq_true] at h
    obtain ⟨x, y, f, g, e, _⟩ := pr_int h.1
    obtain ⟨rows, e2⟩ := rows_of h.2
    exact ⟨(x, y, f, g) :: rows, by rw [e, e2]; rfl⟩
theorem ab_of {w h p l s : D} (k : ab w h p l s = true) : ∃ (wn hn ln sn : Int) (rows : List R4), w = .int wn ∧ h = .int hn ∧ p = .tup (rows.map encR) ∧ l = .int ln ∧ s = .int sn ∧ rows.length ≤ 16 := by
  simp only [ab, Bool.and_eq_true] at k
  obtain ⟨⟨⟨⟨h1, h2⟩, h3⟩, h4⟩, h5⟩ := k
  obtain ⟨wn, rfl, _⟩ := wi_int h1
  obtain ⟨hn, rfl, _⟩ := wi_int h2
  obtain ⟨ln, rfl, _⟩ := wi_int h3
  obtain ⟨sn, rfl, _⟩ := wi_int h4
  cases p <;> first | (simp at h5; done) | skip
  rename_i ds
  simp only [Bool.and_eq_true, decide_eq_true_eq] at h5
  obtain ⟨rows, e⟩ := rows_of h5.1.2
  exact ⟨wn, hn, ln, sn, rows, rfl, rfl, by rw [e], rfl, rfl, by rw [e, List.length_map] at h5; exact h5.1.1⟩
def xyOf : D → D
  | .tup (x :: y :: _) => .tup [x, y]
  | _ => .non
theorem ok_board_init {f : Addr} {fd : FuncData} {kws : List (Str × V)} (F : FunD K "__init__" "Board.__init__" (defArgs s_board_init) (defBody s_board_init) (defScope s_board_init) [] kws f fd) (B : Bs mg) {C_Board : Addr} (K_Board : Cl_Board K C_Board) {C_NoBoard : Addr} (E_NoBoard : Exc0 K mg "NoBoard" C_NoBoard) (G_are_board : Def P w K mg base "are_board" ["width", "height", "pins", "layers", "spacing"] 4 (spI K P_are_board)) : FnOk P w K mg base (L2.CX P w) 6 f fd ["self", "width", "height", "pins", "layers", "spacing"] (spX K (xn mg) (P_board_init C_Board)) := by
  refine F.ok (CX := L2.CX P w) sc_board_init (fun vs H Q E h => spX_len h (len_board_init C_Board)) (fun cdv A outer s H vs Q E hr h => ?_)
  have hu65 := hu65_of hr
  refine ⟨_, (pss_cons (ps_if (pt_not (pt_val (pe_def G_are_board (hr.mono (by decide)) (by rfl) (pa_cons (pv 1) (pa_cons (pv 2) (pa_cons (pv 3) (pa_cons (pv 4) (pa_cons (pv 5) pa_nil)))))))) (pss_one (ps_raise rfl (takes_of rfl rfl rfl rfl) (pmk_e0 E_NoBoard (by rfl)))) pss_nil)
      (pss_cons (ps_asg (pe_tup (pa_cons (pv 1) (pa_cons (pv 2) pa_nil))) (pg_tup (by rfl) (pgs_cons (pg_fldK (K := K) rfl (pv 0)) (pgs_cons (pg_fldK (K := K) rfl (pv 0)) pgs_nil))))
      (pss_cons (ps_fldK (K := K) rfl (pv 0) (pv 3) rfl)
      (pss_cons (ps_fldK (K := K) rfl (pv 0) (pv 4) rfl)
      (pss_cons (ps_fldK (K := K) rfl (pv 0) (pv 5) rfl)
      (pss_cons (ps_fldK (K := K) rfl (pv 0) (pe_op op_cat (pe_lst (pa_cons (pe_tup (pa_cons pe_int (pa_cons pe_int pa_nil))) (pa_cons (pe_tup (pa_cons (pv 1) (pa_cons pe_int pa_nil))) (pa_cons (pe_tup (pa_cons (pv 1) (pa_cons (pv 2) pa_nil))) (pa_cons (pe_tup (pa_cons pe_int (pa_cons (pv 2) pa_nil))) pa_nil))))) (pe_lc (own := [("row", 6)]) (g := gName 6) (tt := tYes) rfl sc_board_init.nd (pi_tupK (K := K) rfl (pv 3)) (blkOk_by (own := [("row", 6)]) (N := N_board_init) (sc := defScope s_board_init) (by decide +kernel)) (fun _ _ _ _ _ => (pg_name (i := 6) sc_board_init.nd rfl (by first | exact Or.inl rfl | exact Or.inr rfl))) (fun _ _ _ _ _ => pts_nil) (fun _ _ _ _ _ => (pe_tup (pa_cons (pe_ix (ix_seqK (K := K) rfl) (pv 6) pe_int (fun _ _ => rfl)) (pa_cons (pe_ix (ix_seqK (K := K) rfl) (pv 6) pe_int (fun _ _ => rfl)) pa_nil)))))) rfl)
      (pss_cons (ps_fldK (K := K) rfl (pv 0) pe_dnewK rfl)
      (pss_one (ps_fldK (K := K) rfl (pv 0) pe_dnewK rfl))))))))), body_okX h (fun ds μ Φ Ξ p => ?_)⟩
  (try dsimp only [cxOf, Cx.nox, Cx.wish, List.map_cons, List.map_nil])
  obtain ⟨b, dx, w, h, p, l, s, rfl, hb, kw, kh, kp, kl, ks, kr, qy, qn⟩ := p
  show AS K _ [some _, some _, some _, some _, some _, some _, none] _ _
  walk_at "go"
  refine ⟨w, h, p, l, s, rfl, kw, kh, kp, kl, ks, kr, _, rfl, ?_⟩
  by_cases ha : ab w h p l s = true
  rotate_left
  · have hf : ab w h p l s = false := by simpa using ha
    rw [hf]
    walk_at "go"
    exact s_raise0 (x := "NoBoard") (xn_at E_NoBoard.mg) (qn hf)
  obtain ⟨wn, hn, ln, sn, rows, rfl, rfl, rfl, rfl, rfl, hlen⟩ := ab_of ha
  rw [ha]
  walk_at "go"
  refine g_fld ?_
  walk_at "go"
  refine ⟨b, C_Board, dx, _, rfl, hb, K_Board.cls, K_Board.n_wide, Nat.le_of_ble_eq_true rfl, ?_⟩
  walk_at "go"
  refine g_fld ?_
  walk_at "go"
  refine ⟨b, C_Board, dx, _, rfl, set_same, K_Board.cls, K_Board.n_high, Nat.le_of_ble_eq_true rfl, ?_⟩
  rw [set_set]
  walk_at "go"
  refine s_fld ?_
  walk_at "go"
  refine ⟨b, C_Board, dx, _, rfl, set_same, K_Board.cls, K_Board.n_pin_rows, Nat.le_of_ble_eq_true rfl, ?_⟩
  rw [set_set]
  walk_at "go"
  refine s_fld ?_
  walk_at "go"
  refine ⟨b, C_Board, dx, _, rfl, set_same, K_Board.cls, K_Board.n_layer_count, Nat.le_of_ble_eq_true rfl, ?_⟩
  rw [set_set]
  walk_at "go"
  refine s_fld ?_
  walk_at "go"
  refine ⟨b, C_Board, dx, _, rfl, set_same, K_Board.cls, K_Board.n_apart_by, Nat.le_of_ble_eq_true rfl, ?_⟩
  rw [set_set]
  walk_at "go"
  refine s_fld ?_
  walk_at "go"
  intro l1 hl1
  have ne1 := none_ne hl1
  walk_at "go"
  refine a_lc1 xyOf (fun _ => true) (ai_T ?_)
  walk_at "go"
  refine ⟨by rw [List.length_map]; have := sizeLine_eq; omega, fun x hx => at_yes ⟨rfl, rfl⟩, fun x hx _ => ?_, fun l2 hl2 => ?_⟩
  · obtain ⟨r, _, rfl⟩ := List.mem_map.mp hx
    walk_at "nf"
    walk_at "go"
    exact ⟨rfl, rfl⟩
  walk_at "go"
  have e2 : List.map xyOf (List.filter (fun _ => true) (rows.map encR)) = rows.map fun r => pt r.1 r.2.1 := by
    rw [List.filter_eq_self.mpr (fun _ _ => rfl), List.map_map]; rfl
  rw [e2]
  have ne2 := none_ne hl2
  have ne3 := none_ne (none_back hl2)
  refine ro_cat (by walk_at "mu") (by walk_at "mu") (by rw [List.length_map]; have := sizeLine_eq; simp only [List.length_cons, List.length_nil]; omega) fun l3 hl3 => ?_
  have ne4 := none_ne hl3
  have ne5 := none_ne (none_back hl3)
  have ne6 := none_ne (none_back (none_back hl3))
  walk_at "go"
  refine ⟨b, C_Board, dx, _, rfl, by walk_at "mu", K_Board.cls, K_Board.n_spots, Nat.le_of_ble_eq_true rfl, ?_⟩
  walk_at "go"
  refine s_fld ?_
  refine a_dnewK fun kg hkg => ?_
  walk_at "go"
  have nk1 := none_ne hkg
  have nk2 := none_ne (none_back hkg)
  have nk3 := none_ne (none_back (none_back hkg))
  have nk4 := none_ne (none_back (none_back (none_back hkg)))
  refine ⟨b, C_Board, dx, _, rfl, by walk_at "mu", K_Board.cls, K_Board.n_kept_gates, Nat.le_of_ble_eq_true rfl, ?_⟩
  walk_at "go"
  refine s_fld ?_
  refine a_dnewK fun kt hkt => ?_
  walk_at "go"
  have nt1 := none_ne hkt
  have nt2 := none_ne (none_back hkt)
  have nt3 := none_ne (none_back (none_back hkt))
  have nt4 := none_ne (none_back (none_back (none_back hkt)))
  have nt5 := none_ne (none_back (none_back (none_back (none_back hkt))))
  refine ⟨b, C_Board, dx, _, rfl, by walk_at "mu", K_Board.cls, K_Board.n_kept_triangles, Nat.le_of_ble_eq_true rfl, ?_⟩
  have e3 : (spots wn hn rows).map encS = [D.tup [D.int 0, D.int 0], D.tup [D.int wn, D.int 0], D.tup [D.int wn, D.int hn], D.tup [D.int 0, D.int hn]] ++ List.map (fun r => pt r.1 r.2.1) rows := by
    unfold spots; rw [List.map_append, List.map_map]; rfl
  refine qy wn hn rows ln sn ha rfl rfl rfl rfl rfl _ l3 kg kt ?_ ?_ ?_ ?_ ⟨dx, ?_, ?_, ?_, ?_⟩
  · exact sb_self (sb_new (sb_self (sb_new (sb_self (sb_new (sb_new (sb_new (sb_self sb_refl) hl1) hl2) hl3)) hkg)) hkt)
  · exact none_back (none_back (none_back hl3))
  · exact none_back (none_back (none_back (none_back (none_back hkg))))
  · exact none_back (none_back (none_back (none_back (none_back (none_back (none_back hkt))))))
  · exact set_same
  · rw [e3]
    have n1 : l3 ≠ b := by assumption
    walk_at "mu"
  · walk_at "mu"
  · walk_at "mu"
def P_board_look_pin (C : Addr) : PT4 := fun ds μ Φ Ξ => ∃ b d w h rows l s sp kg kt, ds = [.ref b, d] ∧ Brd C μ b w h rows l s sp kg kt ∧ Kd μ d ∧ (wi d 0 (rows.length + 3) = true → Φ .non μ) ∧
  (wi d 0 (rows.length + 3) = false → ∀ dx, μ dx = none → Ξ "NoPin" (some dx) (μ.set dx (.xd [("pin", d)])))
theorem len_board_look_pin (C : Addr) (ds : List D) (μ : M) (Φ : D → M → Prop) (Ξ : XW) (h : P_board_look_pin C ds μ Φ Ξ) : ds.length = 2 := by
  obtain ⟨_, _, _, _, _, _, _, _, _, _, rfl, _⟩ := h
  rfl
theorem ok_board_look_pin {f : Addr} {fd : FuncData} (F : Fun K "look_pin" "Board.look_pin" s_board_look_pin f fd) (B : Bs mg) {C_Board : Addr} (K_Board : Cl_Board K C_Board) {C_NoPin : Addr} (E_NoPin : Exc1 P w K mg base "NoPin" "pin" C_NoPin) (G_is_within : Def P w K mg base "is_within" ["thing", "least", "most"] 2 (spI K P_is_within)) : FnOk P w K mg base (L2.CX P w) 4 f fd ["self", "number"] (spX K (xn mg) (P_board_look_pin C_Board)) := by
  refine F.okX sc_board_look_pin (fun vs H Q E h => spX_len h (len_board_look_pin C_Board)) (fun cdv A outer s H vs Q E hr h => ?_)
  have hu65 := hu65_of hr
  refine ⟨_, (pss_one (ps_if (pt_not (pt_val (pe_def G_is_within (hr.mono (by decide)) (by rfl) (pa_cons (pv 1) (pa_cons pe_int (pa_cons (pe_op op_sub (pe_callB (call_lenK (K := K) rfl) (by rfl) B.b_len (by decide +kernel) (pa_cons (pe_fldK (K := K) rfl (pv 0) rfl) pa_nil)) pe_int) pa_nil)))))) (pss_one (ps_raise rfl (takes_of rfl rfl rfl rfl) (pmk_e1 E_NoPin (hr.mono (by decide)) (by rfl) (pa_cons (pv 1) pa_nil)))) pss_nil)), body_okX h (fun ds μ Φ Ξ p => ?_)⟩
  (try dsimp only [cxOf, Cx.nox, Cx.wish, List.map_cons, List.map_nil])
  obtain ⟨b, d, w, h, rows, l, s, sp, kg, kt, rfl, ⟨dx, hb, hsp, hkg, hkt⟩, kd, qy, qn⟩ := p
  show AS K _ [some _, some _] _ _
  walk_at "go"
  refine a_fld ?_
  walk_at "go"
  refine ⟨b, C_Board, dx, _, rfl, hb, K_Board.cls, K_Board.n_spots, _, rfl, ?_⟩
  walk_at "go"
  have el : ((List.map encS (spots w h rows)).length : Int) - 1 = rows.length + 3 := by
    unfold spots
    simp only [List.length_map, List.length_append, List.length_cons, List.length_nil]
    omega
  rw [el]
  refine ⟨d, _, _, rfl, kd, _, rfl, ?_⟩
  by_cases hd : wi d 0 (rows.length + 3) = true
  · rw [hd]
    walk_at "go"
    exact qy hd
  · have hf : wi d 0 (rows.length + 3) = false := by simpa using hd
    rw [hf]
    walk_at "go"
    refine s_raise1 (x := "NoPin") (xn_at E_NoPin.mg) ?_
    walk_at "go"
    exact fun dx hdx => qn hf dx hdx
def P_board_room (C : Addr) : PT4 := fun ds μ Φ Ξ => ∃ b p q w h rows l s sp kg kt, ds = [.ref b, p, q] ∧ Brd C μ b w h rows l s sp kg kt ∧ (0 < s ∧ s ≤ 1000000) ∧ Kd μ p ∧ Kd μ q ∧
  (∀ i j (a c : Int × Int), p = .int i → q = .int j → 0 ≤ i → 0 ≤ j → (spots w h rows)[i.toNat]? = some a → (spots w h rows)[j.toNat]? = some c → (Sz 60 a.1 ∧ Sz 60 a.2 ∧ Sz 60 c.1 ∧ Sz 60 c.2) ∧ Φ (.int (rm s a c)) μ) ∧
  (wi p 0 (rows.length + 3) = false → ∀ dx, μ dx = none → Ξ "NoPin" (some dx) (μ.set dx (.xd [("pin", p)]))) ∧
  (wi p 0 (rows.length + 3) = true → wi q 0 (rows.length + 3) = false → ∀ dx, μ dx = none → Ξ "NoPin" (some dx) (μ.set dx (.xd [("pin", q)])))
theorem len_board_room (C : Addr) (ds : List D) (μ : M) (Φ : D → M → Prop) (Ξ : XW) (h : P_board_room C ds μ Φ Ξ) : ds.length = 3 := by
  obtain ⟨_, _, _, _, _, _, _, _, _, _, _, rfl, _⟩ := h
  rfl
theorem spots_len {w h : Int} {rows : List R4} : (spots w h rows).length = rows.length + 4 := by
  unfold spots
  simp only [List.length_map, List.length_append, List.length_cons, List.length_nil]
  omega
theorem ok_board_room {f : Addr} {fd : FuncData} (F : Fun K "room" "Board.room" s_board_room f fd) (B : Bs mg) {C_Board : Addr} (K_Board : Cl_Board K C_Board) (G_board_look_pin : Mth P w K mg base C_Board "look_pin" ["self", "number"] 4 (spX K (xn mg) (P_board_look_pin C_Board))) : FnOk P w K mg base (L2.CX P w) 5 f fd ["self", "one", "other"] (spX K (xn mg) (P_board_room C_Board)) := by
  refine F.okX sc_board_room (fun vs H Q E h => spX_len h (len_board_room C_Board)) (fun cdv A outer s H vs Q E hr h => ?_)
  have hu65 := hu65_of hr
  refine ⟨_, (pss_cons (ps_expr (pe_mthX (takes_of rfl rfl rfl rfl) G_board_look_pin (hr.mono (by decide)) (pv 0) (pa_cons (pv 1) pa_nil)))
      (pss_cons (ps_expr (pe_mthX (takes_of rfl rfl rfl rfl) G_board_look_pin (hr.mono (by decide)) (pv 0) (pa_cons (pv 2) pa_nil)))
      (pss_cons (ps_par (i := 3) (j := 4) rfl sc_board_room.nd rfl rfl (by decide) rfl rfl (pa_cons (pe_ix (ix_seqK (K := K) rfl) (pe_fldK (K := K) rfl (pv 0) rfl) (pv 1) (fun _ _ => rfl)) (pa_cons (pe_ix (ix_seqK (K := K) rfl) (pe_fldK (K := K) rfl (pv 0) rfl) (pv 2) (fun _ _ => rfl)) pa_nil)) (by rfl))
      (pss_one (ps_ret (pe_callB (call_max2 rfl) (by rfl) B.b_max (by decide +kernel) (pa_cons pe_int (pa_cons (pe_op op_sub (pe_op op_fdivW (pe_callB (call_max2 rfl) (by rfl) B.b_max (by decide +kernel) (pa_cons (pe_callB call_abs (by rfl) B.b_abs (by decide +kernel) (pa_cons (pe_op op_sub (pe_ix (ix_seqK (K := K) rfl) (pv 4) pe_int (fun _ _ => rfl)) (pe_ix (ix_seqK (K := K) rfl) (pv 3) pe_int (fun _ _ => rfl))) pa_nil)) (pa_cons (pe_callB call_abs (by rfl) B.b_abs (by decide +kernel) (pa_cons (pe_op op_sub (pe_ix (ix_seqK (K := K) rfl) (pv 4) pe_int (fun _ _ => rfl)) (pe_ix (ix_seqK (K := K) rfl) (pv 3) pe_int (fun _ _ => rfl))) pa_nil)) pa_nil))) (pe_fldK (K := K) rfl (pv 0) rfl)) pe_int) pa_nil)))))))), body_okX h (fun ds μ Φ Ξ p => ?_)⟩
  (try dsimp only [cxOf, Cx.nox, Cx.wish, List.map_cons, List.map_nil])
  obtain ⟨b, p, q, w, h, rows, l, s, sp, kg, kt, rfl, ⟨dx, hb, hsp, hkg, hkt⟩, hs, kp, kq, qy, q1, q2⟩ := p
  have BR : Brd C_Board μ b w h rows l s sp kg kt := ⟨dx, hb, hsp, hkg, hkt⟩
  show AS K _ [some _, some _, some _, none, none] _ _
  walk_at "go"
  refine ⟨b, dx, _, rfl, hb, rfl, ?_⟩
  walk_at "go"
  refine ⟨b, p, w, h, rows, l, s, sp, kg, kt, rfl, BR, kp, fun h1 => ?_, fun h1 => q1 h1⟩
  walk_at "go"
  walk_at "go"
  refine ⟨b, dx, _, rfl, hb, rfl, ?_⟩
  walk_at "go"
  refine ⟨b, q, w, h, rows, l, s, sp, kg, kt, rfl, BR, kq, fun h2 => ?_, fun h2 => q2 h1 h2⟩
  obtain ⟨i, rfl, i0, i1⟩ := wi_int h1
  obtain ⟨j, rfl, j0, j1⟩ := wi_int h2
  have hi : i.toNat < (spots w h rows).length := by rw [spots_len]; omega
  have hj : j.toNat < (spots w h rows).length := by rw [spots_len]; omega
  obtain ⟨⟨z1, z2, z3, z4⟩, q⟩ := qy i j _ _ rfl rfl i0 j0 (List.getElem?_eq_getElem hi) (List.getElem?_eq_getElem hj)
  generalize ea : (spots w h rows)[i.toNat] = a at *
  generalize ec : (spots w h rows)[j.toNat] = c at *
  have g1 : atI ((spots w h rows).map encS) i = some (encS a) := atI_map i0 (by rw [← ea]; exact List.getElem?_eq_getElem hi)
  have g2 : atI ((spots w h rows).map encS) j = some (encS c) := atI_map j0 (by rw [← ec]; exact List.getElem?_eq_getElem hj)
  have zs : Sz 31 s := by unfold Sz; omega
  walk_at "go"
  refine a_fld ?_
  walk_at "go"
  refine ⟨b, C_Board, dx, _, rfl, hb, K_Board.cls, K_Board.n_spots, _, rfl, ?_⟩
  walk_at "go"
  refine ro_ix (seq_ref hsp) g1 ?_
  walk_at "go"
  refine a_fld ?_
  walk_at "go"
  refine ⟨b, C_Board, dx, _, rfl, hb, K_Board.cls, K_Board.n_spots, _, rfl, ?_⟩
  walk_at "go"
  refine ro_ix (seq_ref hsp) g2 ?_
  walk_at "go"
  refine a_fld ?_
  walk_at "go"
  refine ⟨b, C_Board, dx, _, rfl, hb, K_Board.cls, K_Board.n_apart_by, _, rfl, ?_⟩
  walk_at "go"
  have fin : ∀ m : Int, m = ((max (c.1 - a.1).natAbs (c.2 - a.2).natAbs : Nat) : Int) → (if m / s - 1 > 0 then m / s - 1 else 0) = rm s a c := fun m e => by
    subst e
    unfold rm
    generalize ((max (c.1 - a.1).natAbs (c.2 - a.2).natAbs : Nat) : Int) / s - 1 = z
    split <;> omega
  refine cast_int (fin _ ?_) q
  by_cases k1 : c.1 - a.1 < 0 <;> by_cases k2 : c.2 - a.2 < 0 <;> simp only [k1, k2, if_true, if_false] <;> split <;> omega
theorem use_cell {μ : M} {Φ : D → M → Prop} {ns : List Int} {k : Int} (h : 0 ≤ k) (q : ∀ z, Φ (.int z) μ) : P_l_cell_at [.rol (ns.map D.int), .int k] μ Φ := ⟨ns, k, rfl, h, q⟩
theorem use_take {μ : M} {Φ : D → M → Prop} {b : Addr} {n c m : Int} (h : μ b = some (.lst [.int c, .int m])) (hm : BgOk m) (hn : 0 < n) (hz : Sz 4000 n) (q : ∀ d c' m', 0 ≤ d → d < n → Sz 4000 d → BgOk m' → Φ (.int d) (μ.set b (.lst [.int c', .int m']))) : P_l_take [.ref b, .int n] μ Φ := ⟨b, n, c, m, rfl, h, hm, hn, hz, q⟩
theorem prime_at {k : Int} (h0 : 0 ≤ k) (h1 : k < 9) : ∃ p : Int, atI [D.int 99991, D.int 99971, D.int 99961, D.int 99929, D.int 99923, D.int 99907, D.int 99901, D.int 99881, D.int 99877] k = some (.int p) ∧ 0 < p := by
  have h : k = 0 ∨ k = 1 ∨ k = 2 ∨ k = 3 ∨ k = 4 ∨ k = 5 ∨ k = 6 ∨ k = 7 ∨ k = 8 := by omega
  rcases h with h | h | h | h | h | h | h | h | h <;> subst h <;> exact ⟨_, rfl, by decide⟩
theorem ok_l_cell_at {f : Addr} {fd : FuncData} (F : Fun K "_law_cell_at" "_law_cell_at" s_l_cell_at f fd) (B : Bs mg) : FnOk P w K mg base CX0 1 f fd ["_law_script", "_law_k"] (spI K P_l_cell_at) := by
  refine F.ok sc_l_cell_at (fun vs H Q E h => spI_len h len_l_cell_at) (fun cdv A outer s H vs Q E hr h => ?_)
  have hu65 := hu65_of hr
  refine ⟨_, (pss_cons (ps_if (pt_cmpR op_lt (pv 1) (pe_callB (call_lenK (K := K) rfl) (by rfl) B.b_len (by decide +kernel) (pa_cons (pv 0) pa_nil)) (by first | exact nomark _ | rfl)) (pss_one (ps_ret (pe_ix (ix_seqK (K := K) rfl) (pv 0) (pv 1) (fun _ _ => rfl)))) pss_nil)
      (pss_one (ps_ret pe_int))), body_ok h (fun ds μ Φ p => ?_)⟩
  (try dsimp only [cxOf, Cx.nox, Cx.wish, List.map_cons, List.map_nil])
  obtain ⟨ns, k, rfl, h0, q⟩ := p
  show AS K _ [some _, some _] _ _
  walk_at "go"
  refine ite_d (fun h => ?_) (fun h => ?_)
  · obtain ⟨z, hz⟩ := map_get (ns := ns) h0 (by simpa using h)
    walk_at "go"
    refine ro_ix rfl hz ?_
    exact q z
  · walk_at "go"
    exact q 0
theorem ok_l_bag {f : Addr} {fd : FuncData} (F : Fun K "_law_bag" "_law_bag" s_l_bag f fd) (B : Bs mg) (G_l_cell_at : Def P w K mg base "_law_cell_at" ["_law_script", "_law_k"] 1 (spI K P_l_cell_at)) : FnOk P w K mg base CX0 2 f fd ["_law_script", "_law_at"] (spI K P_l_bag) := by
  refine F.ok sc_l_bag (fun vs H Q E h => spI_len h len_l_bag) (fun cdv A outer s H vs Q E hr h => ?_)
  have hu65 := hu65_of hr
  refine ⟨_, (pss_cons (ps_set (i := 2) sc_l_bag.nd rfl (by first | exact Or.inl rfl | exact Or.inr rfl) (pe_tup (pa_cons pe_int (pa_cons pe_int (pa_cons pe_int (pa_cons pe_int (pa_cons pe_int (pa_cons pe_int (pa_cons pe_int (pa_cons pe_int (pa_cons pe_int pa_nil)))))))))))
      (pss_cons (ps_set (i := 3) sc_l_bag.nd rfl (by first | exact Or.inl rfl | exact Or.inr rfl) (pe_def G_l_cell_at (hr.mono (by decide)) (by rfl) (pa_cons (pv 0) (pa_cons (pv 1) pa_nil))))
      (pss_cons (ps_set (i := 4) sc_l_bag.nd rfl (by first | exact Or.inl rfl | exact Or.inr rfl) (pe_op op_add (pe_op op_mulW pe_int (pv 1)) pe_int))
      (pss_cons (ps_for PassesOwn.never rfl (pi_range1 (by rfl) B.b_range (pa_cons pe_int pa_nil)) (pg_name (i := 5) sc_l_bag.nd rfl (by first | exact Or.inl rfl | exact Or.inr rfl))
      (pss_cons (ps_set (i := 6) sc_l_bag.nd rfl (by first | exact Or.inl rfl | exact Or.inr rfl) (pe_op op_add (pe_op op_add (pe_op op_mod (pe_def G_l_cell_at (hr.mono (by decide)) (by rfl) (pa_cons (pv 0) (pa_cons (pe_op op_add (pv 1) (pv 5)) pa_nil))) (pe_op op_pow pe_int pe_int)) (pe_op op_mulW pe_int (pv 5))) pe_int))
      (pss_one (ps_set (i := 4) sc_l_bag.nd rfl (by first | exact Or.inl rfl | exact Or.inr rfl) (pe_op op_mod (pe_op op_add (pe_op op_mulW (pv 4) pe_int) (pe_op op_mod (pe_op op_pow (pv 6) pe_int) (pe_ix (ix_seqK (K := K) rfl) (pv 2) (pv 5) (fun _ _ => rfl)))) pe_int)))))
      (pss_cons (ps_if (pt_cmpR op_lt (pv 3) (pe_op op_pow pe_int pe_int) (by first | exact nomark _ | rfl)) (pss_one (ps_set (i := 3) sc_l_bag.nd rfl (by first | exact Or.inl rfl | exact Or.inr rfl) pe_int)) pss_nil)
      (pss_one (ps_ret (pe_lst (pa_cons (pv 3) (pa_cons (pe_op op_add (pv 4) pe_int) pa_nil)))))))))), body_ok h (fun ds μ Φ p => ?_)⟩
  (try dsimp only [cxOf, Cx.nox, Cx.wish, List.map_cons, List.map_nil])
  obtain ⟨ns, k, rfl, h0, h1, q⟩ := p
  show AS K _ [some _, some _, none, none, none, none, none] _ _
  have sk : Sz 31 k := by unfold Sz; omega
  walk_at "go"
  refine use_cell h0 fun cell => ?_
  walk_at "go"
  refine s_for1 9 (fun i τ' μ' => μ' = μ ∧ ∃ (mix : Int) (o5 o6 : Option D), τ' = [some (.rol (ns.map D.int)), some (.int k), some (.tup [D.int 99991, D.int 99971, D.int 99961, D.int 99929, D.int 99923, D.int 99907, D.int 99901, D.int 99881, D.int 99877]), some (.int cell), some (.int mix), o5, o6] ∧ 0 ≤ mix ∧ mix < 2147483629) ?_ ?_ ?_
  · walk_at "go"
    exact ⟨rfl, by decide, by decide, rfl, 7919 * k + 29, none, none, rfl, by omega, by omega⟩
  · rintro i τ' μ' hi ⟨rfl, mix, o5, o6, rfl, m0, m1⟩
    have sm : Sz 31 mix := by unfold Sz; omega
    have si : Sz 31 (i : Int) := by unfold Sz; omega
    obtain ⟨pr, hp, hp0⟩ := prime_at (k := (i : Int)) (by omega) hi
    walk_at "go"
    refine use_cell (by omega) fun z => ?_
    walk_at "go"
    refine ro_ix rfl hp ?_
    walk_at "go"
    exact ⟨rfl, _, _, _, rfl, Int.emod_nonneg _ (by decide), Int.emod_lt_of_pos _ (by decide)⟩
  · rintro τ' μ' ⟨rfl, mix, o5, o6, rfl, m0, m1⟩
    walk_at "go"
    refine ite_d (fun h => ?_) (fun h => ?_)
    · walk_at "go"
      exact fun a ha => q a _ _ ha ⟨by omega, by omega⟩
    · walk_at "go"
      exact fun a ha => q a _ _ ha ⟨by omega, by omega⟩
theorem ok_l_take {f : Addr} {fd : FuncData} (F : Fun K "_law_take" "_law_take" s_l_take f fd) (B : Bs mg) : FnOk P w K mg base CX0 1 f fd ["_law_bag_here", "_law_many"] (spI K P_l_take) := by
  refine F.ok sc_l_take (fun vs H Q E h => spI_len h len_l_take) (fun cdv A outer s H vs Q E hr h => ?_)
  have hu65 := hu65_of hr
  refine ⟨_, (pss_cons (ps_if (pt_cmpR op_gt (pe_ix (ix_seqK (K := K) rfl) (pv 0) pe_int (fun _ _ => rfl)) pe_int (by first | exact nomark _ | rfl)) (pss_cons (ps_set (i := 2) sc_l_take.nd rfl (by first | exact Or.inl rfl | exact Or.inr rfl) (pe_op op_mod (pe_ix (ix_seqK (K := K) rfl) (pv 0) pe_int (fun _ _ => rfl)) (pv 1)))
      (pss_cons (ps_asg (pe_op op_fdivW (pe_ix (ix_seqK (K := K) rfl) (pv 0) pe_int (fun _ _ => rfl)) (pv 1)) (pg_sub (pv 0) pe_int set_list))
      (pss_one (ps_ret (pv 2))))) pss_nil)
      (pss_cons (ps_asg (pe_op op_mod (pe_op op_mulW (pe_ix (ix_seqK (K := K) rfl) (pv 0) pe_int (fun _ _ => rfl)) pe_int) pe_int) (pg_sub (pv 0) pe_int set_list))
      (pss_one (ps_ret (pe_op op_mod (pe_op op_mod (pe_op op_mod (pe_op op_pow (pe_ix (ix_seqK (K := K) rfl) (pv 0) pe_int (fun _ _ => rfl)) pe_int) pe_int) pe_int) (pv 1)))))), body_ok h (fun ds μ Φ p => ?_)⟩
  (try dsimp only [cxOf, Cx.nox, Cx.wish, List.map_cons, List.map_nil])
  obtain ⟨b, n, c, m, rfl, hb, hm, hn, hz, q⟩ := p
  show AS K _ [some _, some _, none] _ _
  have sm : Sz 31 m := by unfold Sz; have := hm.1; have := hm.2; omega
  walk_at "go"
  refine ite_d (fun h => ?_) (fun h => ?_)
  · walk_at "go"
    exact q _ _ _ (Int.emod_nonneg _ (by omega)) (Int.emod_lt_of_pos _ hn) (sz_mod hn hz) hm
  · walk_at "go"
    exact q _ _ _ (Int.emod_nonneg _ (by omega)) (Int.emod_lt_of_pos _ hn) (sz_mod hn hz) ⟨Int.emod_nonneg _ (by decide), by have := Int.emod_lt_of_pos (m * 48271) (show (0 : Int) < 2147483647 by decide); omega⟩
theorem use_bag {μ : M} {Φ : D → M → Prop} {ns : List Int} {k : Int} (h0 : 0 ≤ k) (h1 : k ≤ 1000) (q : ∀ p c m, μ p = none → BgOk m → Φ (.ref p) (μ.set p (.lst [.int c, .int m]))) : P_l_bag [.rol (ns.map D.int), .int k] μ Φ := ⟨ns, k, rfl, h0, h1, q⟩
/-- what a law has drawn for a board -/
structure Made (w h : Int) (rows : List R4) (fl gap : Int) : Prop where
  ok : ab (.int w) (.int h) (.tup (rows.map encR)) (.int fl) (.int gap) = true
  w1 : w ≤ 900000
  h1 : h ≤ 900000
def P_l_made : PT3 := fun ds μ Φ => ∃ (b : Addr) (most c m : Int), ds = [.ref b, .int most] ∧ μ b = some (.lst [.int c, .int m]) ∧ BgOk m ∧ 0 ≤ most ∧ most ≤ 16 ∧ ∀ w h rows fl gap c' m', Made w h rows fl gap → BgOk m' →
  Φ (.tup [.int w, .int h, .tup (rows.map encR), .int fl, .int gap]) (μ.set b (.lst [.int c', .int m']))
theorem len_l_made (ds : List D) (μ : M) (Φ : D → M → Prop) (h : P_l_made ds μ Φ) : ds.length = 2 := by
  obtain ⟨_, _, _, _, rfl, _⟩ := h
  rfl
theorem use_made {μ : M} {Φ : D → M → Prop} {b : Addr} {most c m : Int} (h : μ b = some (.lst [.int c, .int m])) (hm : BgOk m) (h0 : 0 ≤ most) (h1 : most ≤ 16) (q : ∀ w h rows fl gap c' m', Made w h rows fl gap → BgOk m' → Φ (.tup [.int w, .int h, .tup (rows.map encR), .int fl, .int gap]) (μ.set b (.lst [.int c', .int m']))) :
    P_l_made [.ref b, .int most] μ Φ := ⟨b, most, c, m, rfl, h, hm, h0, h1, q⟩
abbrev ent (r : R4) : List Key × D := ([.inl r.1, .inl r.2.1], .tup [.int r.2.2.1, .int r.2.2.2])
theorem ent_none {x y : Int} : ∀ {rows : List R4}, valD (rows.map ent) [.inl x, .inl y] = none → [x, y] ∉ rows.map (fun r => [r.1, r.2.1])
  | [], _, h => by simp at h
  | r :: rows, h, z => by
    rw [List.map_cons, valD_cons] at h
    by_cases e : (ent r).1 = [.inl x, .inl y]
    · rw [if_pos e] at h; cases h
    · rw [if_neg e] at h
      rcases List.mem_cons.mp z with z | z
      · simp only [List.cons.injEq, and_true] at z
        exact e (by simp [ent, z.1, z.2])
      · exact ent_none h z
theorem ent_at : ∀ {rows : List R4} {i : Nat} {r : R4}, (rows.map fun r => [r.1, r.2.1]).Nodup → rows[i]? = some r → valD (rows.map ent) (ent r).1 = some (ent r).2
  | [], i, r, _, h => by simp at h
  | s :: rows, 0, r, _, h => by
    simp at h
    subst h
    rw [List.map_cons, valD_cons, if_pos rfl]
  | s :: rows, i + 1, r, hn, h => by
    rw [List.map_cons, List.nodup_cons] at hn
    have h2 : rows[i]? = some r := by simpa using h
    have ne : ¬ (ent s).1 = (ent r).1 := fun e => by
      simp [ent] at e
      exact hn.1 (List.mem_map.mpr ⟨r, List.mem_of_getElem? h2, by rw [e.1, e.2]⟩)
    rw [List.map_cons, valD_cons, if_neg ne]
    exact ent_at hn.2 h2
/-- the rows so far -/
structure Rws (w h fl : Int) (rows : List R4) : Prop where
  ok : ∀ r ∈ rows, (0 < r.1 ∧ r.1 < w) ∧ (0 < r.2.1 ∧ r.2.1 < h) ∧ 0 ≤ r.2.2.1 ∧ r.2.2.1 ≤ r.2.2.2 ∧ r.2.2.2 < fl
  nd : (rows.map fun r => [r.1, r.2.1]).Nodup
theorem Rws.more {w h fl : Int} {rows : List R4} {x y f g : Int} (a : Rws w h fl rows) (n : [x, y] ∉ rows.map (fun r => [r.1, r.2.1])) (hx : 0 < x ∧ x < w) (hy : 0 < y ∧ y < h) (h0 : 0 ≤ f) (h1 : f ≤ g) (h2 : g < fl) : Rws w h fl (rows ++ [(x, y, f, g)]) := by
  refine ⟨fun r hr => ?_, ?_⟩
  · rcases List.mem_append.mp hr with z | z
    · exact a.ok r z
    · rw [List.mem_singleton.mp z]; exact ⟨hx, hy, h0, h1, h2⟩
  · rw [List.map_append, List.nodup_append]
    refine ⟨a.nd, by simp, fun k hk j hj e => ?_⟩
    simp at hj
    subst hj e
    exact n hk
theorem Rws.made {w h fl gap : Int} {rows : List R4} (a : Rws w h fl rows) (hl : rows.length ≤ 16) (w0 : 2 ≤ w) (w1 : w ≤ 900000) (h0 : 2 ≤ h) (h1 : h ≤ 900000) (f0 : 1 ≤ fl) (f1 : fl ≤ 3) (g0 : 1 ≤ gap) (g1 : gap ≤ 1000000) : Made w h rows fl gap := by
  refine ⟨?_, w1, h1⟩
  have e1 : ((rows.map encR).all fun r => pr r w h fl) = true := by
    rw [List.all_eq_true]
    intro d hd
    obtain ⟨r, hr, rfl⟩ := List.mem_map.mp hd
    obtain ⟨k1, k2, k3, k4, k5⟩ := a.ok r hr
    simp [pr, k1, k2, k3, k4, k5]
  have e2 : ((rows.map encR).map spot).Nodup := by
    rw [List.map_map]
    exact a.nd
  have z1 : w ≤ 1000000 := by omega
  have z2 : h ≤ 1000000 := by omega
  simp only [ab, wi, e1, e2, w0, z1, h0, z2, f0, f1, g0, g1, List.length_map, hl, decide_true, Bool.and_true]
theorem pick3 {d : Int} (h0 : 0 ≤ d) (h1 : d < 3) : ∃ z : Int, atI [D.int 1, D.int 3, D.int 100000] d = some (.int z) ∧ 0 < z ∧ z ≤ 100000 := by
  have h : d = 0 ∨ d = 1 ∨ d = 2 := by omega
  rcases h with h | h | h <;> subst h <;> exact ⟨_, rfl, by decide, by decide⟩
theorem pickD {d : Int} (a c : D) (h0 : 0 ≤ d) (h1 : d < 2) : ∃ z : D, atI [a, c] d = some z ∧ (z = a ∨ z = c) := by
  have h : d = 0 ∨ d = 1 := by omega
  rcases h with h | h <;> subst h
  · exact ⟨a, rfl, .inl rfl⟩
  · exact ⟨c, rfl, .inr rfl⟩
/-- a * d lies below a * n -/
theorem mul_in {a d n : Int} (ha : 0 < a) (h0 : 1 ≤ d) (h1 : d < n) : 0 < a * d ∧ a * d < a * n := ⟨Int.mul_pos ha (by omega), Int.mul_lt_mul_of_pos_left h1 ha⟩
/-- between the turns of _law_made -/
def MdT (b pd : Addr) (μ0 : M) (W H fl : Int) (pre : T) (k : Nat) : T → M → Prop := fun τ' μ' => ∃ (rows : List R4) (c m : Int) (o9 o10 o11 o12 : Option D), μ' b = some (.lst [.int c, .int m]) ∧ BgOk m ∧ μ' pd = some (.dT (rows.map ent)) ∧ SubB b μ0 μ' ∧ rows.length ≤ k ∧ Rws W H fl rows ∧ τ' = pre ++ [some (.ref pd), o9, o10, o11, o12]
/-- within a turn: the place is drawn -/
def MdC (b pd : Addr) (μ0 : M) (W H : Int) (rows : List R4) (pre : T) (i : D) (o11 o12 : Option D) : T → M → Prop := fun τ' μ' => ∃ x y c m : Int, (0 < x ∧ x < W) ∧ (0 < y ∧ y < H) ∧ μ' b = some (.lst [.int c, .int m]) ∧ BgOk m ∧ μ' pd = some (.dT (rows.map ent)) ∧ SubB b μ0 μ' ∧ τ' = pre ++ [some (.ref pd), some i, some (pt x y), o11, o12]
theorem ok_l_made {f : Addr} {fd : FuncData} (F : Fun K "_law_made" "_law_made" s_l_made f fd) (B : Bs mg) (G_l_take : Def P w K mg base "_law_take" ["_law_bag_here", "_law_many"] 1 (spI K P_l_take)) : FnOk P w K mg base CX0 3 f fd ["_law_bag_here", "_law_most"] (spI K P_l_made) := by
  refine F.ok sc_l_made (fun vs H Q E h => spI_len h len_l_made) (fun cdv A outer s H vs Q E hr h => ?_)
  have hu65 := hu65_of hr
  refine ⟨_, (pss_cons (ps_set (i := 2) sc_l_made.nd rfl (by first | exact Or.inl rfl | exact Or.inr rfl) (pe_def G_l_take (hr.mono (by decide)) (by rfl) (pa_cons (pv 0) (pa_cons pe_int pa_nil))))
      (pss_cons (ps_par (i := 3) (j := 4) rfl sc_l_made.nd rfl rfl (by decide) rfl rfl (pa_cons (pe_op op_add pe_int (pe_def G_l_take (hr.mono (by decide)) (by rfl) (pa_cons (pv 0) (pa_cons pe_int pa_nil)))) (pa_cons (pe_op op_add pe_int (pe_def G_l_take (hr.mono (by decide)) (by rfl) (pa_cons (pv 0) (pa_cons pe_int pa_nil)))) pa_nil)) (by rfl))
      (pss_cons (ps_set (i := 5) sc_l_made.nd rfl (by first | exact Or.inl rfl | exact Or.inr rfl) (pe_ix (ix_seqK (K := K) rfl) (pe_lst (pa_cons pe_int (pa_cons pe_int (pa_cons pe_int pa_nil)))) (pe_def G_l_take (hr.mono (by decide)) (by rfl) (pa_cons (pv 0) (pa_cons pe_int pa_nil))) (fun _ _ => rfl)))
      (pss_cons (ps_par (i := 6) (j := 7) rfl sc_l_made.nd rfl rfl (by decide) rfl rfl (pa_cons (pe_op op_add pe_int (pe_def G_l_take (hr.mono (by decide)) (by rfl) (pa_cons (pv 0) (pa_cons (pe_op op_sub (pv 4) pe_int) pa_nil)))) (pa_cons (pe_op op_add pe_int (pe_def G_l_take (hr.mono (by decide)) (by rfl) (pa_cons (pv 0) (pa_cons pe_int pa_nil)))) pa_nil)) (by rfl))
      (pss_cons (ps_set (i := 8) sc_l_made.nd rfl (by first | exact Or.inl rfl | exact Or.inr rfl) pe_dnewT)
      (pss_cons (ps_for PassesOwn.never rfl (pi_range1 (by rfl) B.b_range (pa_cons (pe_def G_l_take (hr.mono (by decide)) (by rfl) (pa_cons (pv 0) (pa_cons (pe_op op_add (pv 1) pe_int) pa_nil))) pa_nil)) (pg_name (i := 9) sc_l_made.nd rfl (by first | exact Or.inl rfl | exact Or.inr rfl))
      (pss_cons (ps_set (i := 10) sc_l_made.nd rfl (by first | exact Or.inl rfl | exact Or.inr rfl) (pe_tup (pa_cons (pe_op op_mulW (pv 5) (pe_op op_add pe_int (pe_def G_l_take (hr.mono (by decide)) (by rfl) (pa_cons (pv 0) (pa_cons (pe_op op_sub (pv 3) pe_int) pa_nil))))) (pa_cons (pe_op op_mulW (pv 5) (pe_op op_add pe_int (pe_def G_l_take (hr.mono (by decide)) (by rfl) (pa_cons (pv 0) (pa_cons (pe_op op_sub (pv 4) pe_int) pa_nil))))) pa_nil))))
      (pss_cons (ps_if (pt_cmpR op_eq (pv 2) pe_int (by first | exact nomark _ | rfl)) (pss_one (ps_set (i := 10) sc_l_made.nd rfl (by first | exact Or.inl rfl | exact Or.inr rfl) (pe_tup (pa_cons (pe_ix (ix_seqK (K := K) rfl) (pv 10) pe_int (fun _ _ => rfl)) (pa_cons (pe_op op_mulW (pv 5) (pv 6)) pa_nil))))) pss_nil)
      (pss_cons (ps_if (pt_cmpR op_eq (pv 2) pe_int (by first | exact nomark _ | rfl)) (pss_one (ps_set (i := 10) sc_l_made.nd rfl (by first | exact Or.inl rfl | exact Or.inr rfl) (pe_tup (pa_cons (pe_op op_add pe_int (pe_def G_l_take (hr.mono (by decide)) (by rfl) (pa_cons (pv 0) (pa_cons (pe_op op_sub (pe_op op_mulW (pv 5) (pv 3)) pe_int) pa_nil)))) (pa_cons (pe_op op_add pe_int (pe_def G_l_take (hr.mono (by decide)) (by rfl) (pa_cons (pv 0) (pa_cons (pe_op op_sub (pe_op op_mulW (pv 5) (pv 4)) pe_int) pa_nil)))) pa_nil))))) pss_nil)
      (pss_cons (ps_if (pt_cmpR op_eq (pv 2) pe_int (by first | exact nomark _ | rfl)) (pss_one (ps_set (i := 10) sc_l_made.nd rfl (by first | exact Or.inl rfl | exact Or.inr rfl) (pe_tup (pa_cons (pe_ix (ix_seqK (K := K) rfl) (pv 10) pe_int (fun _ _ => rfl)) (pa_cons (pe_ix (ix_seqK (K := K) rfl) (pe_lst (pa_cons pe_int (pa_cons (pe_op op_sub (pe_op op_mulW (pv 5) (pv 4)) pe_int) pa_nil))) (pe_def G_l_take (hr.mono (by decide)) (by rfl) (pa_cons (pv 0) (pa_cons pe_int pa_nil))) (fun _ _ => rfl)) pa_nil))))) pss_nil)
      (pss_cons (ps_set (i := 11) sc_l_made.nd rfl (by first | exact Or.inl rfl | exact Or.inr rfl) (pe_op op_mulW (pe_def G_l_take (hr.mono (by decide)) (by rfl) (pa_cons (pv 0) (pa_cons (pv 7) pa_nil))) (pe_def G_l_take (hr.mono (by decide)) (by rfl) (pa_cons (pv 0) (pa_cons pe_int pa_nil)))))
      (pss_one (ps_if (pt_cmp (pc_dnotin (hu_of hr) (pv 10) (pv 8))) (pss_one (ps_dput (hu_of hr) (pv 8) (pv 10) (pe_tup (pa_cons (pv 11) (pa_cons (pe_op op_add (pv 11) (pe_def G_l_take (hr.mono (by decide)) (by rfl) (pa_cons (pv 0) (pa_cons (pe_op op_sub (pv 7) (pv 11)) pa_nil)))) pa_nil))) (by rfl))) pss_nil))))))))
      (pss_cons (ps_set (i := 12) sc_l_made.nd rfl (by first | exact Or.inl rfl | exact Or.inr rfl) (pe_callTy (call_tupleK (K := K) rfl) (by rfl) B.b_tuple (by decide +kernel) (pa_cons (pe_lock (pe_lc (own := [("_law_spot", 10)]) (g := gName 10) (tt := tYes) rfl sc_l_made.nd (pi_keys (pv 8)) (blkOk_by (own := [("_law_spot", 10)]) (N := N_l_made) (sc := defScope s_l_made) (by decide +kernel)) (fun _ _ _ _ _ => (pg_name (i := 10) sc_l_made.nd rfl (by first | exact Or.inl rfl | exact Or.inr rfl))) (fun _ _ _ _ _ => pts_nil) (fun _ _ _ _ _ => (pe_op (op_catAK (K := K) rfl) (pv 10) (pe_dget (hu_of hr) (pv 8) (pv 10) (fun _ _ => rfl)))))) pa_nil)))
      (pss_one (ps_ret (pe_tup (pa_cons (pe_op op_mulW (pv 5) (pv 3)) (pa_cons (pe_op op_mulW (pv 5) (pv 4)) (pa_cons (pv 12) (pa_cons (pv 7) (pa_cons (pe_op op_add pe_int (pe_def G_l_take (hr.mono (by decide)) (by rfl) (pa_cons (pv 0) (pa_cons (pe_ix (ix_seqK (K := K) rfl) (pe_lst (pa_cons pe_int (pa_cons (pv 5) pa_nil))) (pe_def G_l_take (hr.mono (by decide)) (by rfl) (pa_cons (pv 0) (pa_cons pe_int pa_nil))) (fun _ _ => rfl)) pa_nil)))) pa_nil))))))))))))))), body_okU h (fun ds μ Φ p => ?_)⟩
  (try dsimp only [cxOf, Cx.nox, Cx.wish, List.map_cons, List.map_nil])
  obtain ⟨b, most, c, m, rfl, hb, hm, mo0, mo1, q⟩ := p
  show AS K _ [some _, some _, none, none, none, none, none, none, none, none, none, none, none] _ _
  walk_at "go"
  refine use_take hb hm (by decide) (by walk_at "szN") fun way c1 m1 a1 a2 s1 hm1 => ?_
  walk_at "go"
  refine use_take set_same hm1 (by decide) (by walk_at "szN") fun d2 c2 m2 b1 b2 s2 hm2 => ?_
  walk_at "go"
  refine use_take set_same hm2 (by decide) (by walk_at "szN") fun d3 c3 m3 e1 e2 s3 hm3 => ?_
  walk_at "go"
  rw [set_set, set_set]
  generalize hwd : 2 + d2 = wide
  generalize hhi : 2 + d3 = high
  have w0 : 2 ≤ wide ∧ wide ≤ 9 := by omega
  have h0 : 2 ≤ high ∧ high ≤ 9 := by omega
  have zw : Sz 8 wide := by unfold Sz; omega
  have zh : Sz 8 high := by unfold Sz; omega
  intro l hl
  have hlb : l ≠ b := none_ne hl
  walk_at "go"
  refine use_take (by walk_at "mu") hm3 (by decide) (by walk_at "szN") fun d4 c4 m4 f1 f2 s4 hm4 => ?_
  obtain ⟨sc, k1, sc0, sc1⟩ := pick3 f1 f2
  have zs : Sz 20 sc := by unfold Sz; omega
  walk_at "go"
  refine ro_ix (seq_ref (by walk_at "mu")) k1 ?_
  walk_at "go"
  refine use_take (by walk_at "mu") hm4 (by omega) (by walk_at "szN") fun d5 c5 m5 g1 g2 s5 hm5 => ?_
  walk_at "go"
  refine use_take (by walk_at "mu") hm5 (by decide) (by walk_at "szN") fun d6 c6 m6 i1 i2 s6 hm6 => ?_
  walk_at "go"
  generalize hrw : 1 + d5 = rw0
  generalize hfl : 1 + d6 = fl
  have r0 : 1 ≤ rw0 ∧ rw0 < high := by omega
  have f0 : 1 ≤ fl ∧ fl ≤ 3 := by omega
  have zr : Sz 8 rw0 := by unfold Sz; omega
  have zf : Sz 8 fl := by unfold Sz; omega
  refine a_dnewT fun pd hpd => ?_
  walk_at "go"
  have hpb : pd ≠ b := by
    intro z
    subst z
    have := hpd
    simp [set_same] at this
  have hpn : μ pd = none := none_back (none_back (none_back (none_back (none_back hpd))))
  refine s_for (ai_1 ?_)
  walk_at "go"
  refine use_take (by walk_at "mu") hm6 (by omega) (sz_mono (show Sz 8 (most + 1) by unfold Sz; omega) (by decide)) fun d7 c7 m7 j1 j2 s7 hm7 => ?_
  walk_at "go"
  have zsc : Sz 30 (sc * wide) ∧ Sz 30 (sc * high) := ⟨by walk_at "szN", by walk_at "szN"⟩
  have d7m : d7 ≤ most := by omega
  have bw : 2 ≤ sc * wide ∧ sc * wide ≤ 900000 ∧ 2 ≤ sc * high ∧ sc * high ≤ 900000 := by
    have q1 : 1 * wide ≤ sc * wide := Int.mul_le_mul_of_nonneg_right (by omega) (by omega)
    have q2 : sc * wide ≤ 100000 * wide := Int.mul_le_mul_of_nonneg_right sc1 (by omega)
    have q3 : 1 * high ≤ sc * high := Int.mul_le_mul_of_nonneg_right (by omega) (by omega)
    have q4 : sc * high ≤ 100000 * high := Int.mul_le_mul_of_nonneg_right sc1 (by omega)
    omega
  refine ⟨by omega, by omega, MdT b pd μ (sc * wide) (sc * high) fl [some (.ref b), some (.int most), some (.int way), some (.int wide), some (.int high), some (.int sc), some (.int rw0), some (.int fl)], ?_, ?_, ?_⟩
  · exact ⟨[], _, _, none, none, none, none, set_same, hm7, by walk_at "mu", sb_self (sb_new (sb_self (sb_self (sb_self (sb_new (sb_self sb_refl) hl)))) hpd), Nat.zero_le _, ⟨fun r hr => (by cases hr), List.nodup_nil⟩, rfl⟩
  · rintro i it τ' μ' hx ⟨rows, c8, m8, o9, o10, o11, o12, hb8, hm8, hp8, sb8, hl8, R8, rfl⟩
    have hi : i < d7.toNat := by
      have := (List.getElem?_eq_some_iff.mp hx).1
      simpa using this
    clear hx hl
    dsimp only [List.cons_append, List.nil_append]
    walk_at "go"
    refine use_take hb8 hm8 (by omega) (by walk_at "szN") fun d8 c9 m9 t1 t2 t3 hm9 => ?_
    have zd8 : Sz 8 d8 := by unfold Sz; omega
    walk_at "go"
    refine use_take set_same hm9 (by omega) (by walk_at "szN") fun d9 c10 m10 u1 u2 u3 hm10 => ?_
    have zd9 : Sz 8 d9 := by unfold Sz; omega
    walk_at "go"
    have x1 := mul_in (a := sc) (d := 1 + d8) (n := wide) sc0 (by omega) (by omega)
    have x2 := mul_in (a := sc) (d := 1 + d9) (n := high) sc0 (by omega) (by omega)
    have x3 := mul_in (a := sc) (d := rw0) (n := high) sc0 (by omega) (by omega)
    refine if_cut (MdC b pd μ (sc * wide) (sc * high) rows [some (.ref b), some (.int most), some (.int way), some (.int wide), some (.int high), some (.int sc), some (.int rw0), some (.int fl)] it o11 o12) (fun _ => ?_) (fun _ => ?_) ?_
    · walk_at "go"
      exact ⟨_, _, _, _, x1, x3, set_same, hm10, by walk_at "mu", sb_self (sb_self sb8), rfl⟩
    · walk_at "go"
      exact ⟨_, _, _, _, x1, x2, set_same, hm10, by walk_at "mu", sb_self (sb_self sb8), rfl⟩
    clear x1 x2 x3 hb8 hp8 sb8
    rintro τ1 μ1 ⟨x, y, c1, m1, bx, by_, hb1, hm1, hp1, sb1, rfl⟩
    dsimp only [List.cons_append, List.nil_append]
    walk_at "go"
    refine if_cut (MdC b pd μ (sc * wide) (sc * high) rows [some (.ref b), some (.int most), some (.int way), some (.int wide), some (.int high), some (.int sc), some (.int rw0), some (.int fl)] it o11 o12) (fun _ => ?_) (fun _ => ?_) ?_
    · walk_at "go"
      refine use_take hb1 hm1 (by omega) (sz_mono (sz_sub zsc.1 (sz_2 (by decide))) (by decide)) fun e8 c9 m9 t1 t2 t3 hm9 => ?_
      walk_at "go"
      refine use_take set_same hm9 (by omega) (sz_mono (sz_sub zsc.2 (sz_2 (by decide))) (by decide)) fun e9 c10 m10 u1 u2 u3 hm10 => ?_
      walk_at "go"
      exact ⟨_, _, _, _, by omega, by omega, set_same, hm10, by walk_at "mu", sb_self (sb_self sb1), rfl⟩
    · walk_at "go"
      exact ⟨_, _, _, _, bx, by_, hb1, hm1, hp1, sb1, rfl⟩
    clear bx by_ hb1 hm1 hp1 sb1
    rintro τ2 μ2 ⟨x, y, c1, m1, bx, by_, hb1, hm1, hp1, sb1, rfl⟩
    dsimp only [List.cons_append, List.nil_append]
    walk_at "go"
    refine if_cut (MdC b pd μ (sc * wide) (sc * high) rows [some (.ref b), some (.int most), some (.int way), some (.int wide), some (.int high), some (.int sc), some (.int rw0), some (.int fl)] it o11 o12) (fun _ => ?_) (fun _ => ?_) ?_
    · walk_at "go"
      intro l3 hl3
      have hl3b : l3 ≠ b := ne_of_some hl3 hb1
      have hl3p : l3 ≠ pd := ne_of_some hl3 hp1
      walk_at "go"
      refine use_take (by walk_at "mu") hm1 (by decide) (by walk_at "szN") fun e8 c9 m9 t1 t2 t3 hm9 => ?_
      obtain ⟨z, hz, hz2⟩ := pickD (.int 1) (.int (sc * high - 1)) t1 t2
      obtain ⟨yy, rfl, hy⟩ : ∃ yy : Int, z = .int yy ∧ (0 < yy ∧ yy < sc * high) := by
        rcases hz2 with e | e
        · exact ⟨1, e, by omega⟩
        · exact ⟨_, e, by omega⟩
      walk_at "go"
      refine ro_ix (seq_ref (by walk_at "mu")) hz ?_
      walk_at "go"
      exact ⟨_, _, _, _, bx, hy, set_same, hm9, by walk_at "mu", sb_self (sb_new sb1 hl3), rfl⟩
    · walk_at "go"
      exact ⟨_, _, _, _, bx, by_, hb1, hm1, hp1, sb1, rfl⟩
    clear bx by_ hb1 hm1 hp1 sb1
    rintro τ3 μ3 ⟨x, y, c1, m1, bx, by_, hb1, hm1, hp1, sb1, rfl⟩
    dsimp only [List.cons_append, List.nil_append]
    walk_at "go"
    refine use_take hb1 hm1 (by omega) (by walk_at "szN") fun e8 c9 m9 t1 t2 t3 hm9 => ?_
    have ze8 : Sz 8 e8 := by unfold Sz; omega
    walk_at "go"
    refine use_take set_same hm9 (by omega) (by walk_at "szN") fun e9 c10 m10 u1 u2 u3 hm10 => ?_
    have ze9 : Sz 8 e9 := by unfold Sz; omega
    walk_at "go"
    rw [set_set]
    have lo : 0 ≤ e8 * e9 ∧ e8 * e9 ≤ e8 := by
      have h : e9 = 0 ∨ e9 = 1 := by omega
      rcases h with rfl | rfl <;> omega
    have zlo : Sz 8 (e8 * e9) := by unfold Sz; omega
    generalize e8 * e9 = low at lo zlo ⊢
    have hp2 : (μ3.set b (.lst [.int c10, .int m10])) pd = some (.dT (rows.map ent)) := by walk_at "mu"
    refine a_dnotin ?_
    walk_at "go"
    refine ⟨pd, _, rfl, .inr (.inl ⟨_, [.inl x, .inl y], hp2, rfl, rfl⟩), ?_⟩
    refine ⟨_, rfl, ?_⟩
    cases hv : valD (rows.map ent) [.inl x, .inl y] with
    | some v =>
      simp only [Option.isSome_some, Bool.not_true, Bool.false_eq_true, if_false]
      walk_at "go"
      exact ⟨rows, _, _, _, _, _, _, set_same, hm10, hp2, sb_self sb1, by omega, R8, rfl⟩
    | none =>
      simp only [Option.isSome_none, Bool.not_false, if_true]
      refine s_dput ?_
      walk_at "go"
      refine use_take (by walk_at "mu") hm10 (by omega) (by walk_at "szN") fun e10 c11 m11 v1 v2 v3 hm11 => ?_
      have ze10 : Sz 8 e10 := by unfold Sz; omega
      walk_at "go"
      have hp3 : ((μ3.set b (.lst [.int c10, .int m10])).set b (.lst [.int c11, .int m11])) pd = some (.dT (rows.map ent)) := by walk_at "mu"
      refine .inl ⟨_, [.inl x, .inl y], hp3, rfl, ?_, ?_⟩
      · rw [List.length_map]; have := sizeLine_eq; omega
      have hnb : b ≠ pd := Ne.symm hpb
      refine ⟨rows ++ [(x, y, low, low + e10)], c11, m11, _, _, _, _, by walk_at "mu", hm11, ?_, ?_, ?_, ?_, rfl⟩
      · rw [putKD_new hv, List.map_append]
        exact set_same
      · intro a m na ea
        have h1 := sb1 a m na ea
        have np : a ≠ pd := fun z => by rw [z, hpn] at ea; cases ea
        rw [set_ne np, set_ne na, set_ne na]
        exact h1
      · rw [List.length_append]
        simp only [List.length_cons, List.length_nil]
        omega
      · exact R8.more (ent_none hv) bx by_ (by omega) (by omega) (by omega)
  · rintro τ' μ' ⟨rows, c8, m8, o9, o10, o11, o12, hb8, hm8, hp8, sb8, hl8, R8, rfl⟩
    dsimp only [List.cons_append, List.nil_append, id]
    walk_at "go"
    have hl9 : rows.length ≤ d7.toNat := by simpa using hl8
    refine a_lockT hp8 fun od us => ?_
    refine a_lcK tg_name ?_
    walk_at "go"
    refine ⟨pd, od, us, _, rfl, set_same, fun j acc μ2 => μ2 = μ'.set pd (.fT od us (rows.map ent)) ∧ acc = (rows.take j).map encR, ⟨rfl, rfl⟩, ?_, ?_, ?_⟩
    · rintro j acc μ2 ⟨rfl, rfl⟩
      exact set_same
    · rintro j p acc μ2 hj ⟨rfl, rfl⟩
      rw [List.getElem?_map] at hj
      obtain ⟨r, hr, rfl⟩ := Option.map_eq_some_iff.mp hj
      have hat := ent_at R8.nd hr
      refine ⟨_, rfl, rfl, ?_⟩
      refine at_yes ?_
      rw [if_pos rfl]
      walk_at "nf"
      walk_at "go"
      refine a_dget ?_
      walk_at "go"
      refine ⟨pd, _, rfl, .inr (.inr ⟨od, us, _, (ent r).1, set_same, rfl, hat.symm⟩), ?_⟩
      refine ro_catA (Nat.le_of_ble_eq_true rfl) ⟨?_, rfl, ?_⟩
      · rw [List.length_map, List.length_take]; have := sizeLine_eq; omega
      · rw [List.take_add_one, hr, List.map_append]
        rfl
    · rintro acc μ2 ⟨rfl, rfl⟩ l4 hl4
      have hl4p : l4 ≠ pd := none_ne hl4
      refine ⟨by rw [set_ne (Ne.symm hl4p)]; exact set_same, ?_⟩
      have hl4b : l4 ≠ b := ne_of_some (none_back hl4) hb8
      have elen : (rows.map ent).length = rows.length := List.length_map ..
      rw [elen, List.take_length]
      walk_at "go"
      refine rc_tuple (ds := rows.map encR) (seq_ref (by walk_at "mu")) ?_
      walk_at "go"
      intro l5 hl5
      have hnb : b ≠ pd := Ne.symm hpb
      have hl5b : l5 ≠ b := ne_of_some (none_back (none_back (none_back hl5))) hb8
      walk_at "go"
      refine use_take (by walk_at "mu") hm8 (by decide) (by walk_at "szN") fun e8 c9 m9 t1 t2 t3 hm9 => ?_
      obtain ⟨z, hz, hz2⟩ := pickD (.int 3) (.int sc) t1 t2
      obtain ⟨gg, rfl, hg⟩ : ∃ gg : Int, z = .int gg ∧ (1 ≤ gg ∧ gg ≤ 100000) := by
        rcases hz2 with e | e
        · exact ⟨3, e, by omega⟩
        · exact ⟨_, e, by omega⟩
      walk_at "go"
      refine ro_ix (seq_ref (by walk_at "mu")) hz ?_
      walk_at "go"
      refine use_take set_same hm9 (by omega) (sz_mono (show Sz 20 gg by unfold Sz; omega) (by decide)) fun e9 c10 m10 u1 u2 u3 hm10 => ?_
      walk_at "go"
      refine up_of (μ2 := μ.set b (.lst [.int c10, .int m10])) ?_ (q _ _ rows _ _ _ _ (R8.made (by omega) bw.1 bw.2.1 bw.2.2.1 bw.2.2.2 f0.1 f0.2 (by omega) (by omega)) hm10)
      intro a m ea
      by_cases na : a = b
      · subst na
        rw [set_same] at ea ⊢
        exact ea
      · rw [set_ne na] at ea
        have h1 := sb8 a m na ea
        have np : a ≠ pd := fun z => by rw [z, hpn] at ea; cases ea
        have n4 : a ≠ l4 := fun z => by
          have := none_back hl4
          rw [← z, h1] at this; cases this
        have n5 : a ≠ l5 := fun z => by
          have := none_back (none_back (none_back hl5))
          rw [← z, h1] at this; cases this
        rw [set_ne na, set_ne na, set_ne n5, set_ne np, set_ne n4, set_ne np]
        exact h1
def P_l_board (C : Addr) : PT3 := fun ds μ Φ => ∃ w h rows fl gap, ds = [.tup [.int w, .int h, .tup (rows.map encR), .int fl, .int gap]] ∧ ab (.int w) (.int h) (.tup (rows.map encR)) (.int fl) (.int gap) = true ∧
  ∀ μ' b sp kg kt, Sub μ μ' → μ b = none → μ sp = none → μ kg = none → μ kt = none → Brd C μ' b w h rows fl gap sp kg kt → Φ (.ref b) μ'
theorem len_l_board (C : Addr) (ds : List D) (μ : M) (Φ : D → M → Prop) (h : P_l_board C ds μ Φ) : ds.length = 1 := by
  obtain ⟨_, _, _, _, _, rfl, _⟩ := h
  rfl
theorem encR_kx {μ : M} (r : R4) : Kx μ (encR r) := ⟨kd_tup, fun xs e => by
  cases e
  refine ⟨by simp, fun x hx => ?_⟩
  simp only [List.mem_cons, List.not_mem_nil, or_false] at hx
  rcases hx with rfl | rfl | rfl | rfl <;> exact kd_int⟩
theorem map_inj {α β : Type} {f : α → β} (hf : ∀ a b, f a = f b → a = b) : ∀ {l m : List α}, l.map f = m.map f → l = m
  | [], [], _ => rfl
  | [], _ :: _, h => by simp at h
  | _ :: _, [], h => by simp at h
  | a :: l, b :: m, h => by
    rw [List.map_cons, List.map_cons, List.cons.injEq] at h
    rw [hf a b h.1, map_inj hf h.2]
theorem encR_inj (a b : R4) (h : encR a = encR b) : a = b := by
  obtain ⟨a1, a2, a3, a4⟩ := a
  obtain ⟨b1, b2, b3, b4⟩ := b
  simp [encR] at h
  simp [h]
def P_l_points : PT3 := fun ds μ Φ => ∃ w h rows fl gap, ds = [.tup [.int w, .int h, .tup (rows.map encR), .int fl, .int gap]] ∧ rows.length ≤ 16 ∧ ∀ l, μ l = none → Φ (.ref l) (μ.set l (.lst ((spots w h rows).map encS)))
theorem len_l_points (ds : List D) (μ : M) (Φ : D → M → Prop) (h : P_l_points ds μ Φ) : ds.length = 1 := by
  obtain ⟨_, _, _, _, _, rfl, _⟩ := h
  rfl
theorem ok_l_board {f : Addr} {fd : FuncData} (F : Fun K "_law_board" "_law_board" s_l_board f fd) (B : Bs mg) {C_Board : Addr} (K_Board : Cl_Board K C_Board) (M_Board : MkK P w K mg base "Board" C_Board ["self", "width", "height", "pins", "layers", "spacing"] 3 ["spacing", "layers"] [(true, 1), (true, 0)] [] 6 (spX K (xn mg) (P_board_init C_Board))) : FnOk P w K mg base CX0 8 f fd ["_law_made_here"] (spI K (P_l_board C_Board)) := by
  refine F.ok sc_l_board (fun vs H Q E h => spI_len h (len_l_board C_Board)) (fun cdv A outer s H vs Q E hr h => ?_)
  have hu65 := hu65_of hr
  refine ⟨_, (pss_one (ps_ret (pe_mkK M_Board (hr.mono (by decide)) (by rfl) (pa_cons (pe_ix (ix_seqK (K := K) rfl) (pv 0) pe_int (fun _ _ => rfl)) (pa_cons (pe_ix (ix_seqK (K := K) rfl) (pv 0) pe_int (fun _ _ => rfl)) (pa_cons (pe_ix (ix_seqK (K := K) rfl) (pv 0) pe_int (fun _ _ => rfl)) pa_nil))) (pk_cons (pe_ix (ix_seqK (K := K) rfl) (pv 0) pe_int (fun _ _ => rfl)) (pk_cons (pe_ix (ix_seqK (K := K) rfl) (pv 0) pe_int (fun _ _ => rfl)) pk_nil))))), body_ok h (fun ds μ Φ p => ?_)⟩
  (try dsimp only [cxOf, Cx.nox, Cx.wish, List.map_cons, List.map_nil])
  obtain ⟨w, h, rows, fl, gap, rfl, hab, q⟩ := p
  show AS K _ [some _] _ _
  walk_at "go"
  refine a_mkK [] (fun _ => .nil) ?_
  walk_at "go"
  refine ⟨rfl, rfl, fun b dx hb => ?_⟩
  refine ⟨b, dx, .int w, .int h, .tup (rows.map encR), .int fl, .int gap, rfl, set_same, kd_int, kd_int, kd_tup, kd_int, kd_int, fun rs e => ?_, fun wn hn rows2 ln sn _ e1 e2 e3 e4 e5 μ' sp kg kt sb h1 h2 h3 B => ?_, fun e => ?_⟩
  · cases e
    obtain ⟨_, _, _, _, rows3, _, _, e3, _, _, hl⟩ := ab_of hab
    refine ⟨?_, fun r hr => ?_⟩
    · simp only [D.tup.injEq] at e3
      rw [e3, List.length_map]
      omega
    · obtain ⟨r, _, rfl⟩ := List.mem_map.mp hr
      exact encR_kx r
  · cases e1; cases e2; cases e4; cases e5
    simp only [D.tup.injEq] at e3
    have e6 := map_inj encR_inj e3
    subst e6
    refine ⟨rfl, q μ' b sp kg kt (fun a m ea => ?_) hb ?_ ?_ ?_ B⟩
    · have na : a ≠ b := fun z => by rw [z, hb] at ea; cases ea
      exact sb a m na (by rw [set_ne na]; exact ea)
    · exact none_back h1
    · exact none_back h2
    · exact none_back h3
  · rw [hab] at e
    cases e
theorem ok_l_points {f : Addr} {fd : FuncData} (F : Fun K "_law_points" "_law_points" s_l_points f fd) (B : Bs mg) : FnOk P w K mg base CX0 1 f fd ["_law_made_here"] (spI K P_l_points) := by
  refine F.ok sc_l_points (fun vs H Q E h => spI_len h len_l_points) (fun cdv A outer s H vs Q E hr h => ?_)
  have hu65 := hu65_of hr
  refine ⟨_, (pss_cons (ps_asg (pe_slice (sl_tupAK (K := K) rfl) (pv 0) po_none (po_some pe_int)) (pg_tup (by rfl) (pgs_cons (pg_name (i := 1) sc_l_points.nd rfl (by first | exact Or.inl rfl | exact Or.inr rfl)) (pgs_cons (pg_name (i := 2) sc_l_points.nd rfl (by first | exact Or.inl rfl | exact Or.inr rfl)) pgs_nil))))
      (pss_one (ps_ret (pe_op op_cat (pe_lst (pa_cons (pe_tup (pa_cons pe_int (pa_cons pe_int pa_nil))) (pa_cons (pe_tup (pa_cons (pv 1) (pa_cons pe_int pa_nil))) (pa_cons (pe_tup (pa_cons (pv 1) (pa_cons (pv 2) pa_nil))) (pa_cons (pe_tup (pa_cons pe_int (pa_cons (pv 2) pa_nil))) pa_nil))))) (pe_lc (own := [("_law_row", 3)]) (g := gName 3) (tt := tYes) rfl sc_l_points.nd (pi_tupK (K := K) rfl (pe_ix (ix_seqK (K := K) rfl) (pv 0) pe_int (fun _ _ => rfl))) (blkOk_by (own := [("_law_row", 3)]) (N := N_l_points) (sc := defScope s_l_points) (by decide +kernel)) (fun _ _ _ _ _ => (pg_name (i := 3) sc_l_points.nd rfl (by first | exact Or.inl rfl | exact Or.inr rfl))) (fun _ _ _ _ _ => pts_nil) (fun _ _ _ _ _ => (pe_slice (sl_tupAK (K := K) rfl) (pv 3) po_none (po_some pe_int)))))))), body_okU h (fun ds μ Φ p => ?_)⟩
  (try dsimp only [cxOf, Cx.nox, Cx.wish, List.map_cons, List.map_nil])
  obtain ⟨w, h, rows, fl, gap, rfl, hl, q⟩ := p
  show AS K _ [some _, none, none, none] _ _
  walk_at "go"
  have ec : cutD [D.int w, D.int h, D.tup (List.map encR rows), D.int fl, D.int gap] none (some 2) = [.int w, .int h] := rfl
  rw [ec]
  walk_at "go"
  intro l1 hl1
  walk_at "go"
  refine a_lc1 xyOf (fun _ => true) (ai_T ?_)
  walk_at "go"
  refine ⟨by rw [List.length_map]; have := sizeLine_eq; omega, fun x hx => at_yes ⟨rfl, rfl⟩, fun x hx _ => ?_, fun l2 hl2 => ?_⟩
  · obtain ⟨r, _, rfl⟩ := List.mem_map.mp hx
    walk_at "nf"
    walk_at "go"
    exact ⟨rfl, rfl⟩
  walk_at "go"
  have e2 : List.map xyOf (List.filter (fun _ => true) (rows.map encR)) = rows.map fun r => pt r.1 r.2.1 := by
    rw [List.filter_eq_self.mpr (fun _ _ => rfl), List.map_map]; rfl
  rw [e2]
  have ne2 := none_ne hl2
  refine ro_cat (by walk_at "mu") (by walk_at "mu") (by rw [List.length_map]; have := sizeLine_eq; simp only [List.length_cons, List.length_nil]; omega) fun l3 hl3 => ?_
  have e3 : (spots w h rows).map encS = [D.tup [D.int 0, D.int 0], D.tup [D.int w, D.int 0], D.tup [D.int w, D.int h], D.tup [D.int 0, D.int h]] ++ List.map (fun r => pt r.1 r.2.1) rows := by
    unfold spots; rw [List.map_append, List.map_map]; rfl
  rw [← e3]
  have nl3 : μ l3 = none := none_back (none_back hl3)
  refine up_of (μ2 := μ.set l3 (.lst ((spots w h rows).map encS))) ?_ (q l3 nl3)
  intro a m ea
  by_cases na : a = l3
  · subst na
    rw [set_same] at ea ⊢
    exact ea
  · rw [set_ne na] at ea ⊢
    have n1 : a ≠ l1 := fun z => by rw [z, hl1] at ea; cases ea
    have n2 : a ≠ l2 := fun z => by
      have h3 := none_back hl2
      rw [z] at ea
      rw [show μ l2 = none from h3] at ea; cases ea
    rw [set_ne n2]
    show (μ.set l1 _) a = some m
    rw [set_ne n1]
    exact ea
def P_l_fit : PT3 := fun ds μ Φ => ∃ far gap : Int, ds = [.int far, .int gap] ∧ 0 ≤ far ∧ far ≤ 1000000 ∧ 0 < gap ∧ gap ≤ 1000000 ∧ Φ (.int (max 0 (far / gap - 1))) μ
theorem len_l_fit (ds : List D) (μ : M) (Φ : D → M → Prop) (h : P_l_fit ds μ Φ) : ds.length = 2 := by
  obtain ⟨_, _, rfl, _⟩ := h
  rfl
theorem fit_le {far gap mid : Int} (hg : 0 < gap) (h1 : 1 ≤ mid) : ((mid + 1) * gap ≤ far ↔ mid ≤ max 0 (far / gap - 1)) := by
  rw [← Int.le_ediv_iff_mul_le hg]
  omega
theorem ok_l_fit {f : Addr} {fd : FuncData} (F : Fun K "_law_fit" "_law_fit" s_l_fit f fd) (B : Bs mg) : FnOk P w K mg base CX0 1 f fd ["_law_far", "_law_gap"] (spI K P_l_fit) := by
  refine F.ok sc_l_fit (fun vs H Q E h => spI_len h len_l_fit) (fun cdv A outer s H vs Q E hr h => ?_)
  have hu65 := hu65_of hr
  refine ⟨_, (pss_cons (ps_par (i := 2) (j := 3) rfl sc_l_fit.nd rfl rfl (by decide) rfl rfl (pa_cons pe_int (pa_cons (pe_op op_add (pv 0) pe_int) pa_nil)) (by rfl))
      (pss_cons (ps_while PassesOwn.never (pt_cmpR op_lt (pv 2) (pv 3) (by first | exact nomark _ | rfl)) (pss_cons (ps_set (i := 4) sc_l_fit.nd rfl (by first | exact Or.inl rfl | exact Or.inr rfl) (pe_op op_fdivW (pe_op op_add (pe_op op_add (pv 2) (pv 3)) pe_int) pe_int))
      (pss_one (ps_if (pt_cmpR op_le (pe_op op_mulW (pe_op op_add (pv 4) pe_int) (pv 1)) (pv 0) (by first | exact nomark _ | rfl)) (pss_one (ps_set (i := 2) sc_l_fit.nd rfl (by first | exact Or.inl rfl | exact Or.inr rfl) (pv 4))) (pss_one (ps_set (i := 3) sc_l_fit.nd rfl (by first | exact Or.inl rfl | exact Or.inr rfl) (pe_op op_sub (pv 4) pe_int)))))))
      (pss_one (ps_ret (pv 2))))), body_ok h (fun ds μ Φ p => ?_)⟩
  (try dsimp only [cxOf, Cx.nox, Cx.wish, List.map_cons, List.map_nil])
  obtain ⟨far, gap, rfl, f0, f1, g0, g1, q⟩ := p
  show AS K _ [some _, some _, none, none, none] _ _
  have za : 0 ≤ max 0 (far / gap - 1) ∧ max 0 (far / gap - 1) ≤ far := by
    have h1 : far / gap ≤ far := Int.ediv_le_self gap f0
    omega
  generalize ha : max 0 (far / gap - 1) = ans at *
  walk_at "go"
  refine s_while (fun m τ' μ' => ∃ (low high : Int) (o : Option D), μ' = μ ∧ τ' = [some (.int far), some (.int gap), some (.int low), some (.int high), o] ∧ 0 ≤ low ∧ low ≤ ans ∧ ans ≤ high ∧ high ≤ far + 1 ∧ (m : Int) = high - low) (far + 1).toNat ⟨0, far + 1, none, rfl, rfl, by omega, by omega, by omega, by omega, by omega⟩ ?_
  rintro m τ' μ' ⟨low, high, o, rfl, rfl, l0, l1, l2, l3, l4⟩
  walk_at "go"
  refine ite_d (fun hc => ?_) (fun hc => ?_)
  · have zl : Sz 21 low := by unfold Sz; omega
    have zh : Sz 21 high := by unfold Sz; omega
    have zg : Sz 21 gap := by unfold Sz; omega
    walk_at "go"
    generalize hm : (low + high + 1) / 2 = mid at *
    have m1 : low < mid ∧ mid ≤ high := by omega
    have zm : Sz 21 mid := by unfold Sz; omega
    have key := fit_le (far := far) (mid := mid) g0 (by omega)
    rw [ha] at key
    walk_at "go"
    refine ite_d (fun h => ?_) (fun h => ?_)
    · walk_at "go"
      have := key.mp h
      exact ⟨(high - mid).toNat, by omega, mid, high, _, by first | rfl | trivial, rfl, by omega, by omega, by omega, by omega, by omega⟩
    · walk_at "go"
      have : ¬ mid ≤ ans := fun z => h (key.mpr z)
      exact ⟨(mid - 1 - low).toNat, by omega, low, mid - 1, _, by first | rfl | trivial, rfl, by omega, by omega, by omega, by omega, by omega⟩
  · walk_at "go"
    have : low = ans := by omega
    rw [this]
    exact q
def P_l_no_pin (C : Addr) : PT3 := fun ds μ Φ => ∃ b p q w h rows l s sp kg kt, ds = [.ref b, p, q] ∧ Brd C μ b w h rows l s sp kg kt ∧ (0 < s ∧ s ≤ 1000000) ∧ Kd μ p ∧ Kd μ q ∧ ((wi p 0 (rows.length + 3) = false ∧ Φ p μ) ∨ (wi p 0 (rows.length + 3) = true ∧ wi q 0 (rows.length + 3) = false ∧ Φ q μ))
theorem len_l_no_pin (C : Addr) (ds : List D) (μ : M) (Φ : D → M → Prop) (h : P_l_no_pin C ds μ Φ) : ds.length = 3 := by
  obtain ⟨_, _, _, _, _, _, _, _, _, _, _, rfl, _⟩ := h
  rfl
theorem ok_l_no_pin {f : Addr} {fd : FuncData} (F : Fun K "_law_no_pin" "_law_no_pin" s_l_no_pin f fd) (B : Bs mg) {C_Board : Addr} (K_Board : Cl_Board K C_Board) {C_NoBoard : Addr} (E_NoBoard : Exc0 K mg "NoBoard" C_NoBoard) {C_NoPin : Addr} (E_NoPin : Exc1 P w K mg base "NoPin" "pin" C_NoPin) (H_NoBoard_NoPin : PySem.W.exmOne K (.ref C_NoBoard) (.ref C_NoPin) = some false) (H_NoPin_NoPin : PySem.W.exmOne K (.ref C_NoPin) (.ref C_NoPin) = some true) (G_board_room : Mth P w K mg base C_Board "room" ["self", "one", "other"] 5 (spX K (xn mg) (P_board_room C_Board))) : FnOk P w K mg base CX0 6 f fd ["_law_board_here", "_law_first", "_law_second"] (spI K (P_l_no_pin C_Board)) := by
  refine F.ok sc_l_no_pin (fun vs H Q E h => spI_len h (len_l_no_pin C_Board)) (fun cdv A outer s H vs Q E hr h => ?_)
  have hu65 := hu65_of hr
  refine ⟨_, (pss_cons (ps_try_as (i := 3) rfl rfl sc_l_no_pin.nd rfl rfl ⟨by rfl, by decide, Or.inl E_NoPin.mg⟩ takes0 (fun W pn xe tk po => (pss_one (ps_expr (pe_mthX tk G_board_room (hr.mono (by decide)) (pv 0) (pa_cons (pv 1) (pa_cons (pv 2) pa_nil)))))) (fun a oe cls d pn hz hf => (pss_one (ps_ret (pe_xf E_NoPin.xf E_NoPin.no hz hf (pv 3))))))
      (pss_one (ps_ret pe_str))), body_okU h (fun ds μ Φ p => ?_)⟩
  (try dsimp only [cxOf, Cx.nox, Cx.wish, List.map_cons, List.map_nil])
  obtain ⟨b, p, q, w, h, rows, l, s, sp, kg, kt, rfl, BR, hs, kp, kq, o⟩ := p
  obtain ⟨dx, hb, hsp, hkg, hkt⟩ := id BR
  show AS K _ [some _, some _, some _, none] _ _
  refine s_seq ?_
  refine s_tryAs (xn mg) (tb := fun W => tDrop (tMethX C_Board "room" (spX K (xn mg) (P_board_room C_Board)) (WE W) (tVar 0) (tCons (tVar 1) (tCons (tVar 2) tNil)))) (fun x => x == "NoPin") (fun x cls hx => ?_) fun W => ?_
  · rcases xn_or hx with ⟨rfl, e⟩ | ⟨rfl, e⟩
    · cases E_NoBoard.mg.symm.trans e
      exact H_NoBoard_NoPin
    · cases E_NoPin.mg.symm.trans e
      exact H_NoPin_NoPin
  refine s_dropX (x_meth ?_)
  walk_at "go"
  refine ⟨b, dx, _, rfl, hb, rfl, ?_⟩
  walk_at "go"
  have caught : ∀ (d : D) (dx : Addr), μ dx = none → Φ d μ → ∀ (N : AEnds), N.rt = Up Φ → ∀ a cls, xn mg "NoPin" = some cls → AS K (tRet (tXf a cls (some dx) C_NoPin "pin" (tVar 3))) [some (.ref b), some p, some q, some (.ref a)] (μ.set dx (.xd [("pin", d)])) N := fun d dx hdx qd N hN a cls hc => by
    have ec : cls = .ref C_NoPin := by
      rcases xn_or hc with ⟨e, _⟩ | ⟨_, e⟩
      · exact absurd e (by decide)
      · exact (Option.some.inj (E_NoPin.mg.symm.trans e)).symm
    refine s_ret ?_
    rw [hN]
    refine a_xf ec ?_
    walk_at "go"
    exact ⟨rfl, dx, _, d, rfl, set_same, rfl, up_of (Sub.set hdx) qd⟩
  refine ⟨b, p, q, w, h, rows, l, s, sp, kg, kt, rfl, BR, hs, kp, kq, fun i j a c e1 e2 i0 j0 ha hc => ?_, fun h1 dx hdx => .inl ⟨rfl, ?_⟩, fun h1 h2 dx hdx => .inl ⟨rfl, ?_⟩⟩
  · exfalso
    subst e1 e2
    have hi := (List.getElem?_eq_some_iff.mp ha).1
    have hj := (List.getElem?_eq_some_iff.mp hc).1
    rw [spots_len] at hi hj
    have w1 : wi (.int i) 0 (rows.length + 3) = true := by
      simp only [wi, Bool.and_eq_true, decide_eq_true_eq]
      omega
    have w2 : wi (.int j) 0 (rows.length + 3) = true := by
      simp only [wi, Bool.and_eq_true, decide_eq_true_eq]
      omega
    rcases o with ⟨o, _⟩ | ⟨_, o, _⟩
    · rw [w1] at o; cases o
    · rw [w2] at o; cases o
  · rcases o with ⟨_, o⟩ | ⟨o, _, _⟩
    · exact caught p dx hdx o _ rfl
    · rw [h1] at o; cases o
  · rcases o with ⟨o, _⟩ | ⟨_, _, o⟩
    · rw [h1] at o; cases o
    · exact caught q dx hdx o _ rfl
def P_l_whole : PT3 := fun ds μ Φ => ∃ n : Int, ds = [.int n] ∧ Φ (.bl true) μ
theorem len_l_whole (ds : List D) (μ : M) (Φ : D → M → Prop) (h : P_l_whole ds μ Φ) : ds.length = 1 := by
  obtain ⟨_, rfl, _⟩ := h
  rfl
theorem ok_l_whole {f : Addr} {fd : FuncData} (F : Fun K "_law_whole" "_law_whole" s_l_whole f fd) (B : Bs mg) : FnOk P w K mg base CX0 1 f fd ["_law_thing"] (spI K P_l_whole) := by
  refine F.ok sc_l_whole (fun vs H Q E h => spI_len h len_l_whole) (fun cdv A outer s H vs Q E hr h => ?_)
  have hu65 := hu65_of hr
  refine ⟨_, (pss_one (ps_ret (pe_and (pe_callB (call_isiK1 (K := K) rfl) (by rfl) B.b_isinstance (by decide +kernel) (pa_cons (pv 0) (pa_cons (pe_bltn (v := .ty "int") (by rfl) B.b_int (by decide +kernel) rfl) pa_nil))) (pe_one (pe_not (pe_callB (call_isiK1 (K := K) rfl) (by rfl) B.b_isinstance (by decide +kernel) (pa_cons (pv 0) (pa_cons (pe_bltn (v := .ty "bool") (by rfl) B.b_bool (by decide +kernel) rfl) pa_nil)))))))), body_ok h (fun ds μ Φ p => ?_)⟩
  (try dsimp only [cxOf, Cx.nox, Cx.wish, List.map_cons, List.map_nil])
  obtain ⟨n, rfl, q⟩ := p
  show AS K _ [some _] _ _
  walk_at "go"
  exact q
theorem ab_len {w h fl gap : Int} {rows : List R4} (k : ab (.int w) (.int h) (.tup (rows.map encR)) (.int fl) (.int gap) = true) : rows.length ≤ 16 := by
  simp only [ab, Bool.and_eq_true, decide_eq_true_eq, List.length_map] at k
  exact k.2.1.1
theorem ab_gap {w h p l : D} {g g' : Int} (k : ab w h p l (.int g) = true) (h1 : 1 ≤ g') (h2 : g' ≤ 1000000) : ab w h p l (.int g') = true := by
  simp only [ab, Bool.and_eq_true] at k ⊢
  refine ⟨⟨k.1.1, ?_⟩, k.2⟩
  simp only [wi, Bool.and_eq_true, decide_eq_true_eq]
  exact ⟨h1, h2⟩
theorem ab_g {w h p l : D} {g : Int} (k : ab w h p l (.int g) = true) : 1 ≤ g ∧ g ≤ 1000000 := by
  simp only [ab, Bool.and_eq_true] at k
  have k2 := k.1.2
  simp only [wi, Bool.and_eq_true, decide_eq_true_eq] at k2
  exact k2
/-- where a place of a drawn board lies -/
abbrev Inn (p : Int × Int) : Prop := (0 ≤ p.1 ∧ p.1 ≤ 900000) ∧ 0 ≤ p.2 ∧ p.2 ≤ 900000
theorem ab_in {w h fl gap : Int} {rows : List R4} (k : ab (.int w) (.int h) (.tup (rows.map encR)) (.int fl) (.int gap) = true) (hw : w ≤ 900000) (hh : h ≤ 900000) : ∀ p ∈ spots w h rows, Inn p := by
  simp only [ab, Bool.and_eq_true, decide_eq_true_eq, List.length_map] at k
  obtain ⟨⟨⟨⟨k1, k2⟩, _⟩, _⟩, ⟨_, k5⟩, _⟩ := k
  simp only [wi, Bool.and_eq_true, decide_eq_true_eq] at k1 k2
  intro p hp
  unfold spots at hp
  rcases List.mem_append.mp hp with z | z
  · simp only [List.mem_cons, List.not_mem_nil, or_false] at z
    rcases z with rfl | rfl | rfl | rfl <;> (unfold Inn; dsimp only; omega)
  · obtain ⟨r, hr, rfl⟩ := List.mem_map.mp z
    have h5 := List.all_eq_true.mp k5 _ (List.mem_map.mpr ⟨r, hr, rfl⟩)
    obtain ⟨x, y, f, g, e, a1, a2, _⟩ := pr_int h5
    simp [encR] at e
    unfold Inn
    dsimp only
    omega
theorem spot_at {w h : Int} {rows : List R4} {i : Int} (h0 : 0 ≤ i) (h1 : i < rows.length + 4) : ∃ p, (spots w h rows)[i.toNat]? = some p ∧ p ∈ spots w h rows := by
  have hi : i.toNat < (spots w h rows).length := by rw [spots_len]; omega
  exact ⟨_, List.getElem?_eq_getElem hi, List.getElem_mem hi⟩
/-- the greater difference -/
abbrev farO (a c : Int × Int) : Int := ((max (a.1 - c.1).natAbs (a.2 - c.2).natAbs : Nat) : Int)
theorem far_if (x y : Int) : (if (if y < 0 then -y else y) > (if x < 0 then -x else x) then (if y < 0 then -y else y) else (if x < 0 then -x else x)) = ((max x.natAbs y.natAbs : Nat) : Int) := by
  by_cases h1 : x < 0 <;> by_cases h2 : y < 0 <;> simp only [h1, h2, if_true, if_false] <;> split <;> omega
theorem rm_far (s : Int) (a c : Int × Int) : rm s a c = max 0 (farO a c / s - 1) := by
  unfold rm farO
  have e : (max (c.1 - a.1).natAbs (c.2 - a.2).natAbs : Nat) = max (a.1 - c.1).natAbs (a.2 - c.2).natAbs := by omega
  rw [e]
theorem rm_flip (s : Int) (a c : Int × Int) : rm s c a = rm s a c := by
  rw [rm_far, rm_far]
  have e : farO c a = farO a c := by unfold farO; omega
  rw [e]
theorem inn_sz {p : Int × Int} (h : Inn p) : Sz 60 p.1 ∧ Sz 60 p.2 := by
  obtain ⟨⟨a, b⟩, c, d⟩ := h
  exact ⟨by unfold Sz; omega, by unfold Sz; omega⟩
/-- a room of two pins that are there -/
theorem use_room {C : Addr} {μ : M} {Φ : D → M → Prop} {b : Addr} {i j w h l s : Int} {rows : List R4} {sp kg kt : Addr} {a c : Int × Int} (BR : Brd C μ b w h rows l s sp kg kt) (hs : 0 < s ∧ s ≤ 1000000) (i0 : 0 ≤ i) (j0 : 0 ≤ j)
    (ea : (spots w h rows)[i.toNat]? = some a) (ec : (spots w h rows)[j.toNat]? = some c) (ia : Inn a) (ic : Inn c) (q : Φ (.int (rm s a c)) μ) : P_board_room C [.ref b, .int i, .int j] μ Φ (fun _ _ _ => False) := by
  have hi := (List.getElem?_eq_some_iff.mp ea).1
  have hj := (List.getElem?_eq_some_iff.mp ec).1
  rw [spots_len] at hi hj
  refine ⟨b, _, _, w, h, rows, l, s, sp, kg, kt, rfl, BR, hs, kd_int, kd_int, fun i2 j2 a2 c2 e1 e2 _ _ ha hc => ?_, fun z => ?_, fun _ z => ?_⟩
  · cases e1; cases e2
    rw [ea] at ha; cases ha
    rw [ec] at hc; cases hc
    exact ⟨⟨(inn_sz ia).1, (inn_sz ia).2, (inn_sz ic).1, (inn_sz ic).2⟩, q⟩
  · exfalso
    have w1 : wi (.int i) 0 (rows.length + 3) = true := by
      simp only [wi, Bool.and_eq_true, decide_eq_true_eq]
      omega
    rw [w1] at z; cases z
  · exfalso
    have w1 : wi (.int j) 0 (rows.length + 3) = true := by
      simp only [wi, Bool.and_eq_true, decide_eq_true_eq]
      omega
    rw [w1] at z; cases z
theorem Brd.keep {C : Addr} {μ μ' : M} {bd b w h l s : _} {rows : List R4} {sp kg kt : Addr} {c m : Int} (BR : Brd C μ bd w h rows l s sp kg kt) (hb : μ b = some (.lst [.int c, .int m])) (sb : SubB b μ μ') : Brd C μ' bd w h rows l s sp kg kt := by
  obtain ⟨dx, h1, h2, h3, h4⟩ := BR
  refine ⟨dx, sb bd _ (fun z => ?_) h1, sb sp _ (fun z => ?_) h2, sb kg _ (fun z => ?_) h3, sb kt _ (fun z => ?_) h4⟩
  · rw [z, hb] at h1; cases h1
  · rw [z, hb] at h2
    simp [spots] at h2
  · rw [z, hb] at h3; cases h3
  · rw [z, hb] at h4; cases h4
theorem Brd.sub {C : Addr} {μ μ' : M} {bd w h l s : _} {rows : List R4} {sp kg kt : Addr} (BR : Brd C μ bd w h rows l s sp kg kt) (sb : Sub μ μ') : Brd C μ' bd w h rows l s sp kg kt := by
  obtain ⟨dx, h1, h2, h3, h4⟩ := BR
  exact ⟨dx, sb _ _ h1, sb _ _ h2, sb _ _ h3, sb _ _ h4⟩
theorem use_np1 {C : Addr} {μ : M} {Φ : D → M → Prop} {b : Addr} {p q : D} {w h l s : Int} {rows : List R4} {sp kg kt : Addr} (BR : Brd C μ b w h rows l s sp kg kt) (hs : 0 < s ∧ s ≤ 1000000) (kp : Kd μ p) (kq : Kd μ q) (w1 : wi p 0 (rows.length + 3) = false) (o : Φ p μ) : P_l_no_pin C [.ref b, p, q] μ Φ :=
  ⟨b, p, q, w, h, rows, l, s, sp, kg, kt, rfl, BR, hs, kp, kq, .inl ⟨w1, o⟩⟩
theorem use_np2 {C : Addr} {μ : M} {Φ : D → M → Prop} {b : Addr} {p q : D} {w h l s : Int} {rows : List R4} {sp kg kt : Addr} (BR : Brd C μ b w h rows l s sp kg kt) (hs : 0 < s ∧ s ≤ 1000000) (kp : Kd μ p) (kq : Kd μ q) (w1 : wi p 0 (rows.length + 3) = true) (w2 : wi q 0 (rows.length + 3) = false) (o : Φ q μ) : P_l_no_pin C [.ref b, p, q] μ Φ :=
  ⟨b, p, q, w, h, rows, l, s, sp, kg, kt, rfl, BR, hs, kp, kq, .inr ⟨w1, w2, o⟩⟩
theorem ok_law {f : Addr} {fd : FuncData} (F : Fun K "law" "law" s_law f fd) (B : Bs mg) {C_Board : Addr} (K_Board : Cl_Board K C_Board) (G_board_room : Mth P w K mg base C_Board "room" ["self", "one", "other"] 5 (spX K (xn mg) (P_board_room C_Board))) (G_l_bag : Def P w K mg base "_law_bag" ["_law_script", "_law_at"] 2 (spI K P_l_bag)) (G_l_board : Def P w K mg base "_law_board" ["_law_made_here"] 8 (spI K (P_l_board C_Board))) (G_l_fit : Def P w K mg base "_law_fit" ["_law_far", "_law_gap"] 1 (spI K P_l_fit)) (G_l_made : Def P w K mg base "_law_made" ["_law_bag_here", "_law_most"] 3 (spI K P_l_made)) (G_l_no_pin : Def P w K mg base "_law_no_pin" ["_law_board_here", "_law_first", "_law_second"] 6 (spI K (P_l_no_pin C_Board))) (G_l_points : Def P w K mg base "_law_points" ["_law_made_here"] 1 (spI K P_l_points)) (G_l_take : Def P w K mg base "_law_take" ["_law_bag_here", "_law_many"] 1 (spI K P_l_take)) (G_l_whole : Def P w K mg base "_law_whole" ["_law_thing"] 1 (spI K P_l_whole)) : FnOk P w K mg base CX0 10 f fd ["_law_script"] (spI K P_law) := by
  refine F.ok sc_law (fun vs H Q E h => spI_len h len_law) (fun cdv A outer s H vs Q E hr h => ?_)
  have hu65 := hu65_of hr
  refine ⟨_, (pss_cons (ps_for PassesOwn.never rfl (pi_range1 (by rfl) B.b_range (pa_cons (pe_op op_add pe_int (pe_callB (call_min2 rfl) (by rfl) B.b_min (by decide +kernel) (pa_cons pe_int (pa_cons (pe_callB (call_lenK (K := K) rfl) (by rfl) B.b_len (by decide +kernel) (pa_cons (pv 0) pa_nil)) pa_nil)))) pa_nil)) (pg_name (i := 1) sc_law.nd rfl (by first | exact Or.inl rfl | exact Or.inr rfl))
      (pss_cons (ps_set (i := 2) sc_law.nd rfl (by first | exact Or.inl rfl | exact Or.inr rfl) (pe_def G_l_bag (hr.mono (by decide)) (by rfl) (pa_cons (pv 0) (pa_cons (pv 1) pa_nil))))
      (pss_cons (ps_set (i := 3) sc_law.nd rfl (by first | exact Or.inl rfl | exact Or.inr rfl) (pe_def G_l_made (hr.mono (by decide)) (by rfl) (pa_cons (pv 2) (pa_cons pe_int pa_nil))))
      (pss_cons (ps_set (i := 4) sc_law.nd rfl (by first | exact Or.inl rfl | exact Or.inr rfl) (pe_def G_l_points (hr.mono (by decide)) (by rfl) (pa_cons (pv 3) pa_nil)))
      (pss_cons (ps_par (i := 5) (j := 6) rfl sc_law.nd rfl rfl (by decide) rfl rfl (pa_cons (pe_ix (ix_seqK (K := K) rfl) (pv 4) (pe_def G_l_take (hr.mono (by decide)) (by rfl) (pa_cons (pv 2) (pa_cons (pe_callB (call_lenK (K := K) rfl) (by rfl) B.b_len (by decide +kernel) (pa_cons (pv 4) pa_nil)) pa_nil))) (fun _ _ => rfl)) (pa_cons (pe_ix (ix_seqK (K := K) rfl) (pv 4) (pe_def G_l_take (hr.mono (by decide)) (by rfl) (pa_cons (pv 2) (pa_cons (pe_callB (call_lenK (K := K) rfl) (by rfl) B.b_len (by decide +kernel) (pa_cons (pv 4) pa_nil)) pa_nil))) (fun _ _ => rfl)) pa_nil)) (by rfl))
      (pss_cons (ps_set (i := 7) sc_law.nd rfl (by first | exact Or.inl rfl | exact Or.inr rfl) (pe_callB (call_max3Nu rfl) (by rfl) B.b_max (by decide +kernel) (pa_cons (pe_callB call_abs (by rfl) B.b_abs (by decide +kernel) (pa_cons (pe_op op_sub (pe_ix (ix_seqK (K := K) rfl) (pv 5) pe_int (fun _ _ => rfl)) (pe_ix (ix_seqK (K := K) rfl) (pv 6) pe_int (fun _ _ => rfl))) pa_nil)) (pa_cons (pe_callB call_abs (by rfl) B.b_abs (by decide +kernel) (pa_cons (pe_op op_sub (pe_ix (ix_seqK (K := K) rfl) (pv 5) pe_int (fun _ _ => rfl)) (pe_ix (ix_seqK (K := K) rfl) (pv 6) pe_int (fun _ _ => rfl))) pa_nil)) (pa_cons pe_int pa_nil)))))
      (pss_cons (ps_if (pt_cmpR op_eq (pe_def G_l_take (hr.mono (by decide)) (by rfl) (pa_cons (pv 2) (pa_cons pe_int pa_nil))) pe_int (by first | exact nomark _ | rfl)) (pss_one (ps_set (i := 3) sc_law.nd rfl (by first | exact Or.inl rfl | exact Or.inr rfl) (pe_op (op_catAK (K := K) rfl) (pe_slice (sl_tupAK (K := K) rfl) (pv 3) po_none (po_some pe_int)) (pe_tup (pa_cons (pe_callB (call_max2 rfl) (by rfl) B.b_max (by decide +kernel) (pa_cons pe_int (pa_cons (pe_op op_add (pe_op op_fdivW (pv 7) (pe_op op_add pe_int (pe_def G_l_take (hr.mono (by decide)) (by rfl) (pa_cons (pv 2) (pa_cons pe_int pa_nil))))) (pe_def G_l_take (hr.mono (by decide)) (by rfl) (pa_cons (pv 2) (pa_cons pe_int pa_nil)))) pa_nil))) pa_nil))))) pss_nil)
      (pss_cons (ps_set (i := 8) sc_law.nd rfl (by first | exact Or.inl rfl | exact Or.inr rfl) (pe_def G_l_board (hr.mono (by decide)) (by rfl) (pa_cons (pv 3) pa_nil)))
      (pss_cons (ps_for PassesOwn.never rfl (pi_range1 (by rfl) B.b_range (pa_cons (pe_callB (call_lenK (K := K) rfl) (by rfl) B.b_len (by decide +kernel) (pa_cons (pv 4) pa_nil)) pa_nil)) (pg_name (i := 9) sc_law.nd rfl (by first | exact Or.inl rfl | exact Or.inr rfl))
      (pss_one (ps_for PassesOwn.never rfl (pi_range1 (by rfl) B.b_range (pa_cons (pv 9) pa_nil)) (pg_name (i := 10) sc_law.nd rfl (by first | exact Or.inl rfl | exact Or.inr rfl))
      (pss_cons (ps_set (i := 7) sc_law.nd rfl (by first | exact Or.inl rfl | exact Or.inr rfl) (pe_callB (call_max2 rfl) (by rfl) B.b_max (by decide +kernel) (pa_cons (pe_callB call_abs (by rfl) B.b_abs (by decide +kernel) (pa_cons (pe_op op_sub (pe_ix (ix_seqK (K := K) rfl) (pe_ix (ix_seqK (K := K) rfl) (pv 4) (pv 9) (fun _ _ => rfl)) pe_int (fun _ _ => rfl)) (pe_ix (ix_seqK (K := K) rfl) (pe_ix (ix_seqK (K := K) rfl) (pv 4) (pv 10) (fun _ _ => rfl)) pe_int (fun _ _ => rfl))) pa_nil)) (pa_cons (pe_callB call_abs (by rfl) B.b_abs (by decide +kernel) (pa_cons (pe_op op_sub (pe_ix (ix_seqK (K := K) rfl) (pe_ix (ix_seqK (K := K) rfl) (pv 4) (pv 9) (fun _ _ => rfl)) pe_int (fun _ _ => rfl)) (pe_ix (ix_seqK (K := K) rfl) (pe_ix (ix_seqK (K := K) rfl) (pv 4) (pv 10) (fun _ _ => rfl)) pe_int (fun _ _ => rfl))) pa_nil)) pa_nil))))
      (pss_cons (ps_set (i := 11) sc_law.nd rfl (by first | exact Or.inl rfl | exact Or.inr rfl) (pe_mthN G_board_room (hr.mono (by decide)) (pv 8) (pa_cons (pv 9) (pa_cons (pv 10) pa_nil))))
      (pss_one (ps_if (PW.pt (pw_or (pt_not (pt_val (pe_def G_l_whole (hr.mono (by decide)) (by rfl) (pa_cons (pv 11) pa_nil)))) (pw_or (pt_cmpR op_ne (pv 11) (pe_def G_l_fit (hr.mono (by decide)) (by rfl) (pa_cons (pv 7) (pa_cons (pe_ix (ix_seqK (K := K) rfl) (pv 3) pe_int (fun _ _ => rfl)) pa_nil))) (by first | exact nomark _ | rfl)) (pw_or1 (pt_cmpR op_ne (pe_mthN G_board_room (hr.mono (by decide)) (pv 8) (pa_cons (pv 10) (pa_cons (pv 9) pa_nil))) (pv 11) (by first | exact nomark _ | rfl)))))) (pss_one (ps_ret pe_bl)) pss_nil)))))))
      (pss_cons (ps_par (i := 12) (j := 13) rfl sc_law.nd rfl rfl (by decide) rfl rfl (pa_cons (pe_ix (ix_seqK (K := K) rfl) (pe_lst (pa_cons (pe_callB (call_lenK (K := K) rfl) (by rfl) B.b_len (by decide +kernel) (pa_cons (pv 4) pa_nil)) (pa_cons (pe_un un_neg pe_int) (pa_cons (pe_op op_pow pe_int pe_int) pa_nil)))) (pe_def G_l_take (hr.mono (by decide)) (by rfl) (pa_cons (pv 2) (pa_cons pe_int pa_nil))) (fun _ _ => rfl)) (pa_cons (pe_ix (ix_seqK (K := K) rfl) (pe_lst (pa_cons pe_non (pa_cons pe_bl (pa_cons pe_str pa_nil)))) (pe_def G_l_take (hr.mono (by decide)) (by rfl) (pa_cons (pv 2) (pa_cons pe_int pa_nil))) (fun _ _ => rfl)) pa_nil)) (by rfl))
      (pss_cons (ps_if (pt_cmpR (op_neDK (K := K) rfl hr.units) (pe_lst (pa_cons (pe_def G_l_no_pin (hr.mono (by decide)) (by rfl) (pa_cons (pv 8) (pa_cons (pv 12) (pa_cons pe_int pa_nil)))) (pa_cons (pe_def G_l_no_pin (hr.mono (by decide)) (by rfl) (pa_cons (pv 8) (pa_cons pe_int (pa_cons (pv 12) pa_nil)))) (pa_cons (pe_def G_l_no_pin (hr.mono (by decide)) (by rfl) (pa_cons (pv 8) (pa_cons (pv 12) (pa_cons (pe_un un_neg pe_int) pa_nil)))) pa_nil)))) (pe_op op_rep (pe_lst (pa_cons (pv 12) pa_nil)) pe_int) (by first | exact nomark _ | rfl)) (pss_one (ps_ret pe_bl)) pss_nil)
      (pss_one (ps_if (PW.pt (pw_or (pt_cmpR (op_neDK (K := K) rfl hr.units) (pe_def G_l_no_pin (hr.mono (by decide)) (by rfl) (pa_cons (pv 8) (pa_cons pe_int (pa_cons (pv 13) pa_nil)))) (pv 13) (by first | exact nomark _ | rfl)) (pw_or1 (pt_cmpR (op_neDK (K := K) rfl hr.units) (pe_def G_l_no_pin (hr.mono (by decide)) (by rfl) (pa_cons (pv 8) (pa_cons (pv 13) (pa_cons pe_int pa_nil)))) (pv 13) (by first | exact nomark _ | rfl))))) (pss_one (ps_ret pe_bl)) pss_nil)))))))))))))
      (pss_one (ps_ret pe_bl))), body_ok h (fun ds μ Φ p => ?_)⟩
  (try dsimp only [cxOf, Cx.nox, Cx.wish, List.map_cons, List.map_nil])
  obtain ⟨ns, rfl, hl, q⟩ := p
  show AS K _ [some _, none, none, none, none, none, none, none, none, none, none, none, none, none] _ _
  walk_at "go"
  refine s_for1 (1 + if ((ns.map D.int).length : Int) < 4 then ((ns.map D.int).length : Int) else 4) (fun i τ' μ' => ∃ o1 o2 o3 o4 o5 o6 o7 o8 o9 o10 o11 o12 o13 : Option D, τ' = [some (.rol (ns.map D.int)), o1, o2, o3, o4, o5, o6, o7, o8, o9, o10, o11, o12, o13]) ?h ?hs ?hd
  case h =>
    walk_at "go"
    refine ⟨rfl, ?_, ?_, ?_⟩
    · split <;> omega
    · split <;> omega
    · exact ⟨_, _, _, _, _, _, _, _, _, _, _, _, _, rfl⟩
  case hd =>
    rintro τ' μ' ⟨o1, o2, o3, o4, o5, o6, o7, o8, o9, o10, o11, o12, o13, rfl⟩
    walk_at "go"
    exact q _
  case hs =>
    rintro i τ' μ' hi ⟨o1, o2, o3, o4, o5, o6, o7, o8, o9, o10, o11, o12, o13, rfl⟩
    have hi6 : (i : Int) ≤ 6 := by split at hi <;> omega
    walk_at "go"
    refine use_bag (by omega) (by omega) fun b c m hb hm => ?_
    walk_at "go"
    refine use_made set_same hm (by decide) (by decide) fun w h rows fl gap c1 m1 hmd hm1 => ?_
    rw [set_set]
    obtain ⟨hok, hw1, hh1⟩ := hmd
    walk_at "go"
    refine ⟨w, h, rows, fl, gap, rfl, ?_, fun l hl => ?_⟩
    · exact ab_len hok
    have hlb : l ≠ b := none_ne hl
    have elen : ((List.map encS (spots w h rows)).length : Int) = rows.length + 4 := by rw [List.length_map, spots_len]; omega
    have hrl := ab_len hok
    have hin := ab_in hok hw1 hh1
    walk_at "go"
    rw [elen]
    refine use_take (by walk_at "mu") hm1 (by omega) (sz_mono (show Sz 8 ((rows.length : Int) + 4) by unfold Sz; omega) (by decide)) fun d1 c2 m2 a1 a2 a3 hm2 => ?_
    obtain ⟨p1, e1, i1⟩ := spot_at (w := w) (h := h) (rows := rows) a1 a2
    have in1 := hin p1 i1
    refine ro_ix (seq_ref (by walk_at "mu")) (atI_map a1 e1) ?_
    walk_at "go"
    rw [elen]
    refine use_take (by walk_at "mu") hm2 (by omega) (sz_mono (show Sz 8 ((rows.length : Int) + 4) by unfold Sz; omega) (by decide)) fun d2 c3 m3 b1 b2 b3 hm3 => ?_
    obtain ⟨p2, e2, i2⟩ := spot_at (w := w) (h := h) (rows := rows) b1 b2
    have in2 := hin p2 i2
    refine ro_ix (seq_ref (by walk_at "mu")) (atI_map b1 e2) ?_
    walk_at "go"
    have hfar : 1 ≤ max (max (if p1.1 - p2.1 < 0 then -(p1.1 - p2.1) else p1.1 - p2.1) (if p1.2 - p2.2 < 0 then -(p1.2 - p2.2) else p1.2 - p2.2)) 1 ∧ max (max (if p1.1 - p2.1 < 0 then -(p1.1 - p2.1) else p1.1 - p2.1) (if p1.2 - p2.2 < 0 then -(p1.2 - p2.2) else p1.2 - p2.2)) 1 ≤ 900000 := by
      have := in1.1; have := in1.2; have := in2.1; have := in2.2
      split <;> split <;> omega
    generalize max (max (if p1.1 - p2.1 < 0 then -(p1.1 - p2.1) else p1.1 - p2.1) (if p1.2 - p2.2 < 0 then -(p1.2 - p2.2) else p1.2 - p2.2)) 1 = far at hfar ⊢
    refine use_take (by walk_at "mu") hm3 (by decide) (by walk_at "szN") fun d3 c4 m4 f1 f2 f3 hm4 => ?_
    walk_at "go"
    refine if_cut (fun τ' μ2 => ∃ (gap c m : Int), ab (.int w) (.int h) (.tup (rows.map encR)) (.int fl) (.int gap) = true ∧ μ2 b = some (.lst [.int c, .int m]) ∧ BgOk m ∧ μ2 l = some (.lst (List.map encS (spots w h rows))) ∧
      τ' = [some (.rol (ns.map D.int)), some (.int i), some (.ref b), some (.tup [.int w, .int h, .tup (rows.map encR), .int fl, .int gap]), some (.ref l), some (encS p1), some (encS p2), some (.int far), o8, o9, o10, o11, o12, o13]) (fun _ => ?_) (fun _ => ?_) ?_
    · walk_at "go"
      have ec : cutD [D.int w, D.int h, D.tup (List.map encR rows), D.int fl, D.int gap] none (some 4) = [.int w, .int h, .tup (rows.map encR), .int fl] := rfl
      rw [ec]
      walk_at "go"
      refine use_take (by walk_at "mu") hm4 (by decide) (by walk_at "szN") fun d4 c5 m5 g1 g2 g3 hm5 => ?_
      have zd4 : Sz 8 d4 := by unfold Sz; omega
      have zfar : Sz 21 far := by unfold Sz; omega
      walk_at "go"
      refine use_take (by walk_at "mu") hm5 (by decide) (by walk_at "szN") fun d5 c6 m6 h1 h2 h3 hm6 => ?_
      walk_at "go"
      have q1 : 0 ≤ far / (1 + d4) ∧ far / (1 + d4) ≤ far := ⟨Int.ediv_nonneg (by omega) (by omega), Int.ediv_le_self _ (by omega)⟩
      exact ⟨_, _, _, ab_gap hok (by split <;> omega) (by split <;> omega), set_same, hm6, by walk_at "mu", rfl⟩
    · walk_at "go"
      exact ⟨gap, _, _, hok, set_same, hm4, by walk_at "mu", rfl⟩
    clear hok hm hm1 hm2 hm3 hm4
    rintro τ2 μ2 ⟨gap, c5, m5, hok, hb5, hm5, hl5, rfl⟩
    have hg := ab_g hok
    (try dsimp only)
    walk_at "go"
    refine ⟨w, h, rows, fl, gap, rfl, hok, fun μ3 bd sp kg kt sb3 _ _ _ _ BR => ?_⟩
    have hb6 := sb3 _ _ hb5
    have hl6 := sb3 _ _ hl5
    clear hb5 hl5 sb3
    walk_at "go"
    obtain ⟨dxb, hbd, hsp, hkg, hkt⟩ := id BR
    refine s_for1 (rows.length + 4) (fun k τ' μ' => μ' = μ3 ∧ ∃ q7 q9 q10 q11 : Option D, τ' = [some (.rol (ns.map D.int)), some (.int i), some (.ref b), some (.tup [.int w, .int h, .tup (rows.map encR), .int fl, .int gap]), some (.ref l), some (encS p1), some (encS p2), q7, some (.ref bd), q9, q10, q11, o12, o13]) ?_ ?_ ?_
    · walk_at "go"
      refine ⟨by rw [elen], by omega, by omega, rfl, _, _, _, _, rfl⟩
    · rintro k τ' μ' hk ⟨rfl, q7, q9, q10, q11, rfl⟩
      (try dsimp only)
      walk_at "go"
      refine s_for1 (k : Int) (fun j τ' μ'' => μ'' = μ' ∧ ∃ q7 q10 q11 : Option D, τ' = [some (.rol (ns.map D.int)), some (.int i), some (.ref b), some (.tup [.int w, .int h, .tup (rows.map encR), .int fl, .int gap]), some (.ref l), some (encS p1), some (encS p2), q7, some (.ref bd), some (.int k), q10, q11, o12, o13]) ?_ ?_ ?_
      · walk_at "go"
        exact ⟨rfl, by omega, by omega, rfl, _, _, _, rfl⟩
      · rintro j τ' μ'' hj ⟨rfl, q7, q10, q11, rfl⟩
        (try dsimp only)
        obtain ⟨a, ea, ia⟩ := spot_at (w := w) (h := h) (rows := rows) (i := (k : Int)) (by omega) (by omega)
        obtain ⟨c, ec, ic⟩ := spot_at (w := w) (h := h) (rows := rows) (i := (j : Int)) (by omega) (by omega)
        have na := hin a ia
        have nc := hin c ic
        walk_at "go"
        refine ro_ix (seq_ref hl6) (atI_map (by omega) ea) ?_
        walk_at "go"
        refine ro_ix (seq_ref hl6) (atI_map (by omega) ec) ?_
        walk_at "go"
        refine ro_ix (seq_ref hl6) (atI_map (by omega) ea) ?_
        walk_at "go"
        refine ro_ix (seq_ref hl6) (atI_map (by omega) ec) ?_
        walk_at "go"
        rw [far_if]
        refine ⟨bd, dxb, _, rfl, hbd, rfl, ?_⟩
        walk_at "go"
        refine use_room BR ⟨by omega, hg.2⟩ (by omega) (by omega) ea ec na nc ?_
        walk_at "go"
        refine ⟨_, rfl, ?_⟩
        walk_at "go"
        refine ⟨_, gap, rfl, by omega, by have := na.1; have := na.2; have := nc.1; have := nc.2; omega, by omega, hg.2, ?_⟩
        walk_at "go"
        refine ite_nd (fun h => absurd (rm_far gap a c) h) (fun _ => ?_)
        walk_at "go"
        refine ⟨bd, dxb, _, rfl, hbd, rfl, ?_⟩
        walk_at "go"
        refine use_room BR ⟨by omega, hg.2⟩ (by omega) (by omega) ec ea nc na ?_
        walk_at "go"
        refine ite_nd (fun h => absurd (rm_flip gap a c) h) (fun _ => ?_)
        walk_at "go"
        exact ⟨rfl, _, _, _, rfl⟩
      · rintro τ' μ'' ⟨rfl, q7, q10, q11, rfl⟩
        walk_at "go"
        exact ⟨rfl, _, _, _, _, rfl⟩
    rintro τ' μ' ⟨rfl, q7, q9, q10, q11, rfl⟩
    (try dsimp only)
    clear hsp hkg hkt
    walk_at "go"
    intro l7 hl7
    have n7 : l7 ≠ b := ne_of_some hl7 hb6
    walk_at "go"
    refine use_take (by walk_at "mu") hm5 (by decide) (by walk_at "szN") fun d4 c6 m6 g1 g2 g3 hm6 => ?_
    obtain ⟨odd, ho, hodd⟩ : ∃ odd : Int, atI [D.int (List.map encS (spots w h rows)).length, D.int (-1), D.int 100000000000000000000] d4 = some (.int odd) ∧ wi (.int odd) 0 (rows.length + 3) = false := by
      have hh : d4 = 0 ∨ d4 = 1 ∨ d4 = 2 := by omega
      rcases hh with e | e | e <;> subst e
      · refine ⟨_, rfl, ?_⟩
        rw [elen]
        simp only [wi, Bool.and_eq_false_iff, decide_eq_false_iff_not]
        omega
      · exact ⟨_, rfl, by simp [wi]⟩
      · refine ⟨_, rfl, ?_⟩
        simp only [wi, Bool.and_eq_false_iff, decide_eq_false_iff_not]
        omega
    refine ro_ix (seq_ref (by walk_at "mu")) ho ?_
    walk_at "go"
    intro l8 hl8
    have n8 : l8 ≠ b := none_ne hl8
    walk_at "go"
    refine use_take (by walk_at "mu") hm6 (by decide) (by walk_at "szN") fun d5 c7 m7 h1 h2 h3 hm7 => ?_
    obtain ⟨st, hst, kst, ost, wst⟩ : ∃ st : D, atI [D.non, D.bl true, D.str "1"] d5 = some st ∧ (∀ μ, Kd μ st) ∧ OkN 0 st ∧ wi st 0 (rows.length + 3) = false := by
      have hh : d5 = 0 ∨ d5 = 1 ∨ d5 = 2 := by omega
      rcases hh with e | e | e <;> subst e
      · exact ⟨_, rfl, fun _ => kd_non, okn_non, rfl⟩
      · exact ⟨_, rfl, fun _ => kd_bl, okn_bl, rfl⟩
      · exact ⟨_, rfl, fun _ => kd_str, okn_str (by decide +kernel), rfl⟩
    refine ro_ix (seq_ref (by walk_at "mu")) hst ?_
    walk_at "go"
    have hs : 0 < gap ∧ gap ≤ 1000000 := ⟨by omega, hg.2⟩
    have w0 : wi (.int 0) 0 ((rows.length : Int) + 3) = true := by
      simp only [wi, Bool.and_eq_true, decide_eq_true_eq]
      omega
    have w1 : wi (.int 1) 0 ((rows.length : Int) + 3) = true := by
      simp only [wi, Bool.and_eq_true, decide_eq_true_eq]
      omega
    have BR2 := BR.keep hb6 (sb_self (Y := .lst [.int c7, .int m7]) (sb_new (Y := .lst [D.non, D.bl true, D.str "1"]) (sb_self (Y := .lst [.int c6, .int m6]) (sb_new (Y := .lst [D.int (List.map encS (spots w h rows)).length, D.int (-1), D.int 100000000000000000000]) sb_refl hl7)) hl8))
    generalize ((((μ'.set l7 (.lst [D.int (List.map encS (spots w h rows)).length, D.int (-1), D.int 100000000000000000000])).set b (.lst [.int c6, .int m6])).set l8 (.lst [D.non, D.bl true, D.str "1"])).set b (.lst [.int c7, .int m7])) = μ9 at BR2 ⊢
    refine use_np1 BR2 hs kd_int kd_int hodd ?_
    walk_at "go"
    refine use_np2 BR2 hs kd_int kd_int w0 hodd ?_
    walk_at "go"
    refine use_np1 BR2 hs kd_int kd_int hodd ?_
    walk_at "go"
    intro l9 hl9
    walk_at "go"
    intro l10 hl10
    have n910 : l9 ≠ l10 := Ne.symm (none_ne hl10)
    walk_at "go"
    refine ro_rep set_same (by decide) (Nat.le_of_ble_eq_true rfl) fun l11 hl11 => ?_
    have n911 : l9 ≠ l11 := Ne.symm (none_ne (none_back hl11))
    refine ro_neLL (n := 0) (ds := [.int odd, .int odd, .int odd]) (by walk_at "mu") set_same (fun x hx => ?_) (by decide) ?_
    · simp only [List.mem_cons, List.not_mem_nil, or_false] at hx
      rcases hx with rfl | rfl | rfl <;> exact okn_int
    walk_at "go"
    have BR3 := BR2.sub (sub_new (Y := .lst (List.replicate (Int.toNat 3) [D.int odd]).flatten) (sub_new (Y := .lst [.int odd]) (sub_new (Y := .lst [.int odd, .int odd, .int odd]) Sub.refl hl9) hl10) hl11)
    refine use_np2 BR3 hs kd_int (kst _) w1 wst ?_
    walk_at "go"
    refine ro_neD (ost.ok (by decide)) (ost.ok (by decide)) ?_
    rw [eqv_self ost]
    refine ⟨_, rfl, ?_⟩
    walk_at "go"
    refine use_np1 BR3 hs (kst _) kd_int wst ?_
    walk_at "go"
    refine ro_neD (ost.ok (by decide)) (ost.ok (by decide)) ?_
    rw [eqv_self ost]
    refine ⟨_, rfl, ?_⟩
    walk_at "go"
    exact ⟨_, _, _, _, _, _, _, _, _, _, _, _, _, rfl⟩
end
theorem all_mk {l : PySem.W.OpenLaw} {w : World} {K : PySem.W.Frag} {h : Heap} {mg : Str → Option Value} {fa : Addr} (X : K.In h) (G : h.Ns mainGlobals mg) (hfa : mg "law" = some (.ref fa))
    {f1 f2 f3 f4 f5 f6 f7 f8 f9 f10 f11 f12 f13 f14 f15 f16 f17 f18 f19 : Addr}
    {od1 an1 od2 an2 od3 an3 od4 an4 od5 an5 od6 an6 od7 an7 od8 an8 od9 an9 od10 an10 od11 an11 od12 an12 od13 an13 od14 an14 od15 an15 od16 an16 od17 an17 od18 an18 od19 an19 : Option Addr}
    {sl1 sl2 sl3 sl4 sl5 sl6 sl7 sl8 sl9 sl10 sl11 sl12 sl13 sl14 sl15 sl16 sl17 sl18 sl19 : Array (Option Value)}
    {oc1 kV1 dc1 pm1 cd1 ct1 oc2 kV2 dc2 pm2 cd2 ct2 oc3 kV3 dc3 pm3 cd3 ct3 oc4 kV4 dc4 pm4 cd4 ct4 oc5 kV5 dc5 pm5 cd5 ct5 oc6 kV6 dc6 pm6 cd6 ct6 oc7 dc7 pm7 cd7 ct7 oc8 kV8 dc8 pm8 cd8 ct8 oc9 kV9 dc9 pm9 cd9 ct9 oc10 kV10 dc10 pm10 cd10 ct10 oc11 kV11 dc11 pm11 cd11 ct11 oc12 kV12 dc12 pm12 cd12 ct12 oc13 kV13 dc13 pm13 cd13 ct13 oc14 kV14 dc14 pm14 cd14 ct14 oc15 kV15 dc15 pm15 cd15 ct15 oc16 kV16 dc16 pm16 cd16 ct16 oc17 kV17 dc17 pm17 cd17 ct17 oc18 kV18 dc18 pm18 cd18 ct18 oc19 kV19 dc19 pm19 cd19 ct19 : Value}
    {C_Board : Addr}
    {C_NoBoard : Addr}
    {C_NoPin : Addr}
    {nm_NoPin qn_NoPin : Str} {N_NoPin fI_NoPin : Addr} {bs_NoPin : List Value} {sn_NoPin : List Str} {sub_NoPin : List Value} {ab_NoPin : Bool} {col_NoPin : Option Bool} {dd_NoPin od_NoPin an_NoPin : Option Addr} {m0_NoPin m1_NoPin m2_NoPin m3_NoPin m5_NoPin : Option Value} {osl_NoPin : Array (Option Value)} {oc_NoPin kV_NoPin dc_NoPin pm_NoPin cd_NoPin ct_NoPin : Value}
    {tk_MOST : Tok}
    {tk_MOST_LAYERS : Tok}
    {tk_MOST_PINS : Tok}
    {D7 : Addr}
    {tk7_layers : Tok}
    {tk7_spacing : Tok}
    (aC_Board : PySem.W.nsIn K mainGlobals "Board" = some (some (.ref C_Board)))
    (pg_Board : PySem.W.plainGet K C_Board Str.empty = true)
    (hd_Board : PySem.W.hasDictIn K C_Board = true)
    (po_Board : PySem.W.plainOver K C_Board = true)
    (sa_Board : PySem.W.findIn K (.ref C_Board) "__setattr__" = some (some (.builtin "object.__setattr__")))
    (n_Board_wide : PySem.W.findIn K (.ref C_Board) "wide" = some none)
    (n_Board_high : PySem.W.findIn K (.ref C_Board) "high" = some none)
    (n_Board_pin_rows : PySem.W.findIn K (.ref C_Board) "pin_rows" = some none)
    (n_Board_layer_count : PySem.W.findIn K (.ref C_Board) "layer_count" = some none)
    (n_Board_apart_by : PySem.W.findIn K (.ref C_Board) "apart_by" = some none)
    (n_Board_spots : PySem.W.findIn K (.ref C_Board) "spots" = some none)
    (n_Board_kept_gates : PySem.W.findIn K (.ref C_Board) "kept_gates" = some none)
    (n_Board_kept_triangles : PySem.W.findIn K (.ref C_Board) "kept_triangles" = some none)
    (mk_Board : PySem.W.makesIn K C_Board = true)
    (kc_Board : PySem.W.keepIn K (.ref C_Board) = true)
    (aC_NoBoard : PySem.W.nsIn K mainGlobals "NoBoard" = some (some (.ref C_NoBoard)))
    (kc_NoBoard : PySem.W.keepIn K (.ref C_NoBoard) = true)
    (eC_NoBoard : PySem.W.subIn K (.ref C_NoBoard) (.type "BaseException") = some true)
    (tC_NoBoard : PySem.W.typeIn K (.ref C_NoBoard) = some (.type "type"))
    (q_NoBoard : PySem.W.excIn K C_NoBoard [.type "ValueError", .type "Exception", .type "BaseException", .type "object"] "ValueError.__new__" = true)
    (aC_NoPin : PySem.W.nsIn K mainGlobals "NoPin" = some (some (.ref C_NoPin)))
    (kc_NoPin : PySem.W.keepIn K (.ref C_NoPin) = true)
    (eC_NoPin : PySem.W.subIn K (.ref C_NoPin) (.type "BaseException") = some true)
    (tC_NoPin : PySem.W.typeIn K (.ref C_NoPin) = some (.type "type"))
    (iS_NoPin : PySem.W.isClsIn K C_NoPin = true)
    (xL_NoPin : K.lookup C_NoPin = some (PySem.excClassObj nm_NoPin qn_NoPin C_NoPin N_NoPin bs_NoPin XO.tlIE true sn_NoPin sub_NoPin ab_NoPin col_NoPin dd_NoPin m0_NoPin m1_NoPin m2_NoPin m3_NoPin m5_NoPin "IndexError.__new__"))
    (sa_NoPin : PySem.W.findIn K (.ref C_NoPin) "__setattr__" = some (some (.builtin "object.__setattr__")))
    (ga_NoPin : PySem.W.findIn K (.ref C_NoPin) "__getattribute__" = some (some (.builtin "BaseException.__getattribute__")))
    (gg_NoPin : PySem.W.findIn K (.ref C_NoPin) "__getattr__" = some none)
    (nf_NoPin : PySem.W.findIn K (.ref C_NoPin) "pin" = some none)
    (hC_NoPin : PySem.W.hasDictIn K C_NoPin = true)
    (iC_NoPin : PySem.W.findIn K (.ref C_NoPin) "__init__" = some (some (.ref fI_NoPin)))
    (tI_NoPin : PySem.W.typeIn K (.ref fI_NoPin) = some (.type "function"))
    (lI_NoPin : K.lookup fI_NoPin = some ⟨oc_NoPin, od_NoPin, .func (PySem.W.fnOf "__init__" "NoPin.__init__" (defArgs s_nopin_init) (defBody s_nopin_init) (defScope s_nopin_init) .none kV_NoPin dc_NoPin pm_NoPin an_NoPin cd_NoPin ct_NoPin), osl_NoPin⟩)
    (cI_NoPin : PySem.W.codeIn K cd_NoPin "NoPin.__init__" = true)
    (kI_NoPin : PySem.W.keepIn K (.ref fI_NoPin) = true)
    (sub_NoPin_NoPin : PySem.W.subIn K (.ref C_NoPin) (.ref C_NoPin) = some true)
    (sub_NoBoard_NoPin : PySem.W.subIn K (.ref C_NoBoard) (.ref C_NoPin) = some false)
    (v_MOST : PySem.W.nsIn K mainGlobals "MOST" = some (some (.int 1000000 tk_MOST)))
    (v_MOST_LAYERS : PySem.W.nsIn K mainGlobals "MOST_LAYERS" = some (some (.int 3 tk_MOST_LAYERS)))
    (v_MOST_PINS : PySem.W.nsIn K mainGlobals "MOST_PINS" = some (some (.int 16 tk_MOST_PINS)))
    (a1 : PySem.W.nsIn K mainGlobals "is_whole" = some (some (.ref f1)))
    (l1 : K.lookup f1 = some ⟨oc1, od1, .func (PySem.W.fnOf "is_whole" "is_whole" (defArgs s_is_whole) (defBody s_is_whole) (defScope s_is_whole) .none kV1 dc1 pm1 an1 cd1 ct1), sl1⟩)
    (c1 : PySem.W.codeIn K cd1 "is_whole" = true)
    (k1 : PySem.W.keepIn K (.ref f1) = true)
    (a2 : PySem.W.nsIn K mainGlobals "is_within" = some (some (.ref f2)))
    (l2 : K.lookup f2 = some ⟨oc2, od2, .func (PySem.W.fnOf "is_within" "is_within" (defArgs s_is_within) (defBody s_is_within) (defScope s_is_within) .none kV2 dc2 pm2 an2 cd2 ct2), sl2⟩)
    (c2 : PySem.W.codeIn K cd2 "is_within" = true)
    (k2 : PySem.W.keepIn K (.ref f2) = true)
    (a3 : PySem.W.nsIn K mainGlobals "is_row" = some (some (.ref f3)))
    (l3 : K.lookup f3 = some ⟨oc3, od3, .func (PySem.W.fnOf "is_row" "is_row" (defArgs s_is_row) (defBody s_is_row) (defScope s_is_row) .none kV3 dc3 pm3 an3 cd3 ct3), sl3⟩)
    (c3 : PySem.W.codeIn K cd3 "is_row" = true)
    (k3 : PySem.W.keepIn K (.ref f3) = true)
    (a4 : PySem.W.nsIn K mainGlobals "are_whole" = some (some (.ref f4)))
    (l4 : K.lookup f4 = some ⟨oc4, od4, .func (PySem.W.fnOf "are_whole" "are_whole" (defArgs s_are_whole) (defBody s_are_whole) (defScope s_are_whole) .none kV4 dc4 pm4 an4 cd4 ct4), sl4⟩)
    (c4 : PySem.W.codeIn K cd4 "are_whole" = true)
    (k4 : PySem.W.keepIn K (.ref f4) = true)
    (a5 : PySem.W.nsIn K mainGlobals "is_pin_row" = some (some (.ref f5)))
    (l5 : K.lookup f5 = some ⟨oc5, od5, .func (PySem.W.fnOf "is_pin_row" "is_pin_row" (defArgs s_is_pin_row) (defBody s_is_pin_row) (defScope s_is_pin_row) .none kV5 dc5 pm5 an5 cd5 ct5), sl5⟩)
    (c5 : PySem.W.codeIn K cd5 "is_pin_row" = true)
    (k5 : PySem.W.keepIn K (.ref f5) = true)
    (a6 : PySem.W.nsIn K mainGlobals "are_board" = some (some (.ref f6)))
    (l6 : K.lookup f6 = some ⟨oc6, od6, .func (PySem.W.fnOf "are_board" "are_board" (defArgs s_are_board) (defBody s_are_board) (defScope s_are_board) .none kV6 dc6 pm6 an6 cd6 ct6), sl6⟩)
    (c6 : PySem.W.codeIn K cd6 "are_board" = true)
    (k6 : PySem.W.keepIn K (.ref f6) = true)
    (a7 : PySem.W.findIn K (.ref C_Board) "__init__" = some (some (.ref f7)))
    (i7 : PySem.W.isFn K (.ref f7) = true)
    (l7 : K.lookup f7 = some ⟨oc7, od7, .func (PySem.W.fnOf "__init__" "Board.__init__" (defArgs s_board_init) (defBody s_board_init) (defScope s_board_init) .none (.ref D7) dc7 pm7 an7 cd7 ct7), sl7⟩)
    (c7 : PySem.W.codeIn K cd7 "Board.__init__" = true)
    (k7 : PySem.W.keepIn K (.ref f7) = true)
    (d7_layers : PySem.W.nsIn K D7 "layers" = some (some (.int 1 tk7_layers)))
    (d7_spacing : PySem.W.nsIn K D7 "spacing" = some (some (.int 1 tk7_spacing)))
    (a8 : PySem.W.findIn K (.ref C_Board) "look_pin" = some (some (.ref f8)))
    (i8 : PySem.W.isFn K (.ref f8) = true)
    (l8 : K.lookup f8 = some ⟨oc8, od8, .func (PySem.W.fnOf "look_pin" "Board.look_pin" (defArgs s_board_look_pin) (defBody s_board_look_pin) (defScope s_board_look_pin) .none kV8 dc8 pm8 an8 cd8 ct8), sl8⟩)
    (c8 : PySem.W.codeIn K cd8 "Board.look_pin" = true)
    (k8 : PySem.W.keepIn K (.ref f8) = true)
    (a9 : PySem.W.findIn K (.ref C_Board) "room" = some (some (.ref f9)))
    (i9 : PySem.W.isFn K (.ref f9) = true)
    (l9 : K.lookup f9 = some ⟨oc9, od9, .func (PySem.W.fnOf "room" "Board.room" (defArgs s_board_room) (defBody s_board_room) (defScope s_board_room) .none kV9 dc9 pm9 an9 cd9 ct9), sl9⟩)
    (c9 : PySem.W.codeIn K cd9 "Board.room" = true)
    (k9 : PySem.W.keepIn K (.ref f9) = true)
    (a10 : PySem.W.nsIn K mainGlobals "_law_cell_at" = some (some (.ref f10)))
    (l10 : K.lookup f10 = some ⟨oc10, od10, .func (PySem.W.fnOf "_law_cell_at" "_law_cell_at" (defArgs s_l_cell_at) (defBody s_l_cell_at) (defScope s_l_cell_at) .none kV10 dc10 pm10 an10 cd10 ct10), sl10⟩)
    (c10 : PySem.W.codeIn K cd10 "_law_cell_at" = true)
    (k10 : PySem.W.keepIn K (.ref f10) = true)
    (a11 : PySem.W.nsIn K mainGlobals "_law_bag" = some (some (.ref f11)))
    (l11 : K.lookup f11 = some ⟨oc11, od11, .func (PySem.W.fnOf "_law_bag" "_law_bag" (defArgs s_l_bag) (defBody s_l_bag) (defScope s_l_bag) .none kV11 dc11 pm11 an11 cd11 ct11), sl11⟩)
    (c11 : PySem.W.codeIn K cd11 "_law_bag" = true)
    (k11 : PySem.W.keepIn K (.ref f11) = true)
    (a12 : PySem.W.nsIn K mainGlobals "_law_take" = some (some (.ref f12)))
    (l12 : K.lookup f12 = some ⟨oc12, od12, .func (PySem.W.fnOf "_law_take" "_law_take" (defArgs s_l_take) (defBody s_l_take) (defScope s_l_take) .none kV12 dc12 pm12 an12 cd12 ct12), sl12⟩)
    (c12 : PySem.W.codeIn K cd12 "_law_take" = true)
    (k12 : PySem.W.keepIn K (.ref f12) = true)
    (a13 : PySem.W.nsIn K mainGlobals "_law_made" = some (some (.ref f13)))
    (l13 : K.lookup f13 = some ⟨oc13, od13, .func (PySem.W.fnOf "_law_made" "_law_made" (defArgs s_l_made) (defBody s_l_made) (defScope s_l_made) .none kV13 dc13 pm13 an13 cd13 ct13), sl13⟩)
    (c13 : PySem.W.codeIn K cd13 "_law_made" = true)
    (k13 : PySem.W.keepIn K (.ref f13) = true)
    (a14 : PySem.W.nsIn K mainGlobals "_law_board" = some (some (.ref f14)))
    (l14 : K.lookup f14 = some ⟨oc14, od14, .func (PySem.W.fnOf "_law_board" "_law_board" (defArgs s_l_board) (defBody s_l_board) (defScope s_l_board) .none kV14 dc14 pm14 an14 cd14 ct14), sl14⟩)
    (c14 : PySem.W.codeIn K cd14 "_law_board" = true)
    (k14 : PySem.W.keepIn K (.ref f14) = true)
    (a15 : PySem.W.nsIn K mainGlobals "_law_points" = some (some (.ref f15)))
    (l15 : K.lookup f15 = some ⟨oc15, od15, .func (PySem.W.fnOf "_law_points" "_law_points" (defArgs s_l_points) (defBody s_l_points) (defScope s_l_points) .none kV15 dc15 pm15 an15 cd15 ct15), sl15⟩)
    (c15 : PySem.W.codeIn K cd15 "_law_points" = true)
    (k15 : PySem.W.keepIn K (.ref f15) = true)
    (a16 : PySem.W.nsIn K mainGlobals "_law_fit" = some (some (.ref f16)))
    (l16 : K.lookup f16 = some ⟨oc16, od16, .func (PySem.W.fnOf "_law_fit" "_law_fit" (defArgs s_l_fit) (defBody s_l_fit) (defScope s_l_fit) .none kV16 dc16 pm16 an16 cd16 ct16), sl16⟩)
    (c16 : PySem.W.codeIn K cd16 "_law_fit" = true)
    (k16 : PySem.W.keepIn K (.ref f16) = true)
    (a17 : PySem.W.nsIn K mainGlobals "_law_no_pin" = some (some (.ref f17)))
    (l17 : K.lookup f17 = some ⟨oc17, od17, .func (PySem.W.fnOf "_law_no_pin" "_law_no_pin" (defArgs s_l_no_pin) (defBody s_l_no_pin) (defScope s_l_no_pin) .none kV17 dc17 pm17 an17 cd17 ct17), sl17⟩)
    (c17 : PySem.W.codeIn K cd17 "_law_no_pin" = true)
    (k17 : PySem.W.keepIn K (.ref f17) = true)
    (a18 : PySem.W.nsIn K mainGlobals "_law_whole" = some (some (.ref f18)))
    (l18 : K.lookup f18 = some ⟨oc18, od18, .func (PySem.W.fnOf "_law_whole" "_law_whole" (defArgs s_l_whole) (defBody s_l_whole) (defScope s_l_whole) .none kV18 dc18 pm18 an18 cd18 ct18), sl18⟩)
    (c18 : PySem.W.codeIn K cd18 "_law_whole" = true)
    (k18 : PySem.W.keepIn K (.ref f18) = true)
    (a19 : PySem.W.nsIn K mainGlobals "law" = some (some (.ref f19)))
    (l19 : K.lookup f19 = some ⟨oc19, od19, .func (PySem.W.fnOf "law" "law" (defArgs s_law) (defBody s_law) (defScope s_law) .none kV19 dc19 pm19 an19 cd19 ct19), sl19⟩)
    (c19 : PySem.W.codeIn K cd19 "law" = true)
    (k19 : PySem.W.keepIn K (.ref f19) = true)
    (z_abs : PySem.W.nsIn K mainGlobals "abs" = some none)
    (z_all : PySem.W.nsIn K mainGlobals "all" = some none)
    (z_bool : PySem.W.nsIn K mainGlobals "bool" = some none)
    (z_int : PySem.W.nsIn K mainGlobals "int" = some none)
    (z_isinstance : PySem.W.nsIn K mainGlobals "isinstance" = some none)
    (z_len : PySem.W.nsIn K mainGlobals "len" = some none)
    (z_max : PySem.W.nsIn K mainGlobals "max" = some none)
    (z_min : PySem.W.nsIn K mainGlobals "min" = some none)
    (z_range : PySem.W.nsIn K mainGlobals "range" = some none)
    (z_tuple : PySem.W.nsIn K mainGlobals "tuple" = some none) :
    ∃ fd : FuncData, (∀ (s : Shared) (v : Value), BindsTo s fd ⟨[v], []⟩ [("_law_script", v)]) ∧ ∀ base : Heap, K.In base → base.Ns mainGlobals mg → FnOk l.prog w K mg base CX0 10 fa fd ["_law_script"] (spI K P_law) := by
  have e := hfa.symm.trans (PySem.W.mg_of X G a19)
  cases e
  have B : Bs mg := ⟨PySem.W.mg_none_of X G z_abs, PySem.W.mg_none_of X G z_all, PySem.W.mg_none_of X G z_bool, PySem.W.mg_none_of X G z_int, PySem.W.mg_none_of X G z_isinstance, PySem.W.mg_none_of X G z_len, PySem.W.mg_none_of X G z_max, PySem.W.mg_none_of X G z_min, PySem.W.mg_none_of X G z_range, PySem.W.mg_none_of X G z_tuple⟩
  have K_Board : Cl_Board K C_Board := ⟨⟨pg_Board, hd_Board, po_Board, sa_Board⟩, n_Board_wide, n_Board_high, n_Board_pin_rows, n_Board_layer_count, n_Board_apart_by, n_Board_spots, n_Board_kept_gates, n_Board_kept_triangles⟩
  have V_MOST : Cst mg "MOST" (.int 1000000) := ⟨_, PySem.W.mg_of X G v_MOST, ⟨_, rfl⟩⟩
  have V_MOST_LAYERS : Cst mg "MOST_LAYERS" (.int 3) := ⟨_, PySem.W.mg_of X G v_MOST_LAYERS, ⟨_, rfl⟩⟩
  have V_MOST_PINS : Cst mg "MOST_PINS" (.int 16) := ⟨_, PySem.W.mg_of X G v_MOST_PINS, ⟨_, rfl⟩⟩
  have H_NoPin_NoPin := exm_pair eC_NoPin iS_NoPin tC_NoPin sub_NoPin_NoPin
  have H_NoBoard_NoPin := exm_pair eC_NoPin iS_NoPin tC_NoPin sub_NoBoard_NoPin
  have F1 := fun_mk (st := s_is_whole) l1 c1 k1
  have F2 := fun_mk (st := s_is_within) l2 c2 k2
  have F3 := fun_mk (st := s_is_row) l3 c3 k3
  have F4 := fun_mk (st := s_are_whole) l4 c4 k4
  have F5 := fun_mk (st := s_is_pin_row) l5 c5 k5
  have F6 := fun_mk (st := s_are_board) l6 c6 k6
  have F7 : FunD K "__init__" "Board.__init__" (defArgs s_board_init) (defBody s_board_init) (defScope s_board_init) [] [("layers", .int 1), ("spacing", .int 1)] f7 _ := ⟨⟨oc7, od7, .none, .ref D7, dc7, pm7, an7, cd7, ct7, sl7, rfl, l7, c7, .inl ⟨rfl, rfl⟩, .inr ⟨D7, rfl, fun q hq => by
    simp only [List.mem_cons, List.not_mem_nil, or_false] at hq
    rcases hq with rfl | rfl
    · exact ⟨_, d7_layers, ⟨_, rfl⟩⟩
    · exact ⟨_, d7_spacing, ⟨_, rfl⟩⟩⟩⟩, k7⟩
  have F8 := fun_mk (st := s_board_look_pin) l8 c8 k8
  have F9 := fun_mk (st := s_board_room) l9 c9 k9
  have F10 := fun_mk (st := s_l_cell_at) l10 c10 k10
  have F11 := fun_mk (st := s_l_bag) l11 c11 k11
  have F12 := fun_mk (st := s_l_take) l12 c12 k12
  have F13 := fun_mk (st := s_l_made) l13 c13 k13
  have F14 := fun_mk (st := s_l_board) l14 c14 k14
  have F15 := fun_mk (st := s_l_points) l15 c15 k15
  have F16 := fun_mk (st := s_l_fit) l16 c16 k16
  have F17 := fun_mk (st := s_l_no_pin) l17 c17 k17
  have F18 := fun_mk (st := s_l_whole) l18 c18 k18
  have F19 := fun_mk (st := s_law) l19 c19 k19
  refine ⟨PySem.W.fnOf "law" "law" (defArgs s_law) (defBody s_law) (defScope s_law) .none kV19 dc19 pm19 an19 cd19 ct19, fun s v => .of_eq rfl, fun base _ _ => ?_⟩
  have E_NoBoard : Exc0 K mg "NoBoard" C_NoBoard := ⟨⟨"ValueError", _, _, XO.tlVE, PySem.F.excBase_ValueError, q_NoBoard⟩, PySem.W.mg_of X G aC_NoBoard, kc_NoBoard, eC_NoBoard, tC_NoBoard⟩
  have FX_NoPin := fun_mk (st := s_nopin_init) lI_NoPin cI_NoPin kI_NoPin
  have bX_NoPin := FX_NoPin.binds (ps := ["self", "pin"]) fun _ _ _ _ _ _ us hl => match us, hl with | [_, _], _ => rfl
  have E_NoPin : Exc1 l.prog w K mg base "NoPin" "pin" C_NoPin := ⟨⟨"IndexError", _, _, _, XO.tlIE, fI_NoPin, _, "self", "pin", PySem.F.excBase_IndexError, ⟨by decide +kernel, by decide +kernel, by decide +kernel⟩, ⟨⟨_, _, _, _, _, _, _, _, _, _, _, _, _, _, _, xL_NoPin, by decide +kernel⟩, XO.bt_IE, sa_NoPin, eC_NoPin, tC_NoPin, kc_NoPin⟩, iC_NoPin, tI_NoPin, xi_NoPin FX_NoPin, bX_NoPin⟩, nf_NoPin, PySem.W.mg_of X G aC_NoPin, ⟨ga_NoPin, gg_NoPin, eC_NoPin, hC_NoPin⟩⟩
  have b1 := F1.binds (ps := ["thing"]) fun _ _ _ _ _ _ us hl => match us, hl with | [_], _ => rfl
  have G1 : Def l.prog w K mg base "is_whole" ["thing"] 1 (spI K P_is_whole) := ⟨f1, _, ok_is_whole F1 B, PySem.W.mg_of X G a1, k1, b1⟩
  have b2 := F2.binds (ps := ["thing", "least", "most"]) fun _ _ _ _ _ _ us hl => match us, hl with | [_, _, _], _ => rfl
  have G2 : Def l.prog w K mg base "is_within" ["thing", "least", "most"] 2 (spI K P_is_within) := ⟨f2, _, ok_is_within F2 B G1, PySem.W.mg_of X G a2, k2, b2⟩
  have b3 := F3.binds (ps := ["thing", "least", "most"]) fun _ _ _ _ _ _ us hl => match us, hl with | [_, _, _], _ => rfl
  have G3 : Def l.prog w K mg base "is_row" ["thing", "least", "most"] 1 (spI K P_is_row) := ⟨f3, _, ok_is_row F3 B, PySem.W.mg_of X G a3, k3, b3⟩
  have b4 := F4.binds (ps := ["thing", "many"]) fun _ _ _ _ _ _ us hl => match us, hl with | [_, _], _ => rfl
  have G4 : Def l.prog w K mg base "are_whole" ["thing", "many"] 2 (spI K P_are_whole) := ⟨f4, _, ok_are_whole F4 B G3 G1, PySem.W.mg_of X G a4, k4, b4⟩
  have b5 := F5.binds (ps := ["thing", "width", "height", "layers"]) fun _ _ _ _ _ _ us hl => match us, hl with | [_, _, _, _], _ => rfl
  have G5 : Def l.prog w K mg base "is_pin_row" ["thing", "width", "height", "layers"] 3 (spI K P_is_pin_row) := ⟨f5, _, ok_is_pin_row F5 B G4, PySem.W.mg_of X G a5, k5, b5⟩
  have b6 := F6.binds (ps := ["width", "height", "pins", "layers", "spacing"]) fun _ _ _ _ _ _ us hl => match us, hl with | [_, _, _, _, _], _ => rfl
  have G6 : Def l.prog w K mg base "are_board" ["width", "height", "pins", "layers", "spacing"] 4 (spI K P_are_board) := ⟨f6, _, ok_are_board F6 B V_MOST V_MOST_LAYERS V_MOST_PINS G5 G3 G2, PySem.W.mg_of X G a6, k6, b6⟩
  obtain ⟨g7, hb7⟩ := kbn_of (ps := ["self", "width", "height", "pins", "layers", "spacing"]) F7 4 ["spacing", "layers"] [] [(true, 1), (true, 0)] (by simp) (by simp) (fun D doc pm an cdv ct us mv ws h1 h2 h3 => match us, mv, ws, h1, h2, h3 with | [_, _, _, _], [], [_, _], _, _, _ => rfl)
  have M_Board : MkK l.prog w K mg base "Board" C_Board ["self", "width", "height", "pins", "layers", "spacing"] 3 ["spacing", "layers"] [(true, 1), (true, 0)] [] 6 (spX K (xn mg) (P_board_init C_Board)) := ⟨⟨f7, _, g7, ⟨mk_Board, a7, i7, kc_Board⟩, ok_board_init F7 B K_Board E_NoBoard G6, PySem.W.mg_of X G aC_Board, hb7⟩⟩
  have b8 := F8.binds (ps := ["self", "number"]) fun _ _ _ _ _ _ us hl => match us, hl with | [_, _], _ => rfl
  have G8 : Mth l.prog w K mg base C_Board "look_pin" ["self", "number"] 4 (spX K (xn mg) (P_board_look_pin C_Board)) := ⟨f8, _, ok_board_look_pin F8 B K_Board E_NoPin G2, K_Board.cls, ⟨a8, i8, k8⟩, b8⟩
  have b9 := F9.binds (ps := ["self", "one", "other"]) fun _ _ _ _ _ _ us hl => match us, hl with | [_, _, _], _ => rfl
  have G9 : Mth l.prog w K mg base C_Board "room" ["self", "one", "other"] 5 (spX K (xn mg) (P_board_room C_Board)) := ⟨f9, _, ok_board_room F9 B K_Board G8, K_Board.cls, ⟨a9, i9, k9⟩, b9⟩
  have b10 := F10.binds (ps := ["_law_script", "_law_k"]) fun _ _ _ _ _ _ us hl => match us, hl with | [_, _], _ => rfl
  have G10 : Def l.prog w K mg base "_law_cell_at" ["_law_script", "_law_k"] 1 (spI K P_l_cell_at) := ⟨f10, _, ok_l_cell_at F10 B, PySem.W.mg_of X G a10, k10, b10⟩
  have b11 := F11.binds (ps := ["_law_script", "_law_at"]) fun _ _ _ _ _ _ us hl => match us, hl with | [_, _], _ => rfl
  have G11 : Def l.prog w K mg base "_law_bag" ["_law_script", "_law_at"] 2 (spI K P_l_bag) := ⟨f11, _, ok_l_bag F11 B G10, PySem.W.mg_of X G a11, k11, b11⟩
  have b12 := F12.binds (ps := ["_law_bag_here", "_law_many"]) fun _ _ _ _ _ _ us hl => match us, hl with | [_, _], _ => rfl
  have G12 : Def l.prog w K mg base "_law_take" ["_law_bag_here", "_law_many"] 1 (spI K P_l_take) := ⟨f12, _, ok_l_take F12 B, PySem.W.mg_of X G a12, k12, b12⟩
  have b13 := F13.binds (ps := ["_law_bag_here", "_law_most"]) fun _ _ _ _ _ _ us hl => match us, hl with | [_, _], _ => rfl
  have G13 : Def l.prog w K mg base "_law_made" ["_law_bag_here", "_law_most"] 3 (spI K P_l_made) := ⟨f13, _, ok_l_made F13 B G12, PySem.W.mg_of X G a13, k13, b13⟩
  have b14 := F14.binds (ps := ["_law_made_here"]) fun _ _ _ _ _ _ us hl => match us, hl with | [_], _ => rfl
  have G14 : Def l.prog w K mg base "_law_board" ["_law_made_here"] 8 (spI K (P_l_board C_Board)) := ⟨f14, _, ok_l_board F14 B K_Board M_Board, PySem.W.mg_of X G a14, k14, b14⟩
  have b15 := F15.binds (ps := ["_law_made_here"]) fun _ _ _ _ _ _ us hl => match us, hl with | [_], _ => rfl
  have G15 : Def l.prog w K mg base "_law_points" ["_law_made_here"] 1 (spI K P_l_points) := ⟨f15, _, ok_l_points F15 B, PySem.W.mg_of X G a15, k15, b15⟩
  have b16 := F16.binds (ps := ["_law_far", "_law_gap"]) fun _ _ _ _ _ _ us hl => match us, hl with | [_, _], _ => rfl
  have G16 : Def l.prog w K mg base "_law_fit" ["_law_far", "_law_gap"] 1 (spI K P_l_fit) := ⟨f16, _, ok_l_fit F16 B, PySem.W.mg_of X G a16, k16, b16⟩
  have b17 := F17.binds (ps := ["_law_board_here", "_law_first", "_law_second"]) fun _ _ _ _ _ _ us hl => match us, hl with | [_, _, _], _ => rfl
  have G17 : Def l.prog w K mg base "_law_no_pin" ["_law_board_here", "_law_first", "_law_second"] 6 (spI K (P_l_no_pin C_Board)) := ⟨f17, _, ok_l_no_pin F17 B K_Board E_NoBoard E_NoPin H_NoBoard_NoPin H_NoPin_NoPin G9, PySem.W.mg_of X G a17, k17, b17⟩
  have b18 := F18.binds (ps := ["_law_thing"]) fun _ _ _ _ _ _ us hl => match us, hl with | [_], _ => rfl
  have G18 : Def l.prog w K mg base "_law_whole" ["_law_thing"] 1 (spI K P_l_whole) := ⟨f18, _, ok_l_whole F18 B, PySem.W.mg_of X G a18, k18, b18⟩
  exact ok_law F19 B K_Board G9 G11 G14 G16 G13 G17 G15 G12 G18
theorem walk {l : PySem.W.OpenLaw} {q : Program} {loose : List Str} {XP : (Str → Option Value) → Heap → Prop} {YP : World → Heap → Prop} {d : DefRec} {K : Params → PySem.W.Frag} (hn : l.most = some 63) (hdf : d.params.defaults = [])
    (hY : ∀ (w : World) (h : Heap), YP w h → (K w.params).In h)
    (F : ∀ (w : World) (mg : Str → Option Value) (fa : Addr) (h : Heap), (K w.params).In h → h.Ns mainGlobals mg → mg d.name = some (.ref fa) →
      ∃ fd : FuncData, (∀ (s : Shared) (u : Value), BindsTo s fd ⟨[u], []⟩ [("_law_script", u)]) ∧ ∀ base : Heap, (K w.params).In base → base.Ns mainGlobals mg → FnOk l.prog w (K w.params) mg base CX0 10 fa fd ["_law_script"] (spI (K w.params) P_law)) :
    PySem.W.WalkO q loose XP YP l.row.toRowW d [] (fun f vs => PySem.call f vs) :=
  L2.walk_of (n := 63) (k := 10) (x := "_law_script") (CX := fun _ => CX0) (sp := fun w => spI (K w.params) P_law) hn (by decide) hdf ⟨rfl, by decide, by decide⟩ hY F (fun _ _ a ns hl hO hS => law_start hl hO hS) fun _ _ _ _ _ z => z
end W
open PySem PySem.W PyProof.Rows in
set_option maxRecDepth 100000 in
set_option maxHeartbeats 0 in
theorem PySem.Challenge.cw_rubberroutes_k10_rooms_holds : PySem.Challenge.rw_rubberroutes_k10_rooms.Holds := by
  w_on; o_law; k_head; (case hw => w_witness2)
  k_fill
  refine W.walk (l := PySem.Challenge.rw_rubberroutes_k10_rooms) rfl rfl (fun w h Y => by first | exact PySem.W.kIn_of Y | exact PySem.W.km_in_of Y) ?F
  case F =>
    intro w mg fa h KX G hmg
    refine' W.all_mk KX G hmg ?aC_Board ?pg_Board ?hd_Board ?po_Board ?sa_Board ?n_Board_wide ?n_Board_high ?n_Board_pin_rows ?n_Board_layer_count ?n_Board_apart_by ?n_Board_spots ?n_Board_kept_gates ?n_Board_kept_triangles ?mk_Board ?kc_Board ?aC_NoBoard ?kc_NoBoard ?eC_NoBoard ?tC_NoBoard ?q_NoBoard ?aC_NoPin ?kc_NoPin ?eC_NoPin ?tC_NoPin ?iS_NoPin ?xL_NoPin ?sa_NoPin ?ga_NoPin ?gg_NoPin ?nf_NoPin ?hC_NoPin ?iC_NoPin ?tI_NoPin ?lI_NoPin ?cI_NoPin ?kI_NoPin ?sub_NoPin_NoPin ?sub_NoBoard_NoPin ?v_MOST ?v_MOST_LAYERS ?v_MOST_PINS ?a1 ?l1 ?c1 ?k1 ?a2 ?l2 ?c2 ?k2 ?a3 ?l3 ?c3 ?k3 ?a4 ?l4 ?c4 ?k4 ?a5 ?l5 ?c5 ?k5 ?a6 ?l6 ?c6 ?k6 ?a7 ?i7 ?l7 ?c7 ?k7 ?d7_layers ?d7_spacing ?a8 ?i8 ?l8 ?c8 ?k8 ?a9 ?i9 ?l9 ?c9 ?k9 ?a10 ?l10 ?c10 ?k10 ?a11 ?l11 ?c11 ?k11 ?a12 ?l12 ?c12 ?k12 ?a13 ?l13 ?c13 ?k13 ?a14 ?l14 ?c14 ?k14 ?a15 ?l15 ?c15 ?k15 ?a16 ?l16 ?c16 ?k16 ?a17 ?l17 ?c17 ?k17 ?a18 ?l18 ?c18 ?k18 ?a19 ?l19 ?c19 ?k19 ?z_abs ?z_all ?z_bool ?z_int ?z_isinstance ?z_len ?z_max ?z_min ?z_range ?z_tuple
    (case aC_Board => k_is)
    (case pg_Board => k_is)
    (case hd_Board => k_is)
    (case po_Board => k_is)
    (case sa_Board => k_is)
    (case n_Board_wide => k_is)
    (case n_Board_high => k_is)
    (case n_Board_pin_rows => k_is)
    (case n_Board_layer_count => k_is)
    (case n_Board_apart_by => k_is)
    (case n_Board_spots => k_is)
    (case n_Board_kept_gates => k_is)
    (case n_Board_kept_triangles => k_is)
    (case mk_Board => k_is)
    (case kc_Board => k_is)
    (case aC_NoBoard => k_is)
    (case kc_NoBoard => k_is)
    (case eC_NoBoard => k_is)
    (case tC_NoBoard => k_is)
    (case q_NoBoard => k_exc)
    (case aC_NoPin => k_is)
    (case kc_NoPin => k_is)
    (case eC_NoPin => k_is)
    (case tC_NoPin => k_is)
    (case iS_NoPin => k_is)
    (case xL_NoPin => k_is)
    (case sa_NoPin => k_is)
    (case ga_NoPin => k_is)
    (case gg_NoPin => k_is)
    (case nf_NoPin => k_is)
    (case hC_NoPin => k_is)
    (case iC_NoPin => k_is)
    (case tI_NoPin => k_is)
    (case lI_NoPin => k_is)
    (case cI_NoPin => k_is)
    (case kI_NoPin => k_is)
    (case sub_NoPin_NoPin => k_is)
    (case sub_NoBoard_NoPin => k_is)
    (case v_MOST => k_is)
    (case v_MOST_LAYERS => k_is)
    (case v_MOST_PINS => k_is)
    (case a1 => k_is)
    (case l1 => k_is)
    (case c1 => k_is)
    (case k1 => k_is)
    (case a2 => k_is)
    (case l2 => k_is)
    (case c2 => k_is)
    (case k2 => k_is)
    (case a3 => k_is)
    (case l3 => k_is)
    (case c3 => k_is)
    (case k3 => k_is)
    (case a4 => k_is)
    (case l4 => k_is)
    (case c4 => k_is)
    (case k4 => k_is)
    (case a5 => k_is)
    (case l5 => k_is)
    (case c5 => k_is)
    (case k5 => k_is)
    (case a6 => k_is)
    (case l6 => k_is)
    (case c6 => k_is)
    (case k6 => k_is)
    (case a7 => k_is)
    (case i7 => k_is)
    (case l7 => k_is)
    (case c7 => k_is)
    (case k7 => k_is)
    (case d7_layers => k_is)
    (case d7_spacing => k_is)
    (case a8 => k_is)
    (case i8 => k_is)
    (case l8 => k_is)
    (case c8 => k_is)
    (case k8 => k_is)
    (case a9 => k_is)
    (case i9 => k_is)
    (case l9 => k_is)
    (case c9 => k_is)
    (case k9 => k_is)
    (case a10 => k_is)
    (case l10 => k_is)
    (case c10 => k_is)
    (case k10 => k_is)
    (case a11 => k_is)
    (case l11 => k_is)
    (case c11 => k_is)
    (case k11 => k_is)
    (case a12 => k_is)
    (case l12 => k_is)
    (case c12 => k_is)
    (case k12 => k_is)
    (case a13 => k_is)
    (case l13 => k_is)
    (case c13 => k_is)
    (case k13 => k_is)
    (case a14 => k_is)
    (case l14 => k_is)
    (case c14 => k_is)
    (case k14 => k_is)
    (case a15 => k_is)
    (case l15 => k_is)
    (case c15 => k_is)
    (case k15 => k_is)
    (case a16 => k_is)
    (case l16 => k_is)
    (case c16 => k_is)
    (case k16 => k_is)
    (case a17 => k_is)
    (case l17 => k_is)
    (case c17 => k_is)
    (case k17 => k_is)
    (case a18 => k_is)
    (case l18 => k_is)
    (case c18 => k_is)
    (case k18 => k_is)
    (case a19 => k_is)
    (case l19 => k_is)
    (case c19 => k_is)
    (case k19 => k_is)
    (case z_abs => k_is)
    (case z_all => k_is)
    (case z_bool => k_is)
    (case z_int => k_is)
    (case z_isinstance => k_is)
    (case z_len => k_is)
    (case z_max => k_is)
    (case z_min => k_is)
    (case z_range => k_is)
    (case z_tuple => k_is)
