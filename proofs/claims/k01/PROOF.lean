import PyProof.Rows.All
import Wide.All
import OpenK.AllK
import Wide.FinOn
import HandS.ForMost
import HandS.Wide
import HandS.IsInst
import HandS.Deep
import HandS.Style
import HandS.Zip
import HandS.Defaults
import HandS.TryOnly
import HandS.Zip0
import KE.KDictZip
import KE.KItemsList
import HandS.ListItems
import HandS.TupAny
import HandS.ExcOwn
import HandS.Lambda
import HandS.ExcInit
import HandS.WordsExc
import HandS.MakeKwOnly
import HandS.ExcField
import HandS.HotCalls
import HandS.SetBool
import HandS.TupSets
import HandS.Flt
import KE.SortData
import HandS.SuiteRaise
import HandS.RaiseFrom
import PyProof.NsDelKeeps
import HandS.ExcIs
import KE.KTryMore
import PySem.Challenge.RW_rubberroutes_k01_fractions_made
set_option Elab.async false
set_option linter.all false
set_option maxRecDepth 100000
set_option maxHeartbeats 4000000
namespace Z
open PySem L2
inductive D where
  | non | bl (b : Bool) | int (i : Int) | str (s : Str) | ty (n : String) | tup (ds : List D) | rol (ds : List D) | ref (a : Addr)
inductive MO where
  | lst (ds : List D) | dK (kvs : List (Key × D)) | dT (kvs : List (List Key × D)) | ins (C dx : Addr) (fs : List (Str × D)) | xd (fs : List (Str × D)) | fT (od : Obj) (vs : List (List Key × V)) (kvs : List (List Key × D)) | fK (od : Obj) (vs : List (Key × V)) (kvs : List (Key × D)) | fTp (od : Obj) (ds : List D) | xo (od : Obj) (C : Addr) | tab (q : Str)
abbrev M := Addr → Option MO
def M.set (μ : M) (a : Addr) (m : MO) : M := fun b => if b = a then some m else μ b
theorem set_same {μ : M} {a : Addr} {m : MO} : μ.set a m a = some m := by unfold M.set; rw [if_pos rfl]
theorem set_ne {μ : M} {a b : Addr} {m : MO} (h : b ≠ a) : μ.set a m b = μ b := by unfold M.set; rw [if_neg h]
inductive TupAt (K : PySem.W.Frag) (H : Hp) (a : Addr) (xs : List V) : Prop
  | inl (h : H a = some (.tup xs)) : TupAt K H a xs
def RolAt (K : PySem.W.Frag) (H : Hp) (a : Addr) (xs : List V) : Prop :=
  (∃ o, H a = some (.frz o (.lst xs))) ∨ ∃ (o : Obj) (its : Array Value) (n : Nat), K.lookup a = some o ∧ o.cls = .type "list" ∧ o.dict = none ∧ o.data = .seq its n ∧ its.size ≤ sizeLine ∧ Vals xs its.toList
theorem TupAt.sq {K : PySem.W.Frag} {H : Hp} {a : Addr} {xs : List V} (h : TupAt K H a xs) : SqT K H a xs := by
  cases h with
  | inl h => exact .inl (.inl h)
theorem RolAt.sq {K : PySem.W.Frag} {H : Hp} {a : Addr} {xs : List V} (h : RolAt K H a xs) : SqL K H a xs := by
  rcases h with ⟨o, h⟩ | h
  · exact .inl (.inr ⟨o, h⟩)
  · exact .inr h
mutual
inductive Rel (K : PySem.W.Frag) (H : Hp) : V → D → Prop
  | non : Rel K H .non .non
  | bl (b : Bool) : Rel K H (.bl b) (.bl b)
  | int (i : Int) : Rel K H (.int i) (.int i)
  | str (s : Str) : Rel K H (.str s) (.str s)
  | ty (n : String) : Rel K H (.ty n) (.ty n)
  | ref (a : Addr) : Rel K H (.ref a) (.ref a)
  | tup {a : Addr} {xs : List V} {ds : List D} : TupAt K H a xs → Rels K H xs ds → Rel K H (.ref a) (.tup ds)
  | rol {a : Addr} {xs : List V} {ds : List D} : RolAt K H a xs → Rels K H xs ds → Rel K H (.ref a) (.rol ds)
inductive Rels (K : PySem.W.Frag) (H : Hp) : List V → List D → Prop
  | nil : Rels K H [] []
  | cons {v : V} {vs : List V} {d : D} {ds : List D} : Rel K H v d → Rels K H vs ds → Rels K H (v :: vs) (d :: ds)
end
/-- field lists, pair lists -/
def RelKV {κ : Type} (K : PySem.W.Frag) (H : Hp) : List (κ × V) → List (κ × D) → Prop := Paired fun p q => p.1 = q.1 ∧ Rel K H p.2 q.2
def MRel (K : PySem.W.Frag) (H : Hp) (a : Addr) : MO → Prop
  | .lst ds => ∃ vs, H a = some (.lst vs) ∧ Rels K H vs ds
  | .dK kvs => ∃ vs, H a = some (.dK vs) ∧ RelKV K H vs kvs
  | .dT kvs => ∃ vs, H a = some (.dT vs) ∧ RelKV K H vs kvs
  | .ins C dx fs => ∃ vs, H a = some (.ins C dx vs) ∧ RelKV K H vs fs
  | .xd fs => ∃ vs, H a = some (.xd vs) ∧ RelKV K H vs fs
  | .fT od us kvs => ∃ vs, H a = some (.frz od (.dT vs)) ∧ RelKV K H vs kvs ∧ vs = us
  | .fK od us kvs => ∃ vs, H a = some (.frz od (.dK vs)) ∧ RelKV K H vs kvs ∧ vs = us
  | .fTp od ds => ∃ vs, H a = some (.frz od (.tup vs)) ∧ Rels K H vs ds ∧ od.dict = none
  | .xo od C => ∃ z : Addr, H a = some (.frz od (.own z)) ∧ od.cls = .ref C ∧ ∃ vs, od.data = .fields vs
  | .tab q => ∃ ps : Array Value, H a = some (.tbl ps) ∧ TriplesOk ps.toList ∧ ∀ (pos : Pos) (cv : Value), codeAmong pos ps.toList = some cv → ∃ c, cv = .ref c ∧ H c = some (LamX.CodeO c q)
def Con (K : PySem.W.Frag) (H : Hp) (μ : M) : Prop := ∀ a m, μ a = some m → MRel K H a m
abbrev T := List (Option D)
def Slots (K : PySem.W.Frag) (H : Hp) (τ : T) (σ : St) : Prop := τ.length = σ.length ∧ ∀ (i : Nat) (d : D), τ[i]? = some (some d) → ∃ v, σ[i]? = some (some v) ∧ Rel K H v d
/-- what is tracked outside of the store stays, and stays outside -/
def Fr (μ μ' : M) (H H' : Hp) : Prop := ∀ a o, μ a = none → H a = some o → H' a = some o ∧ μ' a = none
section
variable {K : PySem.W.Frag} {H H' H1 H2 : Hp} {μ μ' μ1 μ2 : M} {τ : T} {σ : St}
theorem Fr.refl : Fr μ μ H H := fun _ _ h e => ⟨e, h⟩
theorem Fr.trans (a : Fr μ μ1 H H1) (b : Fr μ1 μ2 H1 H2) : Fr μ μ2 H H2 := fun x o h e => let ⟨e1, h1⟩ := a x o h e; b x o h1 e1
theorem Con.tn (c : Con K H μ) {a : Addr} {xs : List V} (e : H a = some (.tup xs)) : μ a = none := by
  cases q : μ a with
  | none => rfl
  | some m =>
    have r := c a m q
    cases m <;> (obtain ⟨vs, h, _⟩ := r; rw [e] at h; cases h)
theorem Con.fn (c : Con K H μ) {a : Addr} {o : Obj} {u : List V} (e : H a = some (.frz o (.lst u))) : μ a = none := by
  cases q : μ a with
  | none => rfl
  | some m =>
    have r := c a m q
    cases m <;> (obtain ⟨vs, h, _⟩ := r; rw [e] at h; cases h)
theorem Con.free (c : Con K H μ) {a : Addr} (e : H a = none) : μ a = none := by
  cases q : μ a with
  | none => rfl
  | some m =>
    have r := c a m q
    cases m <;> (obtain ⟨vs, h, _⟩ := r; rw [e] at h; cases h)
/-- tuples and read-only lists stay -/
structure Tx (H H' : Hp) : Prop where
  t : ∀ a xs, H a = some (.tup xs) → H' a = some (.tup xs)
  l : ∀ a o xs, H a = some (.frz o (.lst xs)) → H' a = some (.frz o (.lst xs))
  c : ∀ a q, H a = some (LamX.CodeO a q) → H' a = some (LamX.CodeO a q)
theorem Con.cn (c : Con K H μ) {a : Addr} {q : Str} (e : H a = some (LamX.CodeO a q)) : μ a = none := by
  cases h : μ a with
  | none => rfl
  | some m =>
    have r := c a m h
    unfold LamX.CodeO at e
    cases m <;> (obtain ⟨vs, h, _⟩ := r; rw [e] at h; cases h)
theorem Tx.refl : Tx H H := ⟨fun _ _ h => h, fun _ _ _ h => h, fun _ _ h => h⟩
theorem Tx.trans (a : Tx H H1) (b : Tx H1 H2) : Tx H H2 := ⟨fun x xs h => b.t x xs (a.t x xs h), fun x o xs h => b.l x o xs (a.l x o xs h), fun x q h => b.c x q (a.c x q h)⟩
theorem Fr.tx (f : Fr μ μ' H H') (c : Con K H μ) : Tx H H' := ⟨fun a xs e => (f a _ (c.tn e) e).1, fun a o xs e => (f a _ (c.fn e) e).1, fun a q e => (f a _ (c.cn e) e).1⟩
theorem TupAt.mono {a : Addr} {xs : List V} (t : Tx H H') (h : TupAt K H a xs) : TupAt K H' a xs := by
  cases h with
  | inl h => exact .inl (t.t _ _ h)
theorem RolAt.mono {a : Addr} {xs : List V} (t : Tx H H') (h : RolAt K H a xs) : RolAt K H' a xs := by
  rcases h with ⟨o, h⟩ | h
  · exact .inl ⟨o, t.l _ _ _ h⟩
  · exact .inr h
mutual
theorem Rel.mono (t : Tx H H') : ∀ (d : D) (v : V), Rel K H v d → Rel K H' v d
  | .non, _, .non => .non
  | .bl _, _, .bl b => .bl b
  | .int _, _, .int b => .int b
  | .str _, _, .str b => .str b
  | .ty _, _, .ty b => .ty b
  | .ref _, _, .ref b => .ref b
  | .tup ds, _, .tup h r => .tup (h.mono t) (Rels.mono t ds _ r)
  | .rol ds, _, .rol h r => .rol (h.mono t) (Rels.mono t ds _ r)
theorem Rels.mono (t : Tx H H') : ∀ (ds : List D) (vs : List V), Rels K H vs ds → Rels K H' vs ds
  | [], _, .nil => .nil
  | d :: ds, _, .cons a b => .cons (Rel.mono t d _ a) (Rels.mono t ds _ b)
end
theorem RelKV.mono {κ : Type} (t : Tx H H') : ∀ {xs : List (κ × V)} {ys : List (κ × D)}, RelKV K H xs ys → RelKV K H' xs ys
  | _, _, .nil => .nil
  | _, _, .cons a b => .cons ⟨a.1, Rel.mono t _ _ a.2⟩ (RelKV.mono t b)
theorem Slots.mono (t : Tx H H') (s : Slots K H τ σ) : Slots K H' τ σ := ⟨s.1, fun i d e => let ⟨v, h, r⟩ := s.2 i d e; ⟨v, h, Rel.mono t d v r⟩⟩
theorem Rels.length : ∀ {vs : List V} {ds : List D}, Rels K H vs ds → vs.length = ds.length
  | _, _, .nil => rfl
  | _, _, .cons _ b => by rw [List.length_cons, List.length_cons, Rels.length b]
theorem Rels.append : ∀ {vs ws : List V} {ds es : List D}, Rels K H vs ds → Rels K H ws es → Rels K H (vs ++ ws) (ds ++ es)
  | _, _, _, _, .nil, h => h
  | _, _, _, _, .cons a b, h => .cons a (Rels.append b h)
theorem Rels.get : ∀ {vs : List V} {ds : List D} {i : Nat} {d : D}, Rels K H vs ds → ds[i]? = some d → ∃ v, vs[i]? = some v ∧ Rel K H v d
  | _, _, i, d, .nil, e => by simp at e
  | _, _, 0, d, .cons a _, e => ⟨_, rfl, by simp at e; subst e; exact a⟩
  | _, _, i + 1, d, .cons _ b, e => by
    obtain ⟨v, h1, h2⟩ := Rels.get (i := i) (d := d) b (by simpa using e)
    exact ⟨v, by simpa using h1, h2⟩
theorem Rels.set {v : V} {d : D} (r : Rel K H v d) : ∀ {vs : List V} {ds : List D} (i : Nat), Rels K H vs ds → Rels K H (vs.set i v) (ds.set i d)
  | _, _, _, .nil => .nil
  | _, _, 0, .cons _ b => .cons r b
  | _, _, i + 1, .cons a b => .cons a (Rels.set r i b)
theorem Rels.take : ∀ {vs : List V} {ds : List D} (n : Nat), Rels K H vs ds → Rels K H (vs.take n) (ds.take n)
  | _, _, 0, _ => .nil
  | _, _, _ + 1, .nil => .nil
  | _, _, n + 1, .cons a b => .cons a (Rels.take n b)
theorem Rels.drop : ∀ {vs : List V} {ds : List D} (n : Nat), Rels K H vs ds → Rels K H (vs.drop n) (ds.drop n)
  | _, _, 0, h => h
  | _, _, _ + 1, .nil => .nil
  | _, _, n + 1, .cons _ b => Rels.drop n b
theorem Slots.set {v : V} {d : D} (s : Slots K H τ σ) (r : Rel K H v d) (i : Nat) : Slots K H (τ.set i (some d)) (σ.set i (some v)) := by
  refine ⟨by rw [List.length_set, List.length_set]; exact s.1, fun j e h => ?_⟩
  by_cases hj : i = j
  · subst hj
    by_cases hi : i < τ.length
    · rw [List.getElem?_set_self hi] at h
      cases h
      exact ⟨v, by rw [List.getElem?_set_self (by rw [← s.1]; exact hi)], r⟩
    · rw [List.getElem?_eq_none (by rw [List.length_set]; omega)] at h; cases h
  · rw [List.getElem?_set_ne hj] at h
    obtain ⟨v', e', r'⟩ := s.2 j e h
    exact ⟨v', by rw [List.getElem?_set_ne hj]; exact e', r'⟩
/-- objects other than p are as they were: the store but p is borne again -/
theorem MRel.mono (t : Tx H H') {a : Addr} (e : H' a = H a) : ∀ {m : MO}, MRel K H a m → MRel K H' a m
  | .lst _, ⟨vs, h, r⟩ => ⟨vs, e.trans h, Rels.mono t _ _ r⟩
  | .dK _, ⟨vs, h, r⟩ => ⟨vs, e.trans h, RelKV.mono t r⟩
  | .dT _, ⟨vs, h, r⟩ => ⟨vs, e.trans h, RelKV.mono t r⟩
  | .ins _ _ _, ⟨vs, h, r⟩ => ⟨vs, e.trans h, RelKV.mono t r⟩
  | .xd _, ⟨vs, h, r⟩ => ⟨vs, e.trans h, RelKV.mono t r⟩
  | .fT _ _ _, ⟨vs, h, r, z⟩ => ⟨vs, e.trans h, RelKV.mono t r, z⟩
  | .fK _ _ _, ⟨vs, h, r, z⟩ => ⟨vs, e.trans h, RelKV.mono t r, z⟩
  | .fTp _ _, ⟨vs, h, r, z⟩ => ⟨vs, e.trans h, Rels.mono t _ _ r, z⟩
  | .xo _ _, ⟨u, h, r⟩ => ⟨u, e.trans h, r⟩
  | .tab _, ⟨ps, h, z, r⟩ => ⟨ps, e.trans h, z, fun pos cv q => let ⟨c, e1, e2⟩ := r pos cv q; ⟨c, e1, t.c _ _ e2⟩⟩
/-- a new untracked-by-the-store object -/
theorem tx_new {p : Addr} {o : HO} (n : H p = none) : Tx H (upd H p o) := ⟨fun a xs e => by rw [upd_ne (ne_of_none e n)]; exact e, fun a ob xs e => by rw [upd_ne (ne_of_none e n)]; exact e, fun a q e => by rw [upd_ne (ne_of_none e n)]; exact e⟩
theorem con_new {p : Addr} {o : HO} (n : H p = none) (c : Con K H μ) : Con K (upd H p o) μ := fun a m e => by
  have ha : a ≠ p := fun z => by subst z; rw [c.free n] at e; cases e
  exact (c a m e).mono (tx_new n) (upd_ne ha)
theorem fr_new {p : Addr} {o : HO} (n : H p = none) : Fr μ μ H (upd H p o) := fun a u h e => ⟨by rw [upd_ne (ne_of_none e n)]; exact e, h⟩
/-- .. and in the store -/
theorem con_put {p : Addr} {o : HO} {m : MO} (n : H p = none) (c : Con K H μ) (r : MRel K (upd H p o) p m) : Con K (upd H p o) (μ.set p m) := fun a m' e => by
  by_cases ha : a = p
  · subst ha; rw [set_same] at e; cases e; exact r
  · rw [set_ne ha] at e
    exact (c a m' e).mono (tx_new n) (upd_ne ha)
theorem fr_put {p : Addr} {o : HO} {m : MO} (n : H p = none) : Fr μ (μ.set p m) H (upd H p o) := fun a u h e => by
  have ha : a ≠ p := ne_of_none e n
  exact ⟨by rw [upd_ne ha]; exact e, by rw [set_ne ha]; exact h⟩
/-- an object of the store is changed -/
theorem tx_mut {p : Addr} {o : HO} {m : MO} (c : Con K H μ) (h : μ p = some m) : Tx H (upd H p o) :=
  ⟨fun a xs e => by rw [upd_ne (fun z => by subst z; rw [c.tn e] at h; cases h)]; exact e, fun a ob xs e => by rw [upd_ne (fun z => by subst z; rw [c.fn e] at h; cases h)]; exact e, fun a q e => by rw [upd_ne (fun z => by subst z; rw [c.cn e] at h; cases h)]; exact e⟩
theorem con_mut {p : Addr} {o : HO} {m m' : MO} (c : Con K H μ) (h : μ p = some m) (r : MRel K (upd H p o) p m') : Con K (upd H p o) (μ.set p m') := fun a u e => by
  by_cases ha : a = p
  · subst ha; rw [set_same] at e; cases e; exact r
  · rw [set_ne ha] at e
    exact (c a u e).mono (tx_mut c h) (upd_ne ha)
theorem fr_mut {p : Addr} {o : HO} {m m' : MO} (h : μ p = some m) : Fr μ (μ.set p m') H (upd H p o) := fun a u n e => by
  have ha : a ≠ p := fun z => by subst z; rw [n] at h; cases h
  exact ⟨by rw [upd_ne ha]; exact e, by rw [set_ne ha]; exact n⟩
/-- the store forgotten in part -/
def Sub (μ μ' : M) : Prop := ∀ a m, μ a = some m → μ' a = some m
theorem Sub.refl : Sub μ μ := fun _ _ h => h
theorem Sub.trans (a : Sub μ μ1) (b : Sub μ1 μ2) : Sub μ μ2 := fun x m h => b x m (a x m h)
theorem Sub.set {p : Addr} {m : MO} (h : μ p = none) : Sub μ (μ.set p m) := fun a m' e => by rw [set_ne (fun z => by subst z; rw [h] at e; cases e)]; exact e
theorem Sub.none (s : Sub μ μ') {a : Addr} (h : μ' a = Option.none) : μ a = Option.none := by
  cases q : μ a with
  | none => rfl
  | some m => rw [s a m q] at h; cases h
end
def AE (K : PySem.W.Frag) (t : TE) (τ : T) (μ : M) (Φ : D → M → Prop) : Prop :=
  ∀ σ H, Slots K H τ σ → Con K H μ → ∀ Q : VK, (∀ d μ' v H', Fr μ μ' H H' → Con K H' μ' → Rel K H' v d → Φ d μ' → Q v H') → t σ H Q
def AA (K : PySem.W.Frag) (t : TA) (τ : T) (μ : M) (Φ : List D → M → Prop) : Prop :=
  ∀ σ H, Slots K H τ σ → Con K H μ → ∀ Q : List V → Hp → Prop, (∀ d μ' v H', Fr μ μ' H H' → Con K H' μ' → Rels K H' v d → Φ d μ' → Q v H') → t σ H Q
def AT (K : PySem.W.Frag) (t : TT) (τ : T) (μ : M) (Φ : Bool → M → Prop) : Prop :=
  ∀ σ H, Slots K H τ σ → Con K H μ → ∀ Q : Bool → Hp → Prop, (∀ b μ' H', Fr μ μ' H H' → Con K H' μ' → Φ b μ' → Q b H') → t σ H Q
structure AEnds where
  nx : T → M → Prop
  rt : D → M → Prop
  bk : T → M → Prop := fun _ _ => False
  ct : T → M → Prop := fun _ _ => False
  /-- what is wished of an exception; what the names of classes stand for; what holds where one is raised -/
  W : WX := fun _ _ _ _ => False
  cn : Str → Option Value := fun _ => none
  xs : Str → Option Addr → T → M → Prop := fun _ _ _ _ => False
/-- the concrete ends that follow from the abstract ones -/
structure EndsOk (K : PySem.W.Frag) (N : AEnds) (μ : M) (H : Hp) (E : Ends) : Prop where
  nx : ∀ τ' μ' σ' H', Fr μ μ' H H' → Con K H' μ' → Slots K H' τ' σ' → N.nx τ' μ' → E.nx σ' H'
  rt : ∀ d μ' v H', Fr μ μ' H H' → Con K H' μ' → Rel K H' v d → N.rt d μ' → E.rt v H'
  bk : ∀ τ' μ' σ' H', Fr μ μ' H H' → Con K H' μ' → Slots K H' τ' σ' → N.bk τ' μ' → E.bk σ' H'
  ct : ∀ τ' μ' σ' H', Fr μ μ' H H' → Con K H' μ' → Slots K H' τ' σ' → N.ct τ' μ' → E.ct σ' H'
  wx : ∀ x dx τ' μ' cls σ' H', N.cn x = some cls → Fr μ μ' H H' → Con K H' μ' → Slots K H' τ' σ' → N.xs x dx τ' μ' → N.W cls dx σ' H'
def AS (K : PySem.W.Frag) (t : TS) (τ : T) (μ : M) (N : AEnds) : Prop :=
  ∀ σ H, Slots K H τ σ → Con K H μ → ∀ E : Ends, EndsOk K N μ H E → t E σ H
/-- a target -/
def AG (K : PySem.W.Frag) (g : TG) (d : D) (τ : T) (μ : M) (Φ : T → M → Prop) : Prop :=
  ∀ σ H v, Slots K H τ σ → Con K H μ → Rel K H v d → ∀ Q : St → Hp → Prop, (∀ τ' μ' σ' H', Fr μ μ' H H' → Con K H' μ' → Slots K H' τ' σ' → Φ τ' μ' → Q σ' H') → g v σ H Q
def AGs (K : PySem.W.Frag) (g : TGs) (ds : List D) (τ : T) (μ : M) (Φ : T → M → Prop) : Prop :=
  ∀ σ H vs, Slots K H τ σ → Con K H μ → Rels K H vs ds → ∀ Q : St → Hp → Prop, (∀ τ' μ' σ' H', Fr μ μ' H H' → Con K H' μ' → Slots K H' τ' σ' → Φ τ' μ' → Q σ' H') → g vs σ H Q
/-- an operation on values -/
def RO (K : PySem.W.Frag) (r : R2) (d e : D) (μ : M) (Φ : D → M → Prop) : Prop :=
  ∀ H x y, Con K H μ → Rel K H x d → Rel K H y e → ∀ Q : VK, (∀ z μ' v H', Fr μ μ' H H' → Con K H' μ' → Rel K H' v z → Φ z μ' → Q v H') → r x y H Q
def RU (K : PySem.W.Frag) (r : V → Hp → VK → Prop) (d : D) (μ : M) (Φ : D → M → Prop) : Prop :=
  ∀ H x, Con K H μ → Rel K H x d → ∀ Q : VK, (∀ z μ' v H', Fr μ μ' H H' → Con K H' μ' → Rel K H' v z → Φ z μ' → Q v H') → r x H Q
def RC (K : PySem.W.Frag) (r : List V → Hp → VK → Prop) (ds : List D) (μ : M) (Φ : D → M → Prop) : Prop :=
  ∀ H xs, Con K H μ → Rels K H xs ds → ∀ Q : VK, (∀ z μ' v H', Fr μ μ' H H' → Con K H' μ' → Rel K H' v z → Φ z μ' → Q v H') → r xs H Q
section
variable {K : PySem.W.Frag} {τ : T} {μ : M} {Φ Ψ : D → M → Prop} {ta tb te : TE} {r : R2} {t u : TT} {x y z d e : D}
theorem AE.imp (h : AE K te τ μ Φ) (k : ∀ d μ', Φ d μ' → Ψ d μ') : AE K te τ μ Ψ := fun σ H s c Q q => h σ H s c Q fun d μ' v H' f c' r p => q d μ' v H' f c' r (k d μ' p)
theorem AT.imp {Φ Ψ : Bool → M → Prop} (h : AT K t τ μ Φ) (k : ∀ d μ', Φ d μ' → Ψ d μ') : AT K t τ μ Ψ := fun σ H s c Q q => h σ H s c Q fun d μ' H' f c' p => q d μ' H' f c' (k d μ' p)
theorem a_var {i : Nat} (h : τ[i]? = some (some d)) (q : Φ d μ) : AE K (tVar i) τ μ Φ := fun σ H s c Q k => by
  obtain ⟨v, e, r⟩ := s.2 i d h
  exact ⟨v, e, k d μ v H Fr.refl c r q⟩
theorem a_int {n : Int} (q : Φ (.int n) μ) : AE K (tC (.int n)) τ μ Φ := fun σ H s c Q k => k _ μ _ H Fr.refl c (.int n) q
theorem a_bl {n : Bool} (q : Φ (.bl n) μ) : AE K (tC (.bl n)) τ μ Φ := fun σ H s c Q k => k _ μ _ H Fr.refl c (.bl n) q
theorem a_str {n : Str} (q : Φ (.str n) μ) : AE K (tC (.str n)) τ μ Φ := fun σ H s c Q k => k _ μ _ H Fr.refl c (.str n) q
theorem a_non (q : Φ .non μ) : AE K (tC .non) τ μ Φ := fun σ H s c Q k => k _ μ _ H Fr.refl c .non q
theorem a_ty {n : String} (q : Φ (.ty n) μ) : AE K (tC (.ty n)) τ μ Φ := fun σ H s c Q k => k _ μ _ H Fr.refl c (.ty n) q
theorem a_op (h : AE K ta τ μ fun d μ1 => AE K tb τ μ1 fun e μ2 => RO K r d e μ2 Φ) : AE K (tOp r ta tb) τ μ Φ := fun σ H s c Q k =>
  h σ H s c _ fun d μ1 v H1 f1 c1 r1 p1 => p1 σ H1 (s.mono (f1.tx c)) c1 _ fun e μ2 u H2 f2 c2 r2 p2 =>
    p2 H2 v u c2 (Rel.mono (f2.tx c1) _ _ r1) r2 Q fun z μ' w H' f c' rz pz => k z μ' w H' ((f1.trans f2).trans f) c' rz pz
theorem a_un {r : V → Hp → VK → Prop} (h : AE K ta τ μ fun d μ1 => RU K r d μ1 Φ) : AE K (tUn r ta) τ μ Φ := fun σ H s c Q k =>
  h σ H s c _ fun d μ1 v H1 f1 c1 r1 p1 => p1 H1 v c1 r1 Q fun z μ' w H' f c' rz pz => k z μ' w H' (f1.trans f) c' rz pz
theorem aa_nil {Φ : List D → M → Prop} (q : Φ [] μ) : AA K tNil τ μ Φ := fun σ H s c Q k => k _ μ _ H Fr.refl c .nil q
theorem aa_cons {Φ : List D → M → Prop} {tr : TA} (h : AE K ta τ μ fun d μ1 => AA K tr τ μ1 fun ds μ2 => Φ (d :: ds) μ2) : AA K (tCons ta tr) τ μ Φ := fun σ H s c Q k =>
  h σ H s c _ fun d μ1 v H1 f1 c1 r1 p1 => p1 σ H1 (s.mono (f1.tx c)) c1 _ fun ds μ2 us H2 f2 c2 r2 p2 => k _ μ2 _ H2 (f1.trans f2) c2 (.cons (Rel.mono (f2.tx c1) _ _ r1) r2) p2
theorem a_tup {ta : TA} (h : AA K ta τ μ fun ds μ1 => ds.length ≤ sizeLine ∧ Φ (.tup ds) μ1) : AE K (tTup ta) τ μ Φ := fun σ H s c Q k =>
  h σ H s c _ fun ds μ1 vs H1 f1 c1 r1 ⟨hz, p1⟩ => ⟨by rw [r1.length]; exact hz, fun p hp => k _ μ1 _ _ (f1.trans (fr_new hp)) (con_new hp c1) (.tup (.inl upd_same) (Rels.mono (tx_new hp) _ _ r1)) p1⟩
theorem a_lst {ta : TA} (h : AA K ta τ μ fun ds μ1 => ds.length ≤ sizeLine ∧ ∀ p, μ1 p = none → Φ (.ref p) (μ1.set p (.lst ds))) : AE K (tLst ta) τ μ Φ := fun σ H s c Q k =>
  h σ H s c _ fun ds μ1 vs H1 f1 c1 r1 ⟨hz, p1⟩ => ⟨by rw [r1.length]; exact hz, fun p hp => k _ _ _ _ (f1.trans (fr_put hp)) (con_put (m := .lst ds) hp c1 ⟨vs, upd_same, Rels.mono (tx_new hp) _ _ r1⟩) (.ref p) (p1 p (c1.free hp))⟩
theorem a_cb {r : List V → Hp → VK → Prop} {ta : TA} (h : AA K ta τ μ fun ds μ1 => RC K r ds μ1 Φ) : AE K (tCB r ta) τ μ Φ := fun σ H s c Q k =>
  h σ H s c _ fun ds μ1 vs H1 f1 c1 r1 p1 => p1 H1 vs c1 r1 Q fun z μ' w H' f c' rz pz => k z μ' w H' (f1.trans f) c' rz pz
theorem a_if (h : AT K t τ μ fun b μ1 => if b = true then AE K ta τ μ1 Φ else AE K tb τ μ1 Φ) : AE K (tIf t ta tb) τ μ Φ := fun σ H s c Q k =>
  h σ H s c _ fun b μ1 H1 f1 c1 p1 => by
    cases b with
    | true => exact (show AE K ta τ μ1 Φ from p1) σ H1 (s.mono (f1.tx c)) c1 Q fun z μ' w H' f c' rz pz => k z μ' w H' (f1.trans f) c' rz pz
    | false => exact (show AE K tb τ μ1 Φ from p1) σ H1 (s.mono (f1.tx c)) c1 Q fun z μ' w H' f c' rz pz => k z μ' w H' (f1.trans f) c' rz pz
theorem a_andV (h : AE K ta τ μ fun d μ1 => ∃ b, d = .bl b ∧ if b = true then AE K tb τ μ1 Φ else Φ (.bl false) μ1) : AE K (tAndV ta tb) τ μ Φ := fun σ H s c Q k =>
  h σ H s c _ fun d μ1 v H1 f1 c1 r1 ⟨b, e, p1⟩ => by
    subst e
    cases r1
    refine ⟨b, rfl, ?_⟩
    cases b with
    | true => exact (show AE K tb τ μ1 Φ from p1) σ H1 (s.mono (f1.tx c)) c1 Q fun z μ' w H' f c' rz pz => k z μ' w H' (f1.trans f) c' rz pz
    | false => exact k _ μ1 _ H1 f1 c1 (.bl false) (show Φ (.bl false) μ1 from p1)
theorem a_orV (h : AE K ta τ μ fun d μ1 => ∃ b, d = .bl b ∧ if b = true then Φ (.bl true) μ1 else AE K tb τ μ1 Φ) : AE K (tOrV ta tb) τ μ Φ := fun σ H s c Q k =>
  h σ H s c _ fun d μ1 v H1 f1 c1 r1 ⟨b, e, p1⟩ => by
    subst e
    cases r1
    refine ⟨b, rfl, ?_⟩
    cases b with
    | true => exact k _ μ1 _ H1 f1 c1 (.bl true) (show Φ (.bl true) μ1 from p1)
    | false => exact (show AE K tb τ μ1 Φ from p1) σ H1 (s.mono (f1.tx c)) c1 Q fun z μ' w H' f c' rz pz => k z μ' w H' (f1.trans f) c' rz pz
theorem a_notV (h : AE K ta τ μ fun d μ1 => ∃ b, d = .bl b ∧ Φ (.bl (!b)) μ1) : AE K (tNotV ta) τ μ Φ := fun σ H s c Q k =>
  h σ H s c _ fun d μ1 v H1 f1 c1 r1 ⟨b, e, p1⟩ => by
    subst e
    cases r1
    exact ⟨b, rfl, k _ μ1 _ H1 f1 c1 (.bl _) p1⟩
variable {Θ : Bool → M → Prop}
theorem at_test (h : AE K te τ μ fun d μ1 => ∃ b, d = .bl b ∧ Θ b μ1) : AT K (tTest te) τ μ Θ := fun σ H s c Q k =>
  h σ H s c _ fun d μ1 v H1 f1 c1 r1 ⟨b, e, p1⟩ => by
    subst e
    cases r1
    exact ⟨b, rfl, k b μ1 H1 f1 c1 p1⟩
theorem at_B (h : AE K te τ μ fun d μ1 => ∃ b, d = .bl b ∧ Θ b μ1) : AT K (tB te) τ μ Θ := fun σ H s c Q k =>
  h σ H s c _ fun d μ1 v H1 f1 c1 r1 ⟨b, e, p1⟩ => by
    subst e
    cases r1
    exact ⟨b, rfl, k b μ1 H1 f1 c1 p1⟩
theorem at_and (h : AT K t τ μ fun b μ1 => if b = true then AT K u τ μ1 Θ else Θ false μ1) : AT K (tAnd t u) τ μ Θ := fun σ H s c Q k =>
  h σ H s c _ fun b μ1 H1 f1 c1 p1 => by
    cases b with
    | true => exact (show AT K u τ μ1 Θ from p1) σ H1 (s.mono (f1.tx c)) c1 Q fun z μ' H' f c' pz => k z μ' H' (f1.trans f) c' pz
    | false => exact k false μ1 H1 f1 c1 (show Θ false μ1 from p1)
theorem at_or (h : AT K t τ μ fun b μ1 => if b = true then Θ true μ1 else AT K u τ μ1 Θ) : AT K (tOr t u) τ μ Θ := fun σ H s c Q k =>
  h σ H s c _ fun b μ1 H1 f1 c1 p1 => by
    cases b with
    | true => exact k true μ1 H1 f1 c1 (show Θ true μ1 from p1)
    | false => exact (show AT K u τ μ1 Θ from p1) σ H1 (s.mono (f1.tx c)) c1 Q fun z μ' H' f c' pz => k z μ' H' (f1.trans f) c' pz
theorem at_not (h : AT K t τ μ fun b μ1 => Θ (!b) μ1) : AT K (tNot t) τ μ Θ := fun σ H s c Q k => h σ H s c _ fun b μ1 H1 f1 c1 p1 => k (!b) μ1 H1 f1 c1 p1
end
end Z
namespace Z
open PySem L2
section
variable {K : PySem.W.Frag} {τ : T} {μ μ1 μ2 : M} {H H1 H2 : Hp} {σ : L2.St} {Φ Ψ : D → M → Prop} {ta tb tc te : TE} {r r' : R2} {t u : TT} {x y z d e : D} {N : AEnds} {ts us : TS} {g : TG} {D0 E : Ends}
theorem EndsOk.step {μ' : M} {H' : Hp} (k : EndsOk K N μ H E) (f : Fr μ μ' H H') : EndsOk K N μ' H' E :=
  ⟨fun a b c d' f' => k.nx a b c d' (f.trans f'), fun a b c d' f' => k.rt a b c d' (f.trans f'), fun a b c d' f' => k.bk a b c d' (f.trans f'), fun a b c d' f' => k.ct a b c d' (f.trans f'), fun x1 x2 x3 x4 x5 x6 x7 x8 f' => k.wx x1 x2 x3 x4 x5 x6 x7 x8 (f.trans f')⟩
theorem s_seq (h : AS K ts τ μ { N with nx := fun τ' μ' => AS K us τ' μ' N }) : AS K (tSeq ts us) τ μ N := fun σ H s c E k =>
  h σ H s c _ ⟨fun τ' μ' σ' H' f c' s' p => p σ' H' s' c' E (k.step f), k.rt, k.bk, k.ct, k.wx⟩
theorem s_next (h : N.nx τ μ) : AS K tNext τ μ N := fun σ H s c E k => k.nx τ μ σ H Fr.refl c s h
theorem s_drop (h : AE K te τ μ fun _ μ' => N.nx τ μ') : AS K (tDrop te) τ μ N := fun σ H s c E k =>
  h σ H s c _ fun d μ' v H' f c' r p => k.nx τ μ' σ H' f c' (s.mono (f.tx c)) p
theorem s_ret (h : AE K te τ μ N.rt) : AS K (tRet te) τ μ N := fun σ H s c E k => h σ H s c _ fun d μ' v H' f c' r p => k.rt d μ' v H' f c' r p
theorem s_retN (h : N.rt .non μ) : AS K tRetN τ μ N := fun σ H s c E k => k.rt .non μ .non H Fr.refl c .non h
theorem s_if (h : AT K t τ μ fun b μ' => if b = true then AS K ts τ μ' N else AS K us τ μ' N) : AS K (tIfS t ts us) τ μ N := fun σ H s c E k =>
  h σ H s c _ fun b μ' H' f c' p => by
    cases b with
    | true => exact (show AS K ts τ μ' N from p) σ H' (s.mono (f.tx c)) c' E (k.step f)
    | false => exact (show AS K us τ μ' N from p) σ H' (s.mono (f.tx c)) c' E (k.step f)
theorem s_asg (h : AE K te τ μ fun d μ' => AG K g d τ μ' N.nx) : AS K (tAsg te g) τ μ N := fun σ H s c E k =>
  h σ H s c _ fun d μ' v H' f c' r p => p σ H' v (s.mono (f.tx c)) c' r _ fun τ2 μ2 σ2 H2 f2 c2 s2 q => k.nx τ2 μ2 σ2 H2 (f.trans f2) c2 s2 q
theorem g_name {i : Nat} {Θ : T → M → Prop} (h : Θ (τ.set i (some d)) μ) : AG K (gName i) d τ μ Θ := fun σ H v s c r Q k => k _ μ _ H Fr.refl c (s.set r i) h
theorem gs_nil {Θ : T → M → Prop} (h : Θ τ μ) : AGs K gNil [] τ μ Θ := fun σ H vs s c r Q k => by
  cases r
  exact ⟨rfl, k τ μ σ H Fr.refl c s h⟩
theorem gs_cons {gs : TGs} {ds : List D} {Θ : T → M → Prop} (h : AG K g d τ μ fun τ' μ' => AGs K gs ds τ' μ' Θ) : AGs K (gCons g gs) (d :: ds) τ μ Θ := fun σ H vs s c r Q k => by
  cases r with
  | cons r1 r2 =>
    rename_i v vs'
    exact ⟨v, vs', rfl, h σ H v s c r1 _ fun τ' μ' σ' H' f c' s' p => p σ' H' vs' s' c' (Rels.mono (f.tx c) _ _ r2) Q fun τ2 μ2 σ2 H2 f2 c2 s2 q => k τ2 μ2 σ2 H2 (f.trans f2) c2 s2 q⟩
theorem g_tup {n : Nat} {gs : TGs} {ds : List D} {Θ : T → M → Prop} (hn : ds.length = n) (h : AGs K gs ds τ μ Θ) : AG K (gTup K n gs) (.tup ds) τ μ Θ := fun σ H v s c r Q k => by
  cases r with
  | tup ht hr => exact ⟨_, _, rfl, ht.sq, by rw [hr.length]; exact hn, h σ H _ s c hr Q k⟩
/-- o[i] = v -/
def ASet (K : PySem.W.Frag) (t : TSet) (o i d : D) (μ : M) (Θ : M → Prop) : Prop :=
  ∀ H a b v, Con K H μ → Rel K H a o → Rel K H b i → Rel K H v d → ∀ Q : Hp → Prop, (∀ μ' H', Fr μ μ' H H' → Con K H' μ' → Θ μ' → Q H') → t a b v H Q
theorem g_sub {to ti : TE} {tset : TSet} {Θ : T → M → Prop} (h : AE K to τ μ fun o μ1 => AE K ti τ μ1 fun i μ2 => ASet K tset o i d μ2 fun μ3 => Θ τ μ3) : AG K (gSub to ti tset) d τ μ Θ := fun σ H v s c r Q k =>
  h σ H s c _ fun o μ1 a H1 f1 c1 r1 p1 => p1 σ H1 (s.mono (f1.tx c)) c1 _ fun i μ2 b H2 f2 c2 r2 p2 =>
    p2 H2 a b v c2 (Rel.mono (f2.tx c1) _ _ r1) r2 (Rel.mono ((f1.trans f2).tx c) _ _ r) _ fun μ3 H3 f3 c3 p3 => k τ μ3 σ H3 ((f1.trans f2).trans f3) c3 (s.mono (((f1.trans f2).trans f3).tx c)) p3
theorem s_par {i j : Nat} {ta : TA} (h : AA K ta τ μ fun ds μ' => ∃ d e, ds = [d, e] ∧ N.nx ((τ.set i (some d)).set j (some e)) μ') : AS K (tPar i j ta) τ μ N := fun σ H s c E k =>
  h σ H s c _ fun ds μ' vs H' f c' r ⟨d, e, q, p⟩ => by
    subst q
    cases r with
    | cons r1 r2 =>
      cases r2 with
      | cons r2 r3 =>
        cases r3
        exact ⟨_, _, rfl, k.nx _ μ' _ H' f c' (((s.mono (f.tx c)).set r1 i).set r2 j) p⟩
/-- a op= b, by values -/
theorem s_aug {i : Nat} {ti : TIp} (hx : τ[i]? = some (some d)) (h : AE K te τ μ fun e μ1 => RO K ti d e μ1 fun z μ2 => N.nx (τ.set i (some z)) μ2) : AS K (tAug i te ti) τ μ N := fun σ H s c E k => by
  obtain ⟨v, e1, r1⟩ := s.2 i d hx
  exact ⟨v, e1, h σ H s c _ fun e μ1 u H1 f1 c1 r2 p1 => p1 H1 v u c1 (Rel.mono (f1.tx c) _ _ r1) r2 _ fun z μ2 w H2 f2 c2 rz p2 =>
    k.nx _ μ2 _ H2 (f1.trans f2) c2 ((s.mono ((f1.trans f2).tx c)).set rz i) p2⟩
theorem AS.imp {nx' bk' ct' : T → M → Prop} {rt' : D → M → Prop} (h : AS K ts τ μ N) (h1 : ∀ a b, N.nx a b → nx' a b) (h2 : ∀ a b, N.rt a b → rt' a b) (h3 : ∀ a b, N.bk a b → bk' a b) (h4 : ∀ a b, N.ct a b → ct' a b) : AS K ts τ μ { N with nx := nx', rt := rt', bk := bk', ct := ct' } := fun σ H s c E q =>
  h σ H s c E ⟨fun a b c' d' f x y p => q.nx a b c' d' f x y (h1 _ _ p), fun a b c' d' f x y p => q.rt a b c' d' f x y (h2 _ _ p), fun a b c' d' f x y p => q.bk a b c' d' f x y (h3 _ _ p), fun a b c' d' f x y p => q.ct a b c' d' f x y (h4 _ _ p), q.wx⟩
theorem s_while {tt : TT} {tb : TS} (W : Nat → T → M → Prop) (m0 : Nat) (h0 : W m0 τ μ)
    (hs : ∀ m τ' μ', W m τ' μ' → AT K tt τ' μ' fun b μ1 => if b = true then AS K tb τ' μ1 { N with nx := fun τ2 μ2 => ∃ m', m' < m ∧ W m' τ2 μ2, ct := fun τ2 μ2 => ∃ m', m' < m ∧ W m' τ2 μ2, bk := N.nx } else N.nx τ' μ1) :
    AS K (tWhile tt tb) τ μ N := fun σ H s c E k =>
  ⟨fun m σ' H' => ∃ τ' μ', Fr μ μ' H H' ∧ Con K H' μ' ∧ Slots K H' τ' σ' ∧ W m τ' μ', ⟨m0, τ, μ, Fr.refl, c, s, h0⟩, fun m σ' H' ⟨τ', μ', f, c', s', w⟩ =>
    hs m τ' μ' w σ' H' s' c' _ fun b μ1 H1 f1 c1 p => by
      cases b with
      | true =>
        refine ⟨fun σ2 H2 => ∃ m', m' < m ∧ ∃ τ' μ', Fr μ μ' H H2 ∧ Con K H2 μ' ∧ Slots K H2 τ' σ2 ∧ W m' τ' μ', fun σ2 H2 q => q, ?_⟩
        refine (show AS K tb τ' μ1 _ from p) σ' H1 (s'.mono (f1.tx c')) c1 _ ⟨fun τ2 μ2 σ2 H2 f2 c2 s2 ⟨m', hm, w'⟩ => ⟨m', hm, τ2, μ2, (f.trans f1).trans f2, c2, s2, w'⟩, fun d' μ2 v H2 f2 => k.rt d' μ2 v H2 ((f.trans f1).trans f2), fun τ2 μ2 σ2 H2 f2 c2 s2 q => k.nx τ2 μ2 σ2 H2 ((f.trans f1).trans f2) c2 s2 q, fun τ2 μ2 σ2 H2 f2 c2 s2 ⟨m', hm, w'⟩ => ⟨m', hm, τ2, μ2, (f.trans f1).trans f2, c2, s2, w'⟩, fun x1 x2 x3 x4 x5 x6 x7 x8 f' => k.wx x1 x2 x3 x4 x5 x6 x7 x8 ((f.trans f1).trans f')⟩
      | false => exact k.nx τ' μ1 σ' H1 (f.trans f1) c1 (s'.mono (f1.tx c')) (show N.nx τ' μ1 from p)⟩
/-- the ends of a turn -/
def turnE (N : AEnds) (P : T → M → Prop) : AEnds := { N with nx := P, ct := P, bk := N.nx }
theorem turn_ok {μ0 : M} {H0 : Hp} {P : T → M → Prop} {Pc : L2.St → Hp → Prop} (k : EndsOk K N μ0 H0 E) (f : Fr μ0 μ H0 H) (hp : ∀ τ' μ' σ' H', Fr μ0 μ' H0 H' → Con K H' μ' → Slots K H' τ' σ' → P τ' μ' → Pc σ' H') :
    EndsOk K (turnE N P) μ H { E with nx := Pc, ct := Pc, bk := E.nx } :=
  ⟨fun τ' μ' σ' H' f' c s p => hp τ' μ' σ' H' (f.trans f') c s p, fun d' μ' v H' f' => k.rt d' μ' v H' (f.trans f'), fun τ' μ' σ' H' f' => k.nx τ' μ' σ' H' (f.trans f'), fun τ' μ' σ' H' f' c s p => hp τ' μ' σ' H' (f.trans f') c s p, fun x1 x2 x3 x4 x5 x6 x7 x8 f' => k.wx x1 x2 x3 x4 x5 x6 x7 x8 (f.trans f')⟩
/-- for over a range -/
theorem s_forN {wi : TI} {lo : Int} {n : Nat} {tb : TS} (P : Nat → T → M → Prop) (hw : ∀ σ H, Slots K H τ σ → Con K H μ → ∀ R : It → Hp → Prop, (∀ μ1 H1, Fr μ μ1 H H1 → Con K H1 μ1 → P 0 τ μ1 → R (Itr lo n) H1) → wi σ H R)
    (hs : ∀ (i : Nat) τ' μ', i < n → P i τ' μ' → AG K g (.int (lo + i)) τ' μ' fun τ2 μ2 => AS K tb τ2 μ2 (turnE N (P (i + 1)))) (hd : ∀ τ' μ', P n τ' μ' → N.nx τ' μ') : AS K (tFor wi g tb) τ μ N := fun σ H s c E k =>
  hw σ H s c _ fun μ1 H1 f1 c1 p0 => by
    refine for_range (lo := lo) (n := n) (fun i σ' H' => ∃ τ' μ', Fr μ μ' H H' ∧ Con K H' μ' ∧ Slots K H' τ' σ' ∧ P i τ' μ') ⟨τ, μ1, f1, c1, s.mono (f1.tx c), p0⟩ ?_ ?_
    · rintro i σ' H' hi ⟨τ', μ', f, c', s', p⟩
      refine hs i τ' μ' hi p σ' H' _ s' c' (.int _) _ fun τ2 μ2 σ2 H2 f2 c2 s2 q => ?_
      exact q σ2 H2 s2 c2 _ (turn_ok (k.step f) f2 fun τ3 μ3 σ3 H3 f3 c3 s3 p3 => ⟨τ3, μ3, f.trans f3, c3, s3, p3⟩)
    · rintro σ' H' ⟨τ', μ', f, c', s', p⟩
      exact k.nx τ' μ' σ' H' f c' s' (hd τ' μ' p)
theorem s_for1 {ta : TA} {tb : TS} (n : Int) (P : Nat → T → M → Prop) (h : AA K ta τ μ fun ds μ1 => ds = [.int n] ∧ -(2 ^ 62) ≤ n ∧ n < 2 ^ 62 ∧ P 0 τ μ1)
    (hs : ∀ (i : Nat) τ' μ', (i : Int) < n → P i τ' μ' → AG K g (.int i) τ' μ' fun τ2 μ2 => AS K tb τ2 μ2 (turnE N (P (i + 1)))) (hd : ∀ τ' μ', P n.toNat τ' μ' → N.nx τ' μ') : AS K (tFor (iRng1 ta) g tb) τ μ N := by
  refine s_forN (lo := 0) (n := n.toNat) P (fun σ H s c R k => h σ H s c _ fun ds μ1 vs H1 f1 c1 r1 ⟨e, h1, h2, p⟩ => ?_) (fun i τ' μ' hi p => ?_) hd
  · subst e
    cases r1 with
    | cons r rr =>
      cases r
      cases rr
      exact ⟨n, rfl, h1, h2, k μ1 H1 f1 c1 p⟩
  · rw [Int.zero_add]
    exact hs i τ' μ' (by omega) p
end
end Z
namespace Z
open PySem L2
def seqD (μ : M) : D → Option (List D)
  | .tup ds => some ds
  | .rol ds => some ds
  | .ref a => match μ a with
    | some (.lst ds) => some ds
    | _ => none
  | _ => none
section
variable {K : PySem.W.Frag} {τ : T} {μ μ1 μ2 : M} {H H1 H2 : Hp} {σ : L2.St} {Φ Ψ : D → M → Prop} {ta tb tc te : TE} {r r' : R2} {t u : TT} {x y z d e : D} {N : AEnds} {ts us : TS}
theorem seq_of {v : V} {ds : List D} (c : Con K H μ) (r : Rel K H v d) (h : seqD μ d = some ds) : ∃ a xs, v = .ref a ∧ (SqL K H a xs ∨ SqT K H a xs) ∧ Rels K H xs ds := by
  cases r with
  | tup ht hr => cases h; exact ⟨_, _, rfl, .inr ht.sq, hr⟩
  | rol ht hr => cases h; exact ⟨_, _, rfl, .inl ht.sq, hr⟩
  | ref a =>
    unfold seqD at h
    simp only at h
    split at h
    · rename_i ds' e
      cases h
      obtain ⟨xs, h1, h2⟩ := c _ _ e
      exact ⟨_, xs, rfl, .inl (SqL.of h1), h2⟩
    · cases h
  | non => cases h
  | bl => cases h
  | int => cases h
  | str => cases h
  | ty => cases h
theorem ro_i {f : Int → Int → Int} {i j : Int} (q : Φ (.int (f i j)) μ) : RO K (rI0 fun i j => V.int (f i j)) (.int i) (.int j) μ Φ := fun H x y c r1 r2 Q k => by
  cases r1; cases r2
  exact ⟨i, j, rfl, rfl, k _ μ _ H Fr.refl c (.int _) q⟩
theorem ro_b {f : Int → Int → Bool} {i j : Int} (q : Φ (.bl (f i j)) μ) : RO K (rI0 fun i j => V.bl (f i j)) (.int i) (.int j) μ Φ := fun H x y c r1 r2 Q k => by
  cases r1; cases r2
  exact ⟨i, j, rfl, rfl, k _ μ _ H Fr.refl c (.bl _) q⟩
theorem ro_c {C : Int → Int → Prop} {f : Int → Int → Int} {i j : Int} (hc : C i j) (q : Φ (.int (f i j)) μ) : RO K (rI C fun i j => V.int (f i j)) (.int i) (.int j) μ Φ := fun H x y c r1 r2 Q k => by
  cases r1; cases r2
  exact ⟨i, j, rfl, rfl, hc, k _ μ _ H Fr.refl c (.int _) q⟩
theorem ru_i {f : Int → Int} {i : Int} (q : Φ (.int (f i)) μ) : RU K (rU fun i => V.int (f i)) (.int i) μ Φ := fun H x c r1 Q k => by
  cases r1
  exact ⟨i, rfl, k _ μ _ H Fr.refl c (.int _) q⟩
theorem at_len {xs : List V} {ds : List D} {i : Int} {d : D} (r : Rels K H xs ds) (h : atI ds i = some d) : ∃ v, atI xs i = some v ∧ Rel K H v d := by
  unfold atI at h ⊢
  rw [r.length]
  cases e : ixN ds.length i with
  | none => rw [e] at h; cases h
  | some j =>
    rw [e] at h
    exact r.get h
theorem ro_ix {ds : List D} {i : Int} (hs : seqD μ d = some ds) (hi : atI ds i = some e) (q : Φ e μ) : RO K (rIx K) d (.int i) μ Φ := fun H x y c r1 r2 Q k => by
  cases r2
  obtain ⟨a, xs, rfl, hq, hr⟩ := seq_of c r1 hs
  obtain ⟨v, hv, rv⟩ := at_len hr hi
  rcases hq with hq | hq
  · exact .inl ⟨a, xs, i, v, rfl, rfl, hq, hv, k e μ v H Fr.refl c rv q⟩
  · exact .inr (.inl ⟨a, xs, i, v, rfl, rfl, hq, hv, k e μ v H Fr.refl c rv q⟩)
theorem set_lst {a : Addr} {ds : List D} {i : Int} {j : Nat} {Θ : M → Prop} (h : μ a = some (.lst ds)) (hi : ixN ds.length i = some j) (q : Θ (μ.set a (.lst (ds.set j d)))) : ASet K rSetL (.ref a) (.int i) d μ Θ := fun H x y v c r1 r2 r3 Q k => by
  cases r1; cases r2
  obtain ⟨xs, hx, hr⟩ := c a _ h
  exact ⟨a, xs, i, j, rfl, rfl, hx, by rw [hr.length]; exact hi, k _ _ (fr_mut h) (con_mut (m' := .lst (ds.set j d)) c h ⟨_, upd_same, Rels.mono (tx_mut c h) _ _ (Rels.set r3 j hr)⟩) q⟩
mutual
def D.py : D → PyData
  | .bl b => .bool b
  | .int i => .int i
  | .str s => .str s
  | .tup ds => .tuple (D.pys ds)
  | _ => .none
def D.pys : List D → List PyData
  | [] => []
  | d :: ds => D.py d :: D.pys ds
end
mutual
/-- None, truths, ints, texts and tuples of them -/
def D.plain : D → Bool
  | .non => true
  | .bl _ => true
  | .int _ => true
  | .str _ => true
  | .tup ds => D.plains ds
  | _ => false
def D.plains : List D → Bool
  | [] => true
  | d :: ds => D.plain d && D.plains ds
end
mutual
theorem Rel.dp : ∀ (d : D) (v : V), Rel K H v d → D.plain d = true → Dp K H v (D.py d)
  | .non, _, .non, _ => by simp only [D.py]; exact .non
  | .bl _, _, .bl b, _ => by simp only [D.py]; exact .bl b
  | .int _, _, .int b, _ => by simp only [D.py]; exact .int b
  | .str _, _, .str b, _ => by simp only [D.py]; exact .str b
  | .tup ds, _, .tup h r, p => by simp only [D.py]; exact .tup h.sq (Rels.dp ds _ r (by simpa only [D.plain] using p))
  | .ty _, _, _, p => by simp [D.plain] at p
  | .ref _, _, _, p => by simp [D.plain] at p
  | .rol _, _, _, p => by simp [D.plain] at p
theorem Rels.dp : ∀ (ds : List D) (vs : List V), Rels K H vs ds → D.plains ds = true → DpAll K H vs (D.pys ds)
  | [], _, .nil, _ => by simp only [D.pys]; exact .nil
  | d :: ds, _, .cons a b, p => by
    simp only [D.plains, Bool.and_eq_true] at p
    simp only [D.pys]
    exact .cons (Rel.dp d _ a p.1) (Rels.dp ds _ b p.2)
end
/-- plain and not too deep -/
def D.ok (d : D) : Bool := D.plain d && SeqAt.shaped (D.py d)
def D.eqv (d e : D) : Bool := PyData.eqv (D.py d) (D.py e)
theorem ro_eqD (h1 : D.ok d = true) (h2 : D.ok e = true) (q : Φ (.bl (D.eqv d e)) μ) : RO K (rEqD K) d e μ Φ := fun H x y c r1 r2 Q k => by
  unfold D.ok at h1 h2
  rw [Bool.and_eq_true] at h1 h2
  exact ⟨_, _, Rel.dp _ _ r1 h1.1, Rel.dp _ _ r2 h2.1, h1.2, h2.2, k _ μ _ H Fr.refl c (.bl _) q⟩
theorem ro_neD (h1 : D.ok d = true) (h2 : D.ok e = true) (q : Φ (.bl (!D.eqv d e)) μ) : RO K (rNeD K) d e μ Φ := fun H x y c r1 r2 Q k => by
  unfold D.ok at h1 h2
  rw [Bool.and_eq_true] at h1 h2
  exact ⟨_, _, Rel.dp _ _ r1 h1.1, Rel.dp _ _ r2 h2.1, h1.2, h2.2, k _ μ _ H Fr.refl c (.bl _) q⟩
theorem ro_eqI {i j : Int} (q : Φ (.bl (decide (i = j))) μ) : RO K rEq (.int i) (.int j) μ Φ := fun H x y c r1 r2 Q k => by
  cases r1; cases r2
  refine ⟨rfl, ?_⟩
  have e : decide (V.int i = V.int j) = decide (i = j) := by simp
  rw [e]
  exact k _ μ _ H Fr.refl c (.bl _) q
theorem ro_neI {i j : Int} (q : Φ (.bl (!decide (i = j))) μ) : RO K rNe (.int i) (.int j) μ Φ := fun H x y c r1 r2 Q k => by
  cases r1; cases r2
  refine ⟨rfl, ?_⟩
  have e : decide (V.int i = V.int j) = decide (i = j) := by simp
  rw [e]
  exact k _ μ _ H Fr.refl c (.bl _) q
theorem ro_eqB {i j : Bool} (q : Φ (.bl (decide (i = j))) μ) : RO K rEq (.bl i) (.bl j) μ Φ := fun H x y c r1 r2 Q k => by
  cases r1; cases r2
  refine ⟨rfl, ?_⟩
  have e : decide (V.bl i = V.bl j) = decide (i = j) := by simp
  rw [e]
  exact k _ μ _ H Fr.refl c (.bl _) q
theorem ro_neB {i j : Bool} (q : Φ (.bl (!decide (i = j))) μ) : RO K rNe (.bl i) (.bl j) μ Φ := fun H x y c r1 r2 Q k => by
  cases r1; cases r2
  refine ⟨rfl, ?_⟩
  have e : decide (V.bl i = V.bl j) = decide (i = j) := by simp
  rw [e]
  exact k _ μ _ H Fr.refl c (.bl _) q
theorem rc_abs {i : Int} (q : Φ (.int (if i < 0 then -i else i)) μ) : RC K (fun xs H Q => ∃ i, xs = [V.int i] ∧ Q (.int (if i < 0 then -i else i)) H) [.int i] μ Φ := fun H xs c r1 Q k => by
  cases r1 with
  | cons a b => cases a; cases b; exact ⟨i, rfl, k _ μ _ H Fr.refl c (.int _) q⟩
theorem rc_max {i j : Int} (q : Φ (.int (if j > i then j else i)) μ) : RC K (fun xs H Q => ∃ i j, xs = [V.int i, V.int j] ∧ Q (.int (if j > i then j else i)) H) [.int i, .int j] μ Φ := fun H xs c r1 Q k => by
  cases r1 with
  | cons a b => cases a; cases b with
    | cons a b => cases a; cases b; exact ⟨i, j, rfl, k _ μ _ H Fr.refl c (.int _) q⟩
theorem rc_min {i j : Int} (q : Φ (.int (if j < i then j else i)) μ) : RC K (fun xs H Q => ∃ i j, xs = [V.int i, V.int j] ∧ Q (.int (if j < i then j else i)) H) [.int i, .int j] μ Φ := fun H xs c r1 Q k => by
  cases r1 with
  | cons a b => cases a; cases b with
    | cons a b => cases a; cases b; exact ⟨i, j, rfl, k _ μ _ H Fr.refl c (.int _) q⟩
theorem rc_intB {b : Bool} (q : Φ (.int (if b then 1 else 0)) μ) : RC K (fun xs H Q => (∃ i, xs = [V.int i] ∧ Q (.int i) H) ∨ ∃ k, xs = [V.bl k] ∧ Q (.int (if k then 1 else 0)) H) [.bl b] μ Φ := fun H xs c r1 Q k => by
  cases r1 with
  | cons a b => cases a; cases b; exact .inr ⟨_, rfl, k _ μ _ H Fr.refl c (.int _) q⟩
theorem rc_intI {b : Int} (q : Φ (.int b) μ) : RC K (fun xs H Q => (∃ i, xs = [V.int i] ∧ Q (.int i) H) ∨ ∃ k, xs = [V.bl k] ∧ Q (.int (if k then 1 else 0)) H) [.int b] μ Φ := fun H xs c r1 Q k => by
  cases r1 with
  | cons a b => cases a; cases b; exact .inl ⟨_, rfl, k _ μ _ H Fr.refl c (.int _) q⟩
theorem rc_len {ds : List D} (h : seqD μ d = some ds) (q : Φ (.int ds.length) μ) : RC K (fun xs H Q => ∃ x n, xs = [x] ∧ LenV K x H n ∧ Q (.int n) H) [d] μ Φ := fun H xs c r1 Q k => by
  cases r1 with
  | cons a b =>
    cases b
    obtain ⟨p, xs, rfl, hq, hr⟩ := seq_of c a h
    refine ⟨_, ds.length, rfl, ?_, k _ μ _ H Fr.refl c (.int _) q⟩
    rcases hq with hq | hq
    · exact .inl ⟨xs, hq, hr.length.symm⟩
    · exact .inr ⟨xs, hq, hr.length.symm⟩
theorem m_append {to : TE} {a : Addr} {ds : List D} (h : AE K to τ μ fun o μ1 => o = .ref a ∧ (∃ es, μ1 a = some (.lst es)) ∧ AE K te τ μ1 fun d μ2 => μ2 a = some (.lst ds) ∧ ds.length < sizeLine ∧ Φ .non (μ2.set a (.lst (ds ++ [d])))) :
    AE K (tBM K "list" rAppend to (tCons te tNil)) τ μ Φ := fun σ H s c Q k =>
  h σ H s c _ fun o μ1 v H1 f1 c1 r1 ⟨e, ⟨es, he⟩, p1⟩ => by
    subst e
    cases r1
    obtain ⟨xs, hx, hr⟩ := c1 a _ he
    refine ⟨.inl ⟨rfl, xs, SqL.of hx⟩, p1 σ H1 (s.mono (f1.tx c)) c1 _ fun d μ2 u H2 f2 c2 r2 ⟨h2, hz, q⟩ => ?_⟩
    obtain ⟨ys, hy, hr2⟩ := c2 a _ h2
    exact ⟨a, ys, u, rfl, rfl, hy, by rw [hr2.length]; exact hz, k _ _ _ _ ((f1.trans f2).trans (fr_mut h2)) (con_mut (m' := .lst (ds ++ [d])) c2 h2 ⟨_, upd_same, Rels.mono (tx_mut c2 h2) _ _ (hr2.append (.cons r2 .nil))⟩) .non q⟩
end
end Z
namespace Z
open PySem L2
/-- a promise by what it asks and gives over the store: P args store wish -/
abbrev PT3 := List D → M → (D → M → Prop) → Prop
def spI (K : PySem.W.Frag) (P : PT3) : Sp := fun vs H Q _ => ∃ ds μ Φ, Rels K H vs ds ∧ Z.Con K H μ ∧ P ds μ Φ ∧ ∀ d μ' v H', Fr μ μ' H H' → Z.Con K H' μ' → Rel K H' v d → Φ d μ' → Q v H'
def startD (n : Nat) (ds : List D) : T := ds.map some ++ List.replicate (n - ds.length) none
section
variable {K : PySem.W.Frag} {τ : T} {μ μ1 μ2 : M} {H H1 H2 : Hp} {σ : L2.St} {Φ Ψ : D → M → Prop} {ta tb tc te : TE} {r r' : R2} {t u : TT} {x y z d e : D} {N : AEnds} {ts us : TS} {P : PT3} {E : XK}
theorem slots_start {Ns : List Str} : ∀ {vs : List V} {ds : List D}, Rels K H vs ds → Slots K H (startD Ns.length ds) (L2.start Ns vs) := by
  intro vs ds r
  have hl := r.length
  refine ⟨by unfold startD L2.start; simp only [List.length_append, List.length_map, List.length_replicate]; omega, fun i d e => ?_⟩
  unfold startD at e
  by_cases hi : i < ds.length
  · rw [List.getElem?_append_left (by rw [List.length_map]; exact hi), List.getElem?_map] at e
    cases q : ds[i]? with
    | none => rw [q] at e; cases e
    | some d' =>
      rw [q] at e
      have e2 : d' = d := Option.some.inj (Option.some.inj e)
      subst e2
      obtain ⟨v, h1, h2⟩ := r.get q
      refine ⟨v, ?_, h2⟩
      unfold L2.start
      rw [List.getElem?_append_left (by rw [List.length_map]; omega), List.getElem?_map, h1]
      rfl
  · rw [List.getElem?_append_right (by rw [List.length_map]; omega), List.getElem?_replicate] at e
    split at e <;> cases e
theorem spI_len {vs : List V} {Q : VK} {n : Nat} (h : spI K P vs H Q E) (hn : ∀ ds μ Φ, P ds μ Φ → ds.length = n) : vs.length = n := by
  obtain ⟨ds, μ, Φ, r, _, p, _⟩ := h
  rw [r.length]; exact hn _ _ _ p
/-- a body keeps its promise -/
theorem body_ok {Ns : List Str} {vs : List V} {Q : VK} (h : spI K P vs H Q E) (hb : ∀ ds μ Φ, P ds μ Φ → AS K ts (startD Ns.length ds) μ { nx := fun _ μ' => Φ .non μ', rt := Φ }) :
    ts { nx := fun _ H' => Q .non H', rt := Q } (L2.start Ns vs) H := by
  obtain ⟨ds, μ, Φ, r, c, p, k⟩ := h
  exact hb ds μ Φ p _ H (slots_start r) c _ ⟨fun _ μ' _ H' f c' _ q => k .non μ' .non H' f c' .non q, fun d μ' v H' f c' r' q => k d μ' v H' f c' r' q, fun _ _ _ _ _ _ _ q => q.elim, fun _ _ _ _ _ _ _ q => q.elim, fun _ _ _ _ _ _ _ _ _ _ _ q => q.elim⟩
/-- a call -/
theorem a_call {ta : TA} (h : AA K ta τ μ fun ds μ1 => P ds μ1 Φ) : AE K (tCall (spI K P) [] E ta) τ μ Φ := fun σ H s c Q k =>
  h σ H s c _ fun ds μ1 vs H1 f1 c1 r1 p => by
    show spI K P (vs ++ []) H1 Q E
    rw [List.append_nil]
    exact ⟨ds, μ1, Φ, r1, c1, p, fun d μ' v H' f c' r q => k d μ' v H' (f1.trans f) c' r q⟩
end
end Z
namespace Z
open PySem L2
def sets {α : Type} : List (Option α) → List Nat → List α → List (Option α)
  | l, j :: js, d :: ds => sets (l.set j (some d)) js ds
  | l, _, _ => l
theorem wipe_at (σ : L2.St) (i : Nat) : ∀ vs : List Nat, (wipe σ vs)[i]? = if i ∈ vs then (σ[i]?).map fun _ => none else σ[i]?
  | [] => by simp [wipe]
  | v :: vs => by
    have ih := wipe_at σ i vs
    unfold wipe
    by_cases h : v = i
    · subst h
      rw [if_pos (List.mem_cons_self)]
      by_cases hl : v < (wipe σ vs).length
      · rw [List.getElem?_set_self hl]
        rw [wipe_length] at hl
        rw [List.getElem?_eq_getElem hl]
        rfl
      · rw [List.getElem?_eq_none (by rw [List.length_set]; omega)]
        rw [wipe_length] at hl
        rw [List.getElem?_eq_none (by omega)]
        rfl
    · rw [List.getElem?_set_ne h, ih]
      have e : (i ∈ v :: vs) = (i ∈ vs) := by
        rw [List.mem_cons]
        exact propext ⟨fun q => q.elim (fun z => absurd z.symm h) id, .inr⟩
      simp only [e]
theorem wipe_set {σ : L2.St} {j : Nat} {x : Option V} {vs : List Nat} (h : j ∈ vs) : wipe (σ.set j x) vs = wipe σ vs := by
  apply List.ext_getElem?
  intro i
  rw [wipe_at, wipe_at]
  by_cases hi : i ∈ vs
  · rw [if_pos hi, if_pos hi]
    by_cases e : j = i
    · subst e
      by_cases hl : j < σ.length
      · rw [List.getElem?_set_self hl, List.getElem?_eq_getElem hl]; rfl
      · rw [List.getElem?_eq_none (by rw [List.length_set]; omega), List.getElem?_eq_none (by omega)]
    · rw [List.getElem?_set_ne e]
  · rw [if_neg hi, if_neg hi, List.getElem?_set_ne (fun z => hi (by rw [← z]; exact h))]
theorem wipe_wipe {σ : L2.St} {vs : List Nat} : wipe (wipe σ vs) vs = wipe σ vs := by
  apply List.ext_getElem?
  intro i
  rw [wipe_at]
  by_cases hi : i ∈ vs
  · rw [if_pos hi, wipe_at, if_pos hi]
    cases σ[i]? <;> rfl
  · rw [if_neg hi]
theorem wipe_sets {vs : List Nat} : ∀ {σ : L2.St} {js : List Nat} {xs : List V}, (∀ j ∈ js, j ∈ vs) → wipe (sets σ js xs) vs = wipe σ vs
  | σ, [], xs, _ => by unfold sets; rfl
  | σ, j :: js, [], _ => by unfold sets; rfl
  | σ, j :: js, x :: xs, h => by
    unfold sets
    rw [wipe_sets (fun k hk => h k (List.mem_cons_of_mem _ hk)), wipe_set (h j List.mem_cons_self)]
section
variable {K : PySem.W.Frag} {τ : T} {μ μ1 μ2 : M} {H H1 H2 H' : Hp} {σ : L2.St} {Φ Ψ : D → M → Prop} {ta tb tc te : TE} {r r' : R2} {tt : TT} {x y z d e : D} {N : AEnds} {ts us : TS}
theorem slots_sets : ∀ {js : List Nat} {ds : List D} {vs : List V} {τ : T} {σ : L2.St}, Rels K H vs ds → Slots K H τ σ → Slots K H (sets τ js ds) (sets σ js vs)
  | [], _, _, _, _, _, s => by unfold sets; exact s
  | j :: js, _, _, _, _, .nil, s => by unfold sets; exact s
  | j :: js, _, _, _, _, .cons a b, s => by unfold sets; exact slots_sets b (s.set a j)
/-- the slots of a block: all of vs are stored by the target -/
theorem slots_block {js : List Nat} {ds : List D} {vs : List V} (s : Slots K H τ σ) (r : Rels K H vs ds) (hl : ds.length = js.length) : Slots K H (sets τ js ds) (sets (wipe σ js) js vs) := by
  -- a slot that js stores does not hang on what stood there
  have same : ∀ (js0 : List Nat) (js : List Nat) (vs : List V) (σ σ' : L2.St), σ.length = σ'.length → js.length = vs.length → (∀ i, i ∉ js → i ∉ js0 → σ[i]? = σ'[i]?) → (∀ i, i ∈ js0 → i ∉ js → σ[i]? = σ'[i]?) → sets σ js vs = sets σ' js vs := by
    intro js0 js
    induction js with
    | nil =>
      intro vs σ σ' hL _ h1 h2
      unfold sets
      apply List.ext_getElem?
      intro i
      by_cases hi : i ∈ js0
      · exact h2 i hi (by simp)
      · exact h1 i (by simp) hi
    | cons j js ih =>
      intro vs σ σ' hL hV h1 h2
      cases vs with
      | nil => simp at hV
      | cons v vs =>
        unfold sets
        refine ih vs _ _ (by simp [hL]) (by simpa using hV) (fun i hi hi0 => ?_) (fun i hi0 hi => ?_)
        · by_cases e : j = i
          · subst e
            by_cases hl : j < σ.length
            · rw [List.getElem?_set_self hl, List.getElem?_set_self (by omega)]
            · rw [List.getElem?_eq_none (by simp; omega), List.getElem?_eq_none (by simp; omega)]
          · rw [List.getElem?_set_ne e, List.getElem?_set_ne e]
            exact h1 i (by simp [hi]; exact fun z => e z.symm) hi0
        · by_cases e : j = i
          · subst e
            by_cases hl : j < σ.length
            · rw [List.getElem?_set_self hl, List.getElem?_set_self (by omega)]
            · rw [List.getElem?_eq_none (by simp; omega), List.getElem?_eq_none (by simp; omega)]
          · rw [List.getElem?_set_ne e, List.getElem?_set_ne e]
            exact h2 i hi0 (by simp [hi]; exact fun z => e z.symm)
  have e : sets (wipe σ js) js vs = sets σ js vs := by
    refine same [] js vs _ _ (by rw [wipe_length]) (by rw [r.length, hl]) (fun i hi _ => ?_) (fun i hi _ => by simp at hi)
    rw [wipe_at, if_neg hi]
  rw [e]
  exact slots_sets r s
/-- how a target takes an item apart -/
def TgOk (K : PySem.W.Frag) (g : TG) (js : List Nat) (dec : D → List D → Prop) : Prop :=
  ∀ d ds v σ H, dec d ds → Rel K H v d → ∀ Q : L2.St → Hp → Prop, (∀ vs, Rels K H vs ds → Q (sets σ js vs) H) → g v σ H Q
theorem tg_name {j : Nat} : TgOk K (gName j) [j] fun d ds => ds = [d] := fun d ds v σ H h r Q q => by
  subst h
  exact q [v] (.cons r .nil)
theorem tg_2 {i j : Nat} : TgOk K (gTup K 2 (gCons (gName i) (gCons (gName j) gNil))) [i, j] fun d ds => d = .tup ds ∧ ds.length = 2 := fun d ds v σ H h r Q q => by
  obtain ⟨e, hl⟩ := h
  subst e
  cases r with
  | @tup a xs _ ht hr =>
    have hx := hr.length
    match xs, hx.trans hl with
    | [x, y], _ => exact ⟨a, _, rfl, ht.sq, rfl, x, _, rfl, y, _, rfl, rfl, q _ hr⟩
theorem tg_3 {i j k : Nat} : TgOk K (gTup K 3 (gCons (gName i) (gCons (gName j) (gCons (gName k) gNil)))) [i, j, k] fun d ds => d = .tup ds ∧ ds.length = 3 := fun d ds v σ H h r Q q => by
  obtain ⟨e, hl⟩ := h
  subst e
  cases r with
  | @tup a xs _ ht hr =>
    have hx := hr.length
    match xs, hx.trans hl with
    | [x, y, z], _ => exact ⟨a, _, rfl, ht.sq, rfl, x, _, rfl, y, _, rfl, z, _, rfl, rfl, q _ hr⟩
theorem tg_4 {i j k l : Nat} : TgOk K (gTup K 4 (gCons (gName i) (gCons (gName j) (gCons (gName k) (gCons (gName l) gNil))))) [i, j, k, l] fun d ds => d = .tup ds ∧ ds.length = 4 := fun d ds v σ H h r Q q => by
  obtain ⟨e, hl⟩ := h
  subst e
  cases r with
  | @tup a xs _ ht hr =>
    have hx := hr.length
    match xs, hx.trans hl with
    | [x, y, z, w], _ => exact ⟨a, _, rfl, ht.sq, rfl, x, _, rfl, y, _, rfl, z, _, rfl, w, _, rfl, rfl, q _ hr⟩
/-- pure elements: a filter and a map -/
theorem at_yes {Θ : Bool → M → Prop} (h : Θ true μ) : AT K tYes τ μ Θ := fun σ H s c Q k => k true μ H Fr.refl c h
end
end Z
namespace Z
open PySem L2
section
variable {K : PySem.W.Frag} {τ : T} {μ μ1 μ2 : M} {H H1 H2 H' : Hp} {σ : L2.St} {Φ Ψ : D → M → Prop} {ta tb tc te : TE} {r r' : R2} {tt : TT} {x y z d e : D} {N : AEnds} {ts us : TS}
theorem s_par3 {i j l : Nat} {ta : TA} (h : AA K ta τ μ fun ds μ' => ∃ d e w, ds = [d, e, w] ∧ N.nx (((τ.set i (some d)).set j (some e)).set l (some w)) μ') : AS K (tPar3 i j l ta) τ μ N := fun σ H s c E k =>
  h σ H s c _ fun ds μ' vs H' f c' r ⟨d, e, w, q, p⟩ => by
    subst q
    cases r with
    | cons r1 r2 =>
      cases r2 with
      | cons r2 r3 =>
        cases r3 with
        | cons r3 r4 =>
          cases r4
          exact ⟨_, _, _, rfl, k.nx _ μ' _ H' f c' ((((s.mono (f.tx c)).set r1 i).set r2 j).set r3 l) p⟩
def tyn (μ : M) : D → Option String
  | .non => some "NoneType"
  | .bl _ => some "bool"
  | .int _ => some "int"
  | .str _ => some "str"
  | .tup _ => some "tuple"
  | .rol _ => some "list"
  | .ref a => match μ a with
    | some (.lst _) => some "list"
    | some (.dK _) => some "dict"
    | some (.dT _) => some "dict"
    | _ => none
  | .ty _ => none
theorem tyx_of {v : V} {n : String} (c : Z.Con K H μ) (r : Rel K H v d) (h : tyn μ d = some n) : TyX K H v (.type n) := by
  cases r with
  | non => cases h; exact .base .non
  | bl => cases h; exact .base (.bl _)
  | int => cases h; exact .base (.int _)
  | str => cases h; exact .base (.str _)
  | ty => cases h
  | tup ht hr =>
    cases h
    cases ht with
    | inl ht => exact .base (.tup ht)
  | rol ht hr =>
    cases h
    rcases ht with ⟨o, ht⟩ | ⟨o, its, m, h1, h2, _⟩
    · exact .base (.frz ht)
    · exact .kList h1 h2
  | ref a =>
    unfold tyn at h
    simp only at h
    split at h
    · rename_i e; cases h; obtain ⟨xs, hx, _⟩ := c _ _ e; exact .base (.lst hx)
    · rename_i e; cases h; obtain ⟨xs, hx, _⟩ := c _ _ e; exact .base (.dK hx)
    · rename_i e; cases h; obtain ⟨xs, hx, _⟩ := c _ _ e; exact .base (.dT hx)
    · cases h
theorem rc_isi {n m : String} {b : Bool} (h : tyn μ d = some n) (hk : kitB n m = some b) (q : Φ (.bl b) μ) : RC K (rIsi K) [d, .ty m] μ Φ := fun H xs c r1 Q k => by
  cases r1 with
  | cons a r2 =>
    cases r2 with
    | cons a2 r3 =>
      cases a2; cases r3
      exact ⟨_, _, .type n, .type m, b, rfl, .ty m, tyx_of c a h, kit_ty hk, k _ μ _ H Fr.refl c (.bl _) q⟩
theorem a_chain (h : AE K ta τ μ fun d μ1 => AE K tb τ μ1 fun e μ2 => RO K r d e μ2 fun z μ3 => ∃ b, z = .bl b ∧ if b = true then AE K tc τ μ3 fun w μ4 => RO K r' e w μ4 Φ else Φ (.bl false) μ3) : AE K (tChain r r' ta tb tc) τ μ Φ := fun σ H s c Q k =>
  h σ H s c _ fun d μ1 v H1 f1 c1 r1 p1 => p1 σ H1 (s.mono (f1.tx c)) c1 _ fun e μ2 u H2 f2 c2 r2 p2 =>
    p2 H2 v u c2 (Rel.mono (f2.tx c1) _ _ r1) r2 _ fun z μ3 w H3 f3 c3 rz ⟨b, ez, p3⟩ => by
      subst ez
      cases rz
      refine ⟨b, rfl, ?_⟩
      cases b with
      | false => exact k _ μ3 _ H3 ((f1.trans f2).trans f3) c3 (.bl false) (show Φ (.bl false) μ3 from p3)
      | true =>
        exact (show AE K tc τ μ3 _ from p3) σ H3 (s.mono (((f1.trans f2).trans f3).tx c)) c3 _ fun w μ4 w' H4 f4 c4 r4 p4 =>
          p4 H4 u w' c4 (Rel.mono ((f3.trans f4).tx c2) _ _ r2) r4 Q fun z μ5 o H5 f5 c5 rz pz => k z μ5 o H5 ((((f1.trans f2).trans f3).trans f4).trans f5) c5 rz pz
def rInS (K : PySem.W.Frag) (neg : Bool) : R2 := fun x y H Q => ∃ d ds, Dp K H x d ∧ (Dp K H y (.list ds) ∨ Dp K H y (.tuple ds)) ∧ SeqAt.shaped d = true ∧ SeqAt.shaped (.list ds) = true ∧ Q (.bl (if neg then !ds.any fun z => PyData.eqv z d else ds.any fun z => PyData.eqv z d)) H
theorem seq_dp {v : V} {ds : List D} (c : Z.Con K H μ) (r : Rel K H v d) (h : seqD μ d = some ds) (hp : D.plains ds = true) : Dp K H v (.list (D.pys ds)) ∨ Dp K H v (.tuple (D.pys ds)) := by
  cases r with
  | tup ht hr => cases h; exact .inr (.tup ht.sq (Rels.dp _ _ hr hp))
  | rol ht hr => cases h; exact .inl (.lst ht.sq (Rels.dp _ _ hr hp))
  | ref a =>
    unfold seqD at h
    simp only at h
    split at h
    · rename_i ds' e
      cases h
      obtain ⟨xs, h1, h2⟩ := c _ _ e
      exact .inl (.lst (SqL.of h1) (Rels.dp _ _ h2 hp))
    · cases h
  | non => cases h
  | bl => cases h
  | int => cases h
  | str => cases h
  | ty => cases h
def inD (d : D) (ds : List D) : Bool := ds.any fun z => D.eqv z d
theorem inD_pys (d : D) : ∀ ds : List D, (D.pys ds).any (fun z => PyData.eqv z (D.py d)) = inD d ds
  | [] => by simp [D.pys, inD]
  | x :: ds => by
    have ih := inD_pys d ds
    unfold inD at ih ⊢
    simp only [D.pys, List.any_cons, ih]
    rfl
theorem ro_inS {neg : Bool} {ds : List D} (hs : seqD μ e = some ds) (h1 : D.ok d = true) (h2 : D.ok (.tup ds) = true) (q : Φ (.bl (if neg then !inD d ds else inD d ds)) μ) : RO K (rInS K neg) d e μ Φ := fun H x y c r1 r2 Q k => by
  unfold D.ok at h1 h2
  rw [Bool.and_eq_true] at h1 h2
  have p2 : D.plains ds = true := by simpa only [D.plain] using h2.1
  refine ⟨_, D.pys ds, Rel.dp _ _ r1 h1.1, seq_dp c r2 hs p2, h1.2, ?_, ?_⟩
  · have h3 := h2.2
    simp only [D.py] at h3
    exact h3
  · rw [inD_pys]
    exact k _ μ _ H Fr.refl c (.bl _) q
end
/-- a def of the text with its promise -/
structure Def (P : Program) (w : World) (K : PySem.W.Frag) (mg : Str → Option Value) (base : Heap) (x : Str) (ps : List Str) (k : Nat) (sp : Sp) : Prop where
  ex : ∃ f fd, FnOk P w K mg base CX0 k f fd ps sp ∧ mg x = some (.ref f) ∧ PySem.W.keepIn K (.ref f) = true ∧ Binds K fd ps []
section
variable {X : Cx} {k : Nat} {ps : List Str} {sp : Sp} {x : Str} {p pos : Pos} {e : Expr} {es : List Expr} {t : TA}
theorem pe_def (G : Def X.prog X.w X.K X.mg X.base x ps k sp) (hr : Room k X.A) (hg : Gl X x)
    (ha : PA X (e :: es) t) (hdb : (x == ("__debug__" : Str)) = false := by decide) (he : starEach (e :: es) X.env = (false, eval e X.env) :: starEach es X.env := by rfl) (hpl : (backTo pos (starEach es X.env)).any (·.1) = false := by rfl) :
    PE X (.Call (.Name x p) (e :: es) [] pos) (tCall sp [] E0 t) := by
  obtain ⟨f, fd, F, hm, hk, hb⟩ := G.ex
  exact pe_call F hr hg hm hk hb .nil pass0 ha hdb he hpl
end
def CDivX (_ j : Int) : Prop := j ≠ 0 ∧ j.natAbs.log2 < 9000
theorem op_fdivX {X : Cx} : OpR X (binaryOp .FloorDiv) (rI CDivX fun i j => .int (i.fdiv j)) := opI fun i j _ _ _ _ _ hc q => PyProof.Rows.floordiv_int hc.1 q (.inl (PyProof.noPylong_of_log2 hc.2))
end Z
namespace Z
open PySem L2
theorem seq_ref {μ : M} {a : Addr} {ds : List D} (h : μ a = some (.lst ds)) : seqD μ (.ref a) = some ds := by
  show (match μ a with | some (.lst ds) => some ds | _ => none) = some ds
  rw [h]
def Sz (n : Nat) (x : Int) : Prop := x.natAbs < 2 ^ n
instance {n : Nat} {x : Int} : Decidable (Sz n x) := inferInstanceAs (Decidable (x.natAbs < 2 ^ n))
theorem sz_mono {a b : Nat} {x : Int} (h : Sz a x) (l : a ≤ b) : Sz b x := Nat.lt_of_lt_of_le h (Nat.pow_le_pow_right (by decide) l)
theorem sz_add {a b : Nat} {x y : Int} (h : Sz a x) (k : Sz b y) : Sz (max a b + 1) (x + y) := by
  have h1 : x.natAbs < 2 ^ (max a b) := Nat.lt_of_lt_of_le h (Nat.pow_le_pow_right (by decide) (Nat.le_max_left _ _))
  have h2 : y.natAbs < 2 ^ (max a b) := Nat.lt_of_lt_of_le k (Nat.pow_le_pow_right (by decide) (Nat.le_max_right _ _))
  have h3 := Int.natAbs_add_le x y
  unfold Sz
  rw [Nat.pow_succ]
  omega
theorem sz_neg {a : Nat} {x : Int} (h : Sz a x) : Sz a (-x) := by
  unfold Sz
  rw [Int.natAbs_neg]
  exact h
theorem sz_sub {a b : Nat} {x y : Int} (h : Sz a x) (k : Sz b y) : Sz (max a b + 1) (x - y) := by
  rw [Int.sub_eq_add_neg]
  exact sz_add h (sz_neg k)
theorem sz_mul {a b : Nat} {x y : Int} (h : Sz a x) (k : Sz b y) : Sz (a + b) (x * y) := wide_lt h k
theorem sz_mod {a : Nat} {x y : Int} (hy : 0 < y) (k : Sz a y) : Sz a (x % y) := by
  have h1 := Int.emod_nonneg x (by omega : y ≠ 0)
  have h2 := Int.emod_lt_of_pos x hy
  have k' : y.natAbs < 2 ^ a := k
  unfold Sz
  omega
theorem sz_lt {a : Nat} {x y : Int} (h0 : 0 ≤ x) (h1 : x < y) (k : Sz a y) : Sz a x := by
  have k' : y.natAbs < 2 ^ a := k
  unfold Sz
  omega
theorem sz_b {b : Bool} : Sz 1 (if b then 1 else 0) := by cases b <;> decide
theorem sz_128 {x : Int} (h : decide (x.natAbs < 2 ^ 128) = true) : Sz 128 x := of_decide_eq_true h
theorem sz_2 {x : Int} (h : decide (x.natAbs < 2 ^ 2) = true) : Sz 2 x := of_decide_eq_true h
theorem sz_8 {x : Int} (h : decide (x.natAbs < 2 ^ 8) = true) : Sz 8 x := of_decide_eq_true h
theorem sz_32 {x : Int} (h : decide (x.natAbs < 2 ^ 32) = true) : Sz 32 x := of_decide_eq_true h
theorem hu65_of {k : Nat} {A : Around} (hr : Room k A) : A.units + 65 < cLine := by have := hr.un; omega
theorem sz_1 {x : Int} (h : x = 1 ∨ x = 0 ∨ x = -1) : Sz 1 x := by
  rcases h with h | h | h <;> subst h <;> decide
theorem mulw_of {a b : Nat} {x y : Int} (h : Sz a x) (k : Sz b y) (l : (a + 1) + (b + 1) ≤ 1000000) : CMulW x y :=
  wide_mul (a := a + 1) (b := b + 1) (sz_mono h (Nat.le_succ a)) (sz_mono k (Nat.le_succ b)) (Nat.succ_pos _) (Nat.succ_pos _) l
theorem divw_of {b : Nat} {x y : Int} (h : 0 < y) (k : Sz b y) (l : b + 1 ≤ 9000) : CDivW x y := wide_div (b := b + 1) h (sz_mono k (Nat.le_succ b)) (Nat.succ_pos _) l
abbrev pt (x y : Int) : D := .tup [.int x, .int y]
section
variable {X : Cx} {K : PySem.W.Frag}
theorem ix_seqK (h : X.K = K) : IxR X (rIx K) := by subst h; exact ix_seq
theorem op_neDK (h : X.K = K) (hu : X.A.units + 64 < cLine) : OpR X (compareOp .NotEq) (rNeD K) := by subst h; exact op_neD hu
theorem call_isiK1 (h : X.K = K) : CallR X (.builtin "isinstance") (rIsi K) := by subst h; exact call_isi
theorem call_lenK (h : X.K = K) : CallR X (.builtin "len") (fun xs H Q => ∃ x n, xs = [x] ∧ LenV K x H n ∧ Q (.int n) H) := by subst h; exact call_len
end
end Z
namespace Z
open PySem L2
def P_law : PT3 := fun ds μ Φ => ∃ ns : List Int, ds = [.rol (ns.map D.int)] ∧ ns.length ≤ 63 ∧ ∀ μ', Φ (.bl true) μ'
theorem rels_map {K : PySem.W.Frag} {H : Hp} : ∀ ns : List Int, Rels K H (ns.map V.int) (ns.map D.int)
  | [] => .nil
  | n :: ns => .cons (.int n) (rels_map ns)
theorem law_start {K : PySem.W.Frag} {H : Hp} {a : Addr} {ns : List Int} (hl : ns.length ≤ 63) (hO : Only H) (hS : SqL K H a (ns.map V.int)) : spI K P_law [.ref a] H (fun v _ => v = .bl true) fun _ _ _ => False := by
  have hr : RolAt K H a (ns.map V.int) := by
    rcases hS with (h | ⟨o, h⟩) | h
    · rcases hO a with e | ⟨o, xs, e⟩
      · rw [e] at h; cases h
      · rw [e] at h; cases h
    · exact .inl ⟨o, h⟩
    · exact .inr h
  refine ⟨[.rol (ns.map D.int)], fun _ => none, fun d _ => d = .bl true, .cons (.rol hr (rels_map ns)) .nil, fun a m e => (by cases e), ⟨ns, rfl, hl, fun _ => rfl⟩, fun d μ' v H' f c r e => ?_⟩
  subst e
  cases r
  rfl
theorem len_law (ds : List D) (μ : M) (Φ : D → M → Prop) (h : P_law ds μ Φ) : ds.length = 1 := by
  obtain ⟨ns, rfl, _⟩ := h
  rfl
def P_l_cell_at : PT3 := fun ds μ Φ => ∃ (ns : List Int) (k : Int), ds = [.rol (ns.map D.int), .int k] ∧ 0 ≤ k ∧ ∀ z, Φ (.int z) μ
theorem len_l_cell_at (ds : List D) (μ : M) (Φ : D → M → Prop) (h : P_l_cell_at ds μ Φ) : ds.length = 2 := by
  obtain ⟨_, _, rfl, _⟩ := h
  rfl
/-- a bag: what its second number is -/
def BgOk (m : Int) : Prop := 0 ≤ m ∧ m < 2147483648
def P_l_bag : PT3 := fun ds μ Φ => ∃ (ns : List Int) (k : Int), ds = [.rol (ns.map D.int), .int k] ∧ 0 ≤ k ∧ k ≤ 1000 ∧ ∀ p c m, μ p = none → BgOk m → Φ (.ref p) (μ.set p (.lst [.int c, .int m]))
theorem len_l_bag (ds : List D) (μ : M) (Φ : D → M → Prop) (h : P_l_bag ds μ Φ) : ds.length = 2 := by
  obtain ⟨_, _, rfl, _⟩ := h
  rfl
def P_l_take : PT3 := fun ds μ Φ => ∃ (b : Addr) (n c m : Int), ds = [.ref b, .int n] ∧ μ b = some (.lst [.int c, .int m]) ∧ BgOk m ∧ 0 < n ∧ Sz 4000 n ∧ ∀ d c' m', 0 ≤ d → d < n → Sz 4000 d → BgOk m' → Φ (.int d) (μ.set b (.lst [.int c', .int m']))
theorem len_l_take (ds : List D) (μ : M) (Φ : D → M → Prop) (h : P_l_take ds μ Φ) : ds.length = 2 := by
  obtain ⟨_, _, _, _, rfl, _⟩ := h
  rfl
theorem iteNT {A B : Prop} (h : B) : if (!true) = true then A else B := h
theorem iteNF {A B : Prop} (h : A) : if (!false) = true then A else B := h
/-- an if whose test is a comparison -/
theorem ite_d {p : Prop} [Decidable p] {A B : Prop} (h1 : p → A) (h2 : ¬ p → B) : if decide p = true then A else B := by
  by_cases h : p
  · rw [if_pos (decide_eq_true h)]; exact h1 h
  · rw [if_neg (by simpa using h)]; exact h2 h
theorem ite_nd {p : Prop} [Decidable p] {A B : Prop} (h1 : ¬ p → A) (h2 : p → B) : if (!decide p) = true then A else B := by
  by_cases h : p
  · rw [if_neg (by simpa using h)]; exact h2 h
  · rw [if_pos (by simpa using h)]; exact h1 h
theorem map_get {ns : List Int} {k : Int} (h0 : 0 ≤ k) (h1 : k < ns.length) : ∃ z, atI (ns.map D.int) k = some (.int z) := by
  obtain ⟨j, rfl⟩ := Int.eq_ofNat_of_zero_le h0
  have hj : j < ns.length := by omega
  exact ⟨ns[j], atI_nat (by rw [List.getElem?_map, List.getElem?_eq_getElem hj]; rfl)⟩
/-- an if, then a word of what holds behind it -/
theorem if_cut {K : PySem.W.Frag} {τ : T} {μ : M} {N : AEnds} {t1 t2 : TS} {b : Bool} (M0 : T → M → Prop) (h1 : b = true → AS K t1 τ μ { N with nx := M0 }) (h2 : b = false → AS K t2 τ μ { N with nx := M0 }) (k : ∀ τ' μ', M0 τ' μ' → N.nx τ' μ') :
    if b = true then AS K t1 τ μ N else AS K t2 τ μ N := by
  cases b with
  | true => rw [if_pos rfl]; exact (h1 rfl).imp k (fun _ _ h => h) (fun _ _ h => h) fun _ _ h => h
  | false => rw [if_neg Bool.false_ne_true]; exact (h2 rfl).imp k (fun _ _ h => h) (fun _ _ h => h) fun _ _ h => h
end Z
namespace Z
open PySem L2
/-- J yields xs in turn while G stands; what is at out is not in the store meanwhile -/
structure WalkD (K : PySem.W.Frag) (J : It) (xs : List D) (out : Addr → Prop) (G : Hp → Prop) : Prop where
  keep : ∀ H H' μ μ', Z.Con K H μ → (∀ a, out a → μ a = none) → G H → Fr μ μ' H H' → G H'
  oo : ∀ H a, G H → out a → ∃ o, H a = some o
  go : ∀ i H, i < xs.length → G H → J.go i H
  stop : ∀ i H, xs.length ≤ i → G H → J.stop i H
  yld : ∀ i H v H', i < xs.length → G H → J.yld i H v H' → ∃ x, xs[i]? = some x ∧ Rel K H' v x ∧ (H' = H ∨ ∃ T vs, H T = none ∧ H' = upd H T (.tup vs))
/-- how the store is put together again -/
structure Back (K : PySem.W.Frag) (μ μw : M) (H H1 : Hp) (back : M → M) : Prop where
  fr : ∀ μ' H', Fr μw μ' H1 H' → Fr μ (back μ') H H'
  con : ∀ μ' H', Fr μw μ' H1 H' → Z.Con K H' μ' → Z.Con K H' (back μ')
  nw : ∀ μ' p, H1 p = none → μ' p = none → back μ' p = none
  old : ∀ b o, μ b = none → H b = some o → H1 b = some o
/-- a source: what follows is told of the items, the store while it is walked, the way back -/
def AI (K : PySem.W.Frag) (wi : TI) (τ : T) (μ : M) (Ψ : List D → M → (M → M) → Prop) : Prop :=
  ∀ σ H, Slots K H τ σ → Z.Con K H μ → ∀ R : It → Hp → Prop,
    (∀ J xs out G H1 μw back, Tx H H1 → Z.Con K H1 μw → WalkD K J xs out G → G H1 → (∀ a, out a → μw a = none) → Back K μ μw H H1 back → Ψ xs μw back → R J H1) → wi σ H R
section
variable {K : PySem.W.Frag} {τ : T} {μ μ1 μ2 : M} {H H1 H2 H' : Hp} {σ : L2.St} {Φ : D → M → Prop} {ta tl te : TE} {tt : TT} {N : AEnds} {ts tb : TS} {g : TG} {wi : TI}
/-- behind one yield -/
theorem yld_ok {T0 : Addr} {vs : List V} (c : Z.Con K H μ) (h : H T0 = none) : Fr μ μ H (upd H T0 (.tup vs)) ∧ Z.Con K (upd H T0 (.tup vs)) μ := ⟨fr_new h, con_new h c⟩
variable {Ψ : List D → M → (M → M) → Prop}
/-- a, b, .. = a list of the store, or a read-only one -/
theorem g_lst {n : Nat} {gs : TGs} {ds : List D} {d : D} {Θ : T → M → Prop} (hs : seqD μ d = some ds) (hd : ∀ es, d ≠ .tup es) (hn : ds.length = n) (h : AGs K gs ds τ μ Θ) : AG K (gLst K n gs) d τ μ Θ := fun σ H v s c r Q k => by
  obtain ⟨a, xs, e, hq, hr⟩ := seq_of c r hs
  subst e
  rcases hq with hq | hq
  · exact ⟨a, xs, rfl, hq, by rw [hr.length]; exact hn, h σ H _ s c hr Q k⟩
  · cases r with
    | tup ht hr' => exact absurd rfl (hd _)
    | rol ht hr' => cases hs; exact ⟨_, _, rfl, ht.sq, by rw [hr'.length]; exact hn, h σ H _ s c hr' Q k⟩
    | ref a =>
      unfold seqD at hs
      simp only at hs
      split at hs
      · rename_i ds' e
        cases hs
        obtain ⟨ys, h1, h2⟩ := c _ _ e
        exact ⟨_, ys, rfl, SqL.of h1, by rw [h2.length]; exact hn, h σ H _ s c h2 Q k⟩
      · cases hs
end
end Z
namespace Z
open PySem L2
def Up (Φ : D → M → Prop) : D → M → Prop := fun d μ' => ∃ μ2, Sub μ2 μ' ∧ Φ d μ2
theorem up {Φ : D → M → Prop} {d : D} {μ' : M} (h : Φ d μ') : Up Φ d μ' := ⟨μ', Sub.refl, h⟩
abbrev Fq := Int × Int
abbrev Pl := Fq × Fq
theorem absn (i : Int) : (if i < 0 then -i else i) = (i.natAbs : Int) := by split <;> omega
end Z
namespace Z
open PySem L2
section
variable {K : PySem.W.Frag} {μ μ' : M} {Φ : D → M → Prop} {b l : Addr} {X : MO}
theorem ro_isB {a b : Bool} (q : Φ (.bl (decide (a = b))) μ) : RO K rIsB (.bl a) (.bl b) μ Φ := fun H x y c r1 r2 Q k => by
  cases r1; cases r2
  exact ⟨a, b, rfl, rfl, k _ μ _ H Fr.refl c (.bl _) q⟩
theorem ro_notB {a b : Bool} (q : Φ (.bl (!decide (a = b))) μ) : RO K rNotB (.bl a) (.bl b) μ Φ := fun H x y c r1 r2 Q k => by
  cases r1; cases r2
  exact ⟨a, b, rfl, rfl, k _ μ _ H Fr.refl c (.bl _) q⟩
end
structure Gd (n : Nat) (p : Fq) : Prop where
  pos : 0 < p.2
  s1 : Sz n p.1
  s2 : Sz n p.2
structure GdP (n : Nat) (p : Pl) : Prop where
  x : Gd n p.1
  y : Gd n p.2
theorem Gd.mono {n m : Nat} {p : Fq} (h : Gd n p) (l : n ≤ m) : Gd m p := ⟨h.pos, sz_mono h.s1 l, sz_mono h.s2 l⟩
theorem GdP.mono {n m : Nat} {p : Pl} (h : GdP n p) (l : n ≤ m) : GdP m p := ⟨h.x.mono l, h.y.mono l⟩
end Z
namespace Z
open PySem L2
def AO (K : PySem.W.Frag) (to : TO) (τ : T) (μ : M) (Θ : Option Int → M → Prop) : Prop :=
  ∀ σ H, Slots K H τ σ → Z.Con K H μ → ∀ R : Option Int → Hp → Prop, (∀ o μ' H', Fr μ μ' H H' → Z.Con K H' μ' → Θ o μ' → R o H') → to σ H R
/-- what a slice of d answers -/
def RS (K : PySem.W.Frag) (r : V → Option Int → Option Int → Hp → VK → Prop) (d : D) (lo hi : Option Int) (μ : M) (Φ : D → M → Prop) : Prop :=
  ∀ H x, Z.Con K H μ → Rel K H x d → ∀ Q : VK, (∀ z μ' v H', Fr μ μ' H H' → Z.Con K H' μ' → Rel K H' v z → Φ z μ' → Q v H') → r x lo hi H Q
def cutD (ds : List D) (lo hi : Option Int) : List D := (ds.drop (HT.sIx ds.length 0 lo)).take (HT.sIx ds.length ds.length hi - HT.sIx ds.length 0 lo)
section
variable {K : PySem.W.Frag} {τ : T} {μ μ1 μ2 : M} {H H1 H2 H' : Hp} {σ : L2.St} {Φ : D → M → Prop} {ta tl te : TE} {to tp : TO} {Θ : Option Int → M → Prop} {d e : D}
theorem ao_no (h : Θ none μ) : AO K tNoPart τ μ Θ := fun σ H s c R k => k none μ H Fr.refl c h
theorem ao_pt (h : AE K te τ μ fun d μ1 => ∃ i, d = .int i ∧ Θ (some i) μ1) : AO K (tPart te) τ μ Θ := fun σ H s c R k => h σ H s c _ fun d μ1 v H1 f1 c1 r1 ⟨i, e, q⟩ => by
  subst e
  cases r1
  exact ⟨i, rfl, k (some i) μ1 H1 f1 c1 q⟩
theorem a_sl {r : V → Option Int → Option Int → Hp → VK → Prop} (h : AE K te τ μ fun d μ1 => AO K to τ μ1 fun lo μ2 => AO K tp τ μ2 fun hi μ3 => RS K r d lo hi μ3 Φ) : AE K (L2.tSl r te to tp) τ μ Φ := fun σ H s c Q k =>
  h σ H s c _ fun d μ1 v H1 f1 c1 r1 p1 => p1 σ H1 (s.mono (f1.tx c)) c1 _ fun lo μ2 H2 f2 c2 p2 => p2 σ H2 (s.mono ((f1.trans f2).tx c)) c2 _ fun hi μ3 H3 f3 c3 p3 =>
    p3 H3 v c3 (Rel.mono ((f2.trans f3).tx c1) _ _ r1) Q fun z μ' w H' f c' rz pz => k z μ' w H' (((f1.trans f2).trans f3).trans f) c' rz pz
theorem Rels.cut {vs : List V} {ds : List D} (lo hi : Option Int) (r : Rels K H vs ds) : Rels K H (cutV vs lo hi) (cutD ds lo hi) := by
  unfold cutV cutD
  rw [r.length]
  exact (r.drop _).take _
theorem rs_ref {a : Addr} {ds : List D} {lo hi : Option Int} (h : μ a = some (.lst ds)) (q : ∀ p, μ p = none → Φ (.ref p) (μ.set p (.lst (cutD ds lo hi)))) : RS K (rSlL K) (.ref a) lo hi μ Φ := fun H x c r Q k => by
  cases r
  obtain ⟨xs, hx, hr⟩ := c a _ h
  exact ⟨a, xs, rfl, SqL.of hx, fun p hp => k _ _ _ _ (fr_put hp) (con_put (m := .lst (cutD ds lo hi)) hp c ⟨_, upd_same, Rels.mono (tx_new hp) _ _ (hr.cut lo hi)⟩) (.ref p) (q p (c.free hp))⟩
theorem rs_rol {ds : List D} {lo hi : Option Int} (q : ∀ p, μ p = none → Φ (.ref p) (μ.set p (.lst (cutD ds lo hi)))) : RS K (rSlL K) (.rol ds) lo hi μ Φ := fun H x c r Q k => by
  cases r with
  | @rol a xs _ ht hr => exact ⟨a, xs, rfl, ht.sq, fun p hp => k _ _ _ _ (fr_put hp) (con_put (m := .lst (cutD ds lo hi)) hp c ⟨_, upd_same, Rels.mono (tx_new hp) _ _ (hr.cut lo hi)⟩) (.ref p) (q p (c.free hp))⟩
/-- two lists of the store, put together -/
theorem ro_cat {a b : Addr} {ds es : List D} (h1 : μ a = some (.lst ds)) (h2 : μ b = some (.lst es)) (hz : ds.length + es.length ≤ sizeLine) (q : ∀ p, μ p = none → Φ (.ref p) (μ.set p (.lst (ds ++ es)))) : RO K rCat (.ref a) (.ref b) μ Φ := fun H x y c r1 r2 Q k => by
  cases r1
  cases r2
  obtain ⟨xs, hx, hr⟩ := c a _ h1
  obtain ⟨ys, hy, hr2⟩ := c b _ h2
  exact ⟨a, b, xs, ys, rfl, rfl, hx, hy, by rw [hr.length, hr2.length]; exact hz, fun p hp => k _ _ _ _ (fr_put hp) (con_put (m := .lst (ds ++ es)) hp c ⟨_, upd_same, Rels.mono (tx_new hp) _ _ (hr.append hr2)⟩) (.ref p) (q p (c.free hp))⟩
end
end Z
namespace ZL
open PySem PySem.Spec PyProof.Rows PySem.Calls PySem.W
section
variable {prog : Program} {w : World} {A : Around} {E : Value → Shared → Prop} {s : Shared} {z TI TO T S i1 i2 l1 l2 : Addr} {xs ys : Array Value}
/-- how the zip stands ahead of turn k, while a list S takes its pairs -/
def ZSt (h : Heap) (z TI TO i1 i2 l1 l2 S : Addr) (xs ys : Array Value) (k : Nat) : Prop :=
  (IsPair h TI (.ref i1) (.ref i2) ∧ h.IsTupleIter i1 l1 k ∧ h.IsTupleIter i2 l2 k ∧ h.IsTuple l1 xs ∧ h.IsTuple l2 ys) ∧
  ((IsZip h z TI TO .none ∧ ∃ u v, IsPair h TO u v) ∨ ∃ T f oT, IsZipHeld h z TI TO T f ∧ h.get? T = some oT ∧ T ≠ z ∧ T ≠ i1 ∧ T ≠ i2 ∧ T ≠ S)
structure Off (S z TI TO i1 i2 l1 l2 : Addr) : Prop where
  sz : S ≠ z
  sTI : S ≠ TI
  sTO : S ≠ TO
  s1 : S ≠ i1
  s2 : S ≠ i2
  sl1 : S ≠ l1
  sl2 : S ≠ l2
theorem ZSt.keep {h h' : Heap} {k : Nat} (O : Off S z TI TO i1 i2 l1 l2) (st : ZSt h z TI TO i1 i2 l1 l2 S xs ys k) (hk : ∀ b o, b ≠ S → h.get? b = some o → h'.get? b = some o) : ZSt h' z TI TO i1 i2 l1 l2 S xs ys k := by
  obtain ⟨⟨a1, a2, a3, ⟨o4, a4, b4⟩, ⟨o5, a5, b5⟩⟩, q⟩ := st
  refine ⟨⟨hk _ _ O.sTI.symm a1, a2.at fun o e => hk _ _ O.s1.symm e, a3.at fun o e => hk _ _ O.s2.symm e, ⟨o4, hk _ _ O.sl1.symm a4, b4⟩, ⟨o5, hk _ _ O.sl2.symm a5, b5⟩⟩, ?_⟩
  rcases q with ⟨q1, u, v, q2⟩ | ⟨T, f, oT, q1, q2, n1, n2, n3, n4⟩
  · exact .inl ⟨hk _ _ O.sz.symm q1, u, v, hk _ _ O.sTO.symm q2⟩
  · exact .inr ⟨T, f, oT, hk _ _ O.sz.symm q1, hk _ _ n4 q2, n1, n2, n3, n4⟩
end
end ZL
namespace Z
open PySem L2
end Z
namespace Z
open PySem L2
section
variable {K : PySem.W.Frag} {τ : T} {μ μ1 μ2 : M} {H H1 H2 H' : Hp} {σ : L2.St} {Φ : D → M → Prop} {ta tl te : TE} {tt tt1 : TT} {g g1 : TG} {wi wi1 : TI} {d e : D}
theorem cutD_all {ds : List D} {lo hi : Option Int} (h : HT.sIx ds.length 0 lo = 0 ∧ HT.sIx ds.length ds.length hi = ds.length) : cutD ds lo hi = ds := by
  unfold cutD
  rw [h.1, h.2]
  simp
theorem rs_tupA {ds : List D} {lo hi : Option Int} (q : Φ (.tup (cutD ds lo hi)) μ) : RS K (rSlA K) (.tup ds) lo hi μ Φ := fun H x c r Q k => by
  cases r with
  | @tup a xs _ ht hr =>
    refine ⟨a, xs, rfl, ht.sq, fun hw => ?_, fun hw p hp => k _ μ _ _ (fr_new hp) (con_new hp c) (.tup (.inl upd_same) (Rels.mono (tx_new hp) _ _ (hr.cut lo hi))) q⟩
    rw [hr.length] at hw
    rw [cutD_all hw] at q
    exact k _ μ _ _ Fr.refl c (.tup ht hr) q
theorem ro_catA {ds es : List D} (hz : ds.length + es.length ≤ sizeLine) (q : Φ (.tup (ds ++ es)) μ) : RO K (rCatA K) (.tup ds) (.tup es) μ Φ := fun H x y c r1 r2 Q k => by
  cases r1 with
  | @tup a xs _ ht hr =>
    cases r2 with
    | @tup b ys _ ht2 hr2 =>
      refine ⟨a, b, xs, ys, rfl, rfl, ht.sq, ht2.sq, by rw [hr.length, hr2.length]; exact hz, fun z => ?_, fun _ z => ?_, fun _ _ p hp => ?_⟩
      · subst z; cases hr; exact k _ μ _ _ Fr.refl c (.tup ht2 hr2) q
      · subst z; cases hr2; rw [List.append_nil] at q; exact k _ μ _ _ Fr.refl c (.tup ht hr) q
      · exact k _ μ _ _ (fr_new hp) (con_new hp c) (.tup (.inl upd_same) (Rels.mono (tx_new hp) _ _ (hr.append hr2))) q
variable {Ψ : List D → M → (M → M) → Prop}
end
end Z
namespace Z
open PySem L2
/-- plain, and n deep at most -/
structure OkN (n : Nat) (d : D) : Prop where
  p : D.plain d = true
  l : (D.py d).canLay0 = true
  d : (D.py d).depth ≤ n
theorem OkN.mono {n m : Nat} {d : D} (h : OkN n d) (l : n ≤ m) : OkN m d := ⟨h.p, h.l, Nat.le_trans h.d l⟩
theorem OkN.ok {n : Nat} {d : D} (h : OkN n d) (l : n ≤ 64) : D.ok d = true := by
  unfold D.ok SeqAt.shaped
  rw [h.p, h.l, decide_eq_true (Nat.le_trans h.d l)]
  rfl
theorem okn_int {i : Int} : OkN 0 (.int i) := ⟨by simp only [D.plain], by simp only [D.py, PyData.canLay0], by simp only [D.py, PyData.depth]; exact Nat.le_refl _⟩
theorem okn_all {n : Nat} : ∀ {ds : List D}, (∀ x ∈ ds, OkN n x) → D.plains ds = true ∧ PyData.canLayAll0 (D.pys ds) = true ∧ PyData.depthAll (D.pys ds) ≤ n
  | [], _ => ⟨by simp only [D.plains], by simp only [D.pys, PyData.canLayAll0], by simp only [D.pys, PyData.depthAll]; exact Nat.zero_le _⟩
  | x :: ds, h => by
    obtain ⟨h1, h2, h3⟩ := okn_all (ds := ds) fun y hy => h y (List.mem_cons_of_mem _ hy)
    have hx := h x List.mem_cons_self
    refine ⟨by simp only [D.plains, hx.p, h1, Bool.and_self], by simp only [D.pys, PyData.canLayAll0, hx.l, h2, Bool.and_self], ?_⟩
    simp only [D.pys, PyData.depthAll]
    exact Nat.max_le.mpr ⟨hx.d, h3⟩
theorem okn_tup {n : Nat} {ds : List D} (h : ∀ x ∈ ds, OkN n x) : OkN (n + 1) (.tup ds) := by
  obtain ⟨h1, h2, h3⟩ := okn_all h
  exact ⟨by simp only [D.plain]; exact h1, by simp only [D.py, PyData.canLay0]; exact h2, by simp only [D.py, PyData.depth]; omega⟩
theorem okn_pt {x y : Int} : OkN 1 (pt x y) := okn_tup fun z hz => by
  simp only [List.mem_cons, List.not_mem_nil, or_false] at hz
  rcases hz with rfl | rfl <;> exact okn_int
theorem eqv_self {n : Nat} {d : D} (h : OkN n d) : D.eqv d d = true := SeqAt.eqv_refl _ h.l
end Z
namespace Z
open PySem L2
end Z
namespace PySem.HandSPX
open PySem PySem.Spec PySem.Calls
end PySem.HandSPX
namespace XO
open PySem PySem.Spec PyProof.Rows L2
open Builtin Builtin.ObjectAttr
abbrev tlVE : List Value := [.type "ValueError", .type "Exception", .type "BaseException", .type "object"]
end XO
namespace Z
open PySem L2
/-- o.m(..) where it may let an exception out -/
def tMethX (C : Addr) (m : Str) (sp : Sp) (E : L2.St → XK) (ta : TE) (t : TA) : TE := fun σ H Q => ta σ H fun x H1 => ∃ a dx fs, x = .ref a ∧ H1 a = some (.ins C dx fs) ∧ fs.lookup m = none ∧ t σ H1 fun vs H2 => sp (x :: vs) H2 Q (E σ)
abbrev XW := Str → Option Addr → M → Prop
/-- P args store wish out -/
abbrev PT4 := List D → M → (D → M → Prop) → XW → Prop
def spX (K : PySem.W.Frag) (cn : Str → Option Value) (P : PT4) : Sp := fun vs H Q E => ∃ ds μ Φ Ξ, Rels K H vs ds ∧ Z.Con K H μ ∧ P ds μ Φ Ξ ∧ (∀ d μ' v H', Fr μ μ' H H' → Z.Con K H' μ' → Rel K H' v d → Φ d μ' → Q v H') ∧
  ∀ x dx μ' cls H', cn x = some cls → Fr μ μ' H H' → Z.Con K H' μ' → Ξ x dx μ' → E cls dx H'
section
variable {K : PySem.W.Frag} {τ : T} {μ μ1 μ2 : M} {H H1 H2 : Hp} {σ : L2.St} {Φ Ψ : D → M → Prop} {ta tb tc te : TE} {t u : TT} {x y z d e : D} {N : AEnds} {ts us : TS} {P : PT4} {P3 : PT3} {E : XK} {g : TG} {cn : Str → Option Value}
theorem spX_len {vs : List V} {Q : VK} {n : Nat} (h : spX K cn P vs H Q E) (hn : ∀ ds μ Φ Ξ, P ds μ Φ Ξ → ds.length = n) : vs.length = n := by
  obtain ⟨ds, μ, Φ, Ξ, r, _, p, _⟩ := h
  rw [r.length]; exact hn _ _ _ _ p
abbrev endX (cn : Str → Option Value) (E : XK) (Φ : D → M → Prop) (Ξ : XW) : AEnds := { nx := fun _ μ' => Φ .non μ', rt := Φ, W := fun cls d _ H => E cls d H, cn := cn, xs := fun x dx _ μ' => Ξ x dx μ' }
theorem body_okX {Ns : List Str} {vs : List V} {Q : VK} (h : spX K cn P vs H Q E) (hb : ∀ ds μ Φ Ξ, P ds μ Φ Ξ → AS K ts (startD Ns.length ds) μ (endX cn E Φ Ξ)) :
    ts { nx := fun _ H' => Q .non H', rt := Q } (L2.start Ns vs) H := by
  obtain ⟨ds, μ, Φ, Ξ, r, c, p, k, kx⟩ := h
  exact hb ds μ Φ Ξ p _ H (slots_start r) c _ ⟨fun _ μ' _ H' f c' _ q => k .non μ' .non H' f c' .non q, fun d μ' v H' f c' r' q => k d μ' v H' f c' r' q, fun _ _ _ _ _ _ _ q => q.elim, fun _ _ _ _ _ _ _ q => q.elim,
    fun x dx _ μ' cls _ H' e f c' _ q => kx x dx μ' cls H' e f c' q⟩
/-- a call that lets nothing out here -/
theorem a_callX {ta : TA} (h : AA K ta τ μ fun ds μ1 => P ds μ1 Φ fun _ _ _ => False) : AE K (tCall (spX K cn P) [] E ta) τ μ Φ := fun σ H s c Q k =>
  h σ H s c _ fun ds μ1 vs H1 f1 c1 r1 p => by
    show spX K cn P (vs ++ []) H1 Q E
    rw [List.append_nil]
    exact ⟨ds, μ1, Φ, _, r1, c1, p, fun d μ' v H' f c' r q => k d μ' v H' (f1.trans f) c' r q, fun _ _ _ _ _ _ _ _ q => q.elim⟩
def AEX (K : PySem.W.Frag) (t : TE) (τ : T) (μ : M) (N : AEnds) (Φ : D → M → Prop) : Prop :=
  ∀ σ H, Slots K H τ σ → Con K H μ → ∀ Q : VK, (∀ d μ' v H', Fr μ μ' H H' → Con K H' μ' → Rel K H' v d → Φ d μ' → Q v H') →
    (∀ x dx μ' cls H', N.cn x = some cls → Fr μ μ' H H' → Con K H' μ' → N.xs x dx τ μ' → N.W cls dx σ H') → t σ H Q
theorem x_of {E' : Ends} (k : EndsOk K N μ H E') (s : Slots K H τ σ) (c : Con K H μ) : ∀ x dx μ' cls H', N.cn x = some cls → Fr μ μ' H H' → Con K H' μ' → N.xs x dx τ μ' → N.W cls dx σ H' :=
  fun x dx μ' cls H' e f c' q => k.wx x dx τ μ' cls σ H' e f c' (s.mono (f.tx c)) q
theorem s_dropX (h : AEX K te τ μ N fun _ μ' => N.nx τ μ') : AS K (tDrop te) τ μ N := fun σ H s c E k =>
  h σ H s c _ (fun d μ' v H' f c' r p => k.nx τ μ' σ H' f c' (s.mono (f.tx c)) p) (x_of k s c)
theorem s_asgX (h : AEX K te τ μ N fun d μ' => AG K g d τ μ' N.nx) : AS K (tAsg te g) τ μ N := fun σ H s c E k =>
  h σ H s c _ (fun d μ' v H' f c' r p => p σ H' v (s.mono (f.tx c)) c' r _ fun τ2 μ2 σ2 H2 f2 c2 s2 q => k.nx τ2 μ2 σ2 H2 (f.trans f2) c2 s2 q) (x_of k s c)
theorem x_call {ta : TA} (h : AA K ta τ μ fun ds μ1 => P ds μ1 Φ fun x dx μ' => N.xs x dx τ μ') : AEX K (tCallS (spX K N.cn P) (WE N.W) ta) τ μ N Φ := fun σ H s c Q k kx =>
  h σ H s c _ fun ds μ1 vs H1 f1 c1 r1 p => ⟨ds, μ1, Φ, _, r1, c1, p, fun d μ' v H' f c' r q => k d μ' v H' (f1.trans f) c' r q, fun x dx μ' cls H' e f c' q => kx x dx μ' cls H' e (f1.trans f) c' q⟩
theorem look_none {H1 : Hp} {m : Str} : ∀ {vs : List (Str × V)} {fs : List (Str × D)}, RelKV K H1 vs fs → fs.lookup m = none → vs.lookup m = none := by
  intro vs fs r
  induction r with
  | nil => intro _; rfl
  | cons a _ ih =>
    rename_i p q ps qs _
    obtain ⟨e1, _⟩ := a
    intro h
    rw [List.lookup_cons] at h ⊢
    rw [e1]
    split at h
    · cases h
    · exact ih h
/-- o.m(..), what the instance is made of kept -/
theorem a_methX {C : Addr} {m : Str} {ta : TA} (h : AE K te τ μ fun o μ1 => ∃ a dx fs, o = .ref a ∧ μ1 a = some (.ins C dx fs) ∧ fs.lookup m = none ∧ AA K ta τ μ1 fun ds μ2 => P (o :: ds) μ2 Φ fun _ _ _ => False) :
    AE K (tMeth C m (spX K cn P) [] E te ta) τ μ Φ := fun σ H s c Q k =>
  h σ H s c _ fun o μ1 v H1 f1 c1 r1 ⟨a, dx, fs, e, ha, hm, p1⟩ => by
    subst e
    cases r1
    obtain ⟨vs, hv, hr⟩ := c1 a _ ha
    refine ⟨a, dx, vs, rfl, hv, look_none hr hm, p1 σ H1 (s.mono (f1.tx c)) c1 _ fun ds μ2 us H2 f2 c2 r2 p => ?_⟩
    rw [List.append_nil]
    exact ⟨.ref a :: ds, μ2, Φ, _, .cons (.ref a) r2, c2, p, fun d μ' v H' f c' r q => k d μ' v H' ((f1.trans f2).trans f) c' r q, fun _ _ _ _ _ _ _ _ q => q.elim⟩
theorem x_meth {C : Addr} {m : Str} {ta : TA} (h : AE K te τ μ fun o μ1 => ∃ a dx fs, o = .ref a ∧ μ1 a = some (.ins C dx fs) ∧ fs.lookup m = none ∧ AA K ta τ μ1 fun ds μ2 => P (o :: ds) μ2 Φ fun x dx μ' => N.xs x dx τ μ') :
    AEX K (tMethX C m (spX K N.cn P) (WE N.W) te ta) τ μ N Φ := fun σ H s c Q k kx =>
  h σ H s c _ fun o μ1 v H1 f1 c1 r1 ⟨a, dx, fs, e, ha, hm, p1⟩ => by
    subst e
    cases r1
    obtain ⟨vs, hv, hr⟩ := c1 a _ ha
    exact ⟨a, dx, vs, rfl, hv, look_none hr hm, p1 σ H1 (s.mono (f1.tx c)) c1 _ fun ds μ2 us H2 f2 c2 r2 p =>
      ⟨.ref a :: ds, μ2, Φ, _, .cons (.ref a) r2, c2, p, fun d μ' v H' f c' r q => k d μ' v H' ((f1.trans f2).trans f) c' r q, fun x dx μ' cls H' e f c' q => kx x dx μ' cls H' e ((f1.trans f2).trans f) c' q⟩⟩
/-- what the clause makes of an exception: caught, b, by this clause's suite, or let through -/
theorem s_tryAs (cn : Str → Option Value) {tb : WX → TS} {tu : Addr → Value → Option Addr → TS} {c : Value} {i : Nat} (hit : Str → Bool) (hm : ∀ x cls, cn x = some cls → PySem.W.exmOne K cls c = some (hit x))
    (hb : ∀ W, AS K (tb W) τ μ { N with W := W, cn := cn, xs := fun x dx τ' μ' => (hit x = true ∧ ∀ a cls, cn x = some cls → AS K (tu a cls dx) (τ'.set i (some (.ref a))) μ'
      { nx := fun τ2 μ2 => N.nx (τ2.set i none) μ2, rt := N.rt, bk := fun τ2 μ2 => N.bk (τ2.set i none) μ2, ct := fun τ2 μ2 => N.ct (τ2.set i none) μ2 }) ∨ (hit x = false ∧ N.cn x = cn x ∧ N.xs x dx τ' μ') }) :
    AS K (fun D σ H => tb (wAs K c i tu N.W D) D σ H) τ μ N := fun σ H s cc E k => by
  refine hb (wAs K c i tu N.W E) σ H s cc E ⟨k.nx, k.rt, k.bk, k.ct, fun x dx τ' μ' cls σ' H' ec f c' s' q => ?_⟩
  refine ⟨hit x, hm x cls ec, fun hx a na => ?_, fun hx => ?_⟩
  · rcases q with ⟨_, q⟩ | ⟨z, _⟩
    · have unset : ∀ {τ2 : T} {σ2 : L2.St} {H2 : Hp}, Slots K H2 τ2 σ2 → Slots K H2 (τ2.set i none) (σ2.set i none) := fun {τ2 σ2 H2} s2 => by
        refine ⟨by rw [List.length_set, List.length_set]; exact s2.1, fun j d e => ?_⟩
        by_cases hj : i = j
        · subst hj
          by_cases hi : i < τ2.length
          · rw [List.getElem?_set_self hi] at e; cases e
          · rw [List.getElem?_eq_none (by rw [List.length_set]; omega)] at e; cases e
        · rw [List.getElem?_set_ne hj] at e ⊢
          exact s2.2 j d e
      exact q a cls ec (σ'.set i (some (.ref a))) H' (s'.set (.ref a) i) c' _ ⟨fun τ2 μ2 σ2 H2 f2 c2 s2 p => k.nx _ μ2 _ H2 (f.trans f2) c2 (unset s2) p, fun d μ2 v H2 f2 c2 r p => k.rt d μ2 v H2 (f.trans f2) c2 r p,
        fun τ2 μ2 σ2 H2 f2 c2 s2 p => k.bk _ μ2 _ H2 (f.trans f2) c2 (unset s2) p, fun τ2 μ2 σ2 H2 f2 c2 s2 p => k.ct _ μ2 _ H2 (f.trans f2) c2 (unset s2) p, fun _ _ _ _ _ _ _ z => by cases z⟩
    · rw [hx] at z; cases z
  · rcases q with ⟨z, _⟩ | ⟨_, q⟩
    · rw [hx] at z; cases z
    · exact k.wx x dx τ' μ' cls σ' H' (q.1.trans ec) f c' s' q.2
end
/-- a def that may let an exception out -/
structure DefX (P : Program) (w : World) (K : PySem.W.Frag) (mg : Str → Option Value) (base : Heap) (x : Str) (ps : List Str) (k : Nat) (sp : Sp) : Prop where
  ex : ∃ f fd, FnOk P w K mg base (L2.CX P w) k f fd ps sp ∧ mg x = some (.ref f) ∧ PySem.W.keepIn K (.ref f) = true ∧ Binds K fd ps []
section
variable {X : Cx} {k : Nat} {ps : List Str} {sp : Sp} {x m : Str} {C : Addr} {p pos apos : Pos} {o e : Expr} {es : List Expr} {to : TE} {t : TA} {W : WX}
/-- .. called where it lets nothing out -/
theorem pe_defN (G : DefX X.prog X.w X.K X.mg X.base x ps k sp) (hr : Room k X.A) (hg : Gl X x)
    (ha : PA X (e :: es) t) (hdb : (x == ("__debug__" : Str)) = false := by decide) (he : starEach (e :: es) X.env = (false, eval e X.env) :: starEach es X.env := by rfl) (hpl : (backTo pos (starEach es X.env)).any (·.1) = false := by rfl) :
    PE X (.Call (.Name x p) (e :: es) [] pos) (tCall sp [] E0 t) := by
  obtain ⟨f, fd, F, hm, hk, hb⟩ := G.ex
  exact pe_call F hr hg hm hk hb .nil passL ha hdb he hpl
/-- .. where it may -/
theorem pe_defX (tk : Takes X W) (G : DefX X.prog X.w X.K X.mg X.base x ps k sp) (hr : Room k X.A) (hg : Gl X x)
    (ha : PA X (e :: es) t) (hdb : (x == ("__debug__" : Str)) = false := by decide) (he : starEach (e :: es) X.env = (false, eval e X.env) :: starEach es X.env := by rfl) (hpl : (backTo pos (starEach es X.env)).any (·.1) = false := by rfl) :
    PE X (.Call (.Name x p) (e :: es) [] pos) (tCallS sp (WE W) t) := by
  obtain ⟨f, fd, F, hm, hk, hb⟩ := G.ex
  exact pe_callS F hr hg hm hk hb (fun σ => passAt tk σ) ha hdb he hpl
end
end Z
namespace Z
open PySem L2
end Z
namespace ST
open PySem PySem.Spec PyProof.Rows L2 PpSet
section
variable {X : Cx} {pins : List (Addr × Obj)} {σ : L2.St} {H : Hp} {s : Shared} {E : Value → Shared → Prop}
/-- {elt for target in iter if ..}, elt a tuple of ints: Dl the new set -/
def tScT (P : Program) (w : World) (wi : TI) (g : TG) (tt : TT) (te : TE) (vs : List Nat) : TE := fun σ H Q => wi σ H fun J H1 => ∀ Dl, H1 Dl = none → ∃ W : Nat → Nat → Hp → Prop, (∃ m, W 0 m (upd H1 Dl (SetTO P w Dl []))) ∧ ∀ i m H, W i m H →
  (J.stop i H ∧ Q (.ref Dl) H) ∨ (J.go i H ∧ ∃ Nx : Hp → Prop, (∀ H', Nx H' → ∃ m', m' < m ∧ W (i + 1) m' H') ∧ ∀ x H', J.yld i H x H' → g x (wipe σ vs) H' fun σ2 H2 => wipe σ2 vs = wipe σ vs ∧ tt σ2 H2 fun b H3 =>
    if b = true then te σ2 H3 fun y H4 => ∃ (c : Addr) (k : List Int) (L : List (Addr × List Int)), y = .ref c ∧ H4 c = some (.tup (k.map V.int)) ∧ H4 Dl = some (SetTO P w Dl L) ∧ (∀ p ∈ L, H4 p.1 = some (.tup (p.2.map V.int))) ∧ L.length + 1 < 64 ∧
      ∀ L2, (k ∈ L.map (·.2) → L2 = L) → (k ∉ L.map (·.2) → L2.Perm ((c, k) :: L)) → Nx (upd H4 Dl (SetTO P w Dl L2)) else Nx H3)
/-- len of it -/
def rLenST (P : Program) (w : World) : List V → Hp → VK → Prop := fun xs H Q => ∃ (a : Addr) (L : List (Addr × List Int)), xs = [.ref a] ∧ H a = some (SetTO P w a L) ∧ Q (.int L.length) H
end
end ST
namespace Z
open PySem L2 ST
structure StAt (P : Program) (w : World) (K : PySem.W.Frag) (Dl : Addr) (μ : M) (H0 : Hp) (acc : List (List Int)) (H' : Hp) : Prop where
  fr : Fr μ μ H0 H'
  con : Z.Con K H' μ
  no : μ Dl = none
  at_ : ∃ L : List (Addr × List Int), H' Dl = some (SetTO P w Dl L) ∧ (∀ p ∈ L, H' p.1 = some (.tup (p.2.map V.int))) ∧ (L.map (·.2)).Nodup ∧ L.length ≤ acc.length ∧ ∀ k, k ∈ L.map (·.2) ↔ k ∈ acc
theorem seto_ne {P : Program} {w : World} {a : Addr} {L : List (Addr × List Int)} {o : HO} (h : SetTO P w a L = o) (n : ∀ φ, o ≠ .ext φ) : False := n _ h.symm
theorem seto_nc {P : Program} {w : World} {a : Addr} {L : List (Addr × List Int)} {q : Str} (h : SetTO P w a L = LamX.CodeO a q) : False := by
  unfold SetTO LamX.CodeO at h
  injection h with h
  obtain ⟨o, ho⟩ : ∃ o : Obj, o = { cls := .none, data := .fields #[.none, .str q 0] } := ⟨_, rfl⟩
  have e : (Heap.mk (Array.replicate (a + 1) o) {}).get? a = some o := by
    subst ho
    unfold Heap.get?
    simp
  have z := congrFun h (Heap.mk (Array.replicate (a + 1) o) {})
  have k : SetT0 P w (Heap.mk (Array.replicate (a + 1) o) {}) a L := by
    rw [z]
    subst ho
    exact ⟨_, _, 0, e, rfl, rfl⟩
  obtain ⟨es, ep, t, ⟨o2, h2, _, h3⟩, _⟩ := k.ex
  rw [e] at h2
  cases h2
  rw [ho] at h3
  cases h3
theorem rels_ints {K : PySem.W.Frag} {H : Hp} : ∀ {k : List Int} {vs : List V}, Rels K H vs (k.map D.int) → vs = k.map V.int
  | [], _, .nil => rfl
  | _ :: _, _, .cons (.int _) b => by rw [List.map_cons, rels_ints b]
theorem rel_tupI {K : PySem.W.Frag} {H : Hp} {v : V} {k : List Int} (r : Rel K H v (.tup (k.map D.int))) : ∃ c, v = .ref c ∧ H c = some (.tup (k.map V.int)) := by
  cases r with
  | tup h hr =>
    cases h with
    | inl h => exact ⟨_, rfl, by rw [h, rels_ints hr]⟩
section
variable {P : Program} {w : World} {K : PySem.W.Frag} {τ : T} {μ : M} {H H0 H' : Hp} {σ : L2.St} {Φ : D → M → Prop} {te : TE} {wi : TI} {g : TG} {Dl : Addr} {acc : List (List Int)}
theorem st_upd {L L2 : List (Addr × List Int)} (c : Z.Con K H μ) (no : μ Dl = none) (h : H Dl = some (SetTO P w Dl L)) : Tx H (upd H Dl (SetTO P w Dl L2)) ∧ Z.Con K (upd H Dl (SetTO P w Dl L2)) μ := by
  have t : Tx H (upd H Dl (SetTO P w Dl L2)) := ⟨fun a xs e => by rw [upd_ne (fun z => by subst z; rw [h] at e; exact seto_ne (Option.some.inj e) (fun _ z => nomatch z))]; exact e,
    fun a ob xs e => by rw [upd_ne (fun z => by subst z; rw [h] at e; exact seto_ne (Option.some.inj e) (fun _ z => nomatch z))]; exact e,
    fun a q e => by rw [upd_ne (fun z => by subst z; rw [h] at e; exact seto_nc (Option.some.inj e))]; exact e⟩
  exact ⟨t, fun a m e => (c a m e).mono t (upd_ne (fun z => by subst z; rw [no] at e; cases e))⟩
theorem st_start (c : Z.Con K H μ) (hD : H Dl = none) : StAt P w K Dl μ H [] (upd H Dl (SetTO P w Dl [])) :=
  ⟨fr_new hD, con_new hD c, c.free hD, [], upd_same, (fun _ h => absurd h List.not_mem_nil), List.nodup_nil, Nat.le_refl _, fun _ => Iff.rfl⟩
/-- how many different ones there are -/
def NumOf (l : List (List Int)) (n : Nat) : Prop := ∃ d : List (List Int), d.Nodup ∧ (∀ k, k ∈ d ↔ k ∈ l) ∧ n = d.length
theorem a_lenSc {js : List Nat} {dec : D → List D → Prop} (hg : TgOk K g js dec)
    (h : AI K wi τ μ fun xs μw back => ∃ f : D → List Int, xs.length < 63 ∧ (∀ x ∈ xs, ∃ ds, dec x ds ∧ ds.length = js.length ∧ AE K te (sets τ js ds) μw fun y μ2 => y = .tup ((f x).map D.int) ∧ μ2 = μw) ∧ ∀ n, NumOf (xs.map f) n → Φ (.int (n : Int)) (back μw)) :
    AE K (tCB (rLenST P w) (tCons (tScT P w wi g tYes te js) tNil)) τ μ Φ := fun σ H s c Q k => by
  refine h σ H s c _ fun J xs out G H1 μw back tx c1 W g1 o1 B ⟨f, hz, hs, hd⟩ Dl hD => ?_
  have s1 := s.mono tx
  refine ⟨fun i m H' => m = xs.length - i ∧ i ≤ xs.length ∧ StAt P w K Dl μw H1 ((xs.take i).map f) H', ⟨xs.length, by omega, Nat.zero_le _, st_start c1 hD⟩, ?_⟩
  rintro i m H' ⟨rfl, hi, S⟩
  have gH : G H' := W.keep _ _ _ _ c1 o1 g1 S.fr
  by_cases hlt : i < xs.length
  · refine .inr ⟨W.go i H' hlt gH, fun H2 => StAt P w K Dl μw H1 ((xs.take (i + 1)).map f) H2, fun H2 S2 => ⟨xs.length - (i + 1), by omega, rfl, hlt, S2⟩, fun v H2 y => ?_⟩
    obtain ⟨x, hx, rx, hH⟩ := W.yld i H' v H2 hlt gH y
    have S2 : StAt P w K Dl μw H1 ((xs.take i).map f) H2 := by
      rcases hH with e | ⟨T0, vs, hT, e⟩
      · rw [e]; exact S
      · obtain ⟨f2, c2⟩ := yld_ok (vs := vs) S.con hT
        obtain ⟨L, a1, a2, a3, a4, a5⟩ := S.at_
        rw [e]
        exact ⟨S.fr.trans f2, c2, S.no, L, (f2 Dl _ S.no a1).1, fun p hp => (f2.tx S.con).t _ _ (a2 p hp), a3, a4, a5⟩
    obtain ⟨ds, hdec, hl, he⟩ := hs x (List.mem_of_getElem? hx)
    refine hg x ds v _ H2 hdec rx _ fun vs hvs => ⟨by rw [wipe_sets (fun _ h => h), wipe_wipe], ?_⟩
    have s' : Slots K H2 (sets τ js ds) (sets (wipe σ js) js vs) := slots_block (s1.mono (S2.fr.tx c1)) hvs hl
    refine he _ H2 s' S2.con _ fun y μ2 u H4 f4 c4 r4 ⟨ey, em⟩ => ?_
    subst ey em
    obtain ⟨ca, eu, hc⟩ := rel_tupI r4
    subst eu
    obtain ⟨L, a1, a2, a3, a4, a5⟩ := S2.at_
    have b1 : H4 Dl = some (SetTO P w Dl L) := (f4 Dl _ S2.no a1).1
    have b2 : ∀ p ∈ L, H4 p.1 = some (.tup (p.2.map V.int)) := fun p hp => (f4.tx S2.con).t _ _ (a2 p hp)
    have tl : ((xs.take i).map f).length ≤ i := by rw [List.length_map, List.length_take]; omega
    refine ⟨ca, f x, L, rfl, hc, b1, b2, by omega, fun L2 k1 k2 => ?_⟩
    obtain ⟨t5, c5⟩ := st_upd (L2 := L2) c4 S2.no b1
    have more : (xs.take (i + 1)).map f = (xs.take i).map f ++ [f x] := by
      rw [List.take_add_one, hx, List.map_append]; rfl
    have ff : Fr μ2 μ2 H1 (upd H4 Dl (SetTO P w Dl L2)) := fun a o n e => by
      obtain ⟨e2, m2⟩ := (S2.fr.trans f4) a o n e
      exact ⟨by rw [upd_ne (ne_of_none e hD)]; exact e2, m2⟩
    refine ⟨ff, c5, S2.no, L2, upd_same, ?_⟩
    rw [more]
    by_cases hm : f x ∈ L.map (·.2)
    · have e := k1 hm
      subst e
      refine ⟨fun p hp => t5.1 _ _ (b2 p hp), a3, by rw [List.length_append]; omega, fun k => ?_⟩
      rw [List.mem_append, a5 k]
      exact ⟨.inl, fun z => z.elim id fun z => by rw [List.mem_singleton.mp z]; exact (a5 _).mp hm⟩
    · have pm := k2 hm
      refine ⟨fun p hp => t5.1 _ _ ?_, ?_, ?_, fun k => ?_⟩
      · rcases List.mem_cons.mp (pm.mem_iff.mp hp) with e | z
        · rw [e]; exact hc
        · exact b2 p z
      · exact (pm.map (·.2)).nodup_iff.mpr (List.nodup_cons.mpr ⟨hm, a3⟩)
      · rw [pm.length_eq, List.length_cons, List.length_append]
        simp only [List.length_cons, List.length_nil]
        omega
      · rw [(pm.map (·.2)).mem_iff, List.map_cons, List.mem_cons, List.mem_append, List.mem_singleton, a5 k]
        exact ⟨fun z => z.symm, fun z => z.symm⟩
  · have e : i = xs.length := by omega
    subst e
    obtain ⟨L, a1, a2, a3, a4, a5⟩ := S.at_
    rw [List.take_length] at a5
    refine .inl ⟨W.stop _ H' (Nat.le_refl _) gH, ?_⟩
    refine ⟨Dl, L, rfl, a1, k _ (back μw) _ H' (B.fr _ _ S.fr) (B.con _ _ S.fr S.con) (.int _) (hd L.length ⟨L.map (·.2), a3, a5, by rw [List.length_map]⟩)⟩
end
end Z
namespace Z
open PySem L2 PyProof.Rows
section
variable {X : Cx} {a b c e : Expr} {ta tb tc te : TE} {pos : Pos}
def tChain3 (r1 r2 r3 : R2) (ta tb tc te : TE) : TE := fun σ H Q => ta σ H fun x H1 => tb σ H1 fun y H2 => r1 x y H2 fun z H3 => ∃ k, z = .bl k ∧
  (if k = true then tc σ H3 fun w H4 => r2 y w H4 fun z' H5 => ∃ k', z' = .bl k' ∧ (if k' = true then te σ H5 fun u H6 => r3 w u H6 Q else Q (.bl false) H5) else Q (.bl false) H3)
end
section
variable {K : PySem.W.Frag} {τ : T} {μ μ1 μ2 : M} {H H1 H2 : Hp} {σ : L2.St} {Φ Ψ : D → M → Prop} {ta tb tc td te : TE} {r1 r2 r3 : R2} {d e : D} {N : AEnds}
theorem a_chain3 (h : AE K ta τ μ fun d μ1 => AE K tb τ μ1 fun e μ2 => RO K r1 d e μ2 fun z μ3 => ∃ b, z = .bl b ∧
      if b = true then AE K tc τ μ3 fun w μ4 => RO K r2 e w μ4 fun z' μ5 => ∃ b', z' = .bl b' ∧ if b' = true then AE K te τ μ5 fun u μ6 => RO K r3 w u μ6 Φ else Φ (.bl false) μ5 else Φ (.bl false) μ3) :
    AE K (tChain3 r1 r2 r3 ta tb tc te) τ μ Φ := by
  intro σ H s c Q k
  refine h σ H s c _ fun d μ1 v H1 f1 c1 k1 p1 => ?_
  refine p1 σ H1 (s.mono (f1.tx c)) c1 _ fun e μ2 u H2 f2 c2 k2 p2 => ?_
  refine p2 H2 v u c2 (Rel.mono (f2.tx c1) _ _ k1) k2 _ fun z μ3 w H3 f3 c3 kz ⟨b, ez, p3⟩ => ?_
  subst ez
  cases kz
  refine ⟨b, rfl, ?_⟩
  have f13 := (f1.trans f2).trans f3
  cases b with
  | false => exact k _ μ3 _ H3 f13 c3 (.bl false) (show Φ (.bl false) μ3 from p3)
  | true =>
    have p3' : AE K tc τ μ3 fun w μ4 => RO K r2 e w μ4 fun z' μ5 => ∃ b', z' = .bl b' ∧ if b' = true then AE K te τ μ5 fun u μ6 => RO K r3 w u μ6 Φ else Φ (.bl false) μ5 := p3
    rw [if_pos rfl]
    refine p3' σ H3 (s.mono (f13.tx c)) c3 _ fun x4 μ4 w' H4 f4 c4 k4 p4 => ?_
    refine p4 H4 u w' c4 (Rel.mono ((f3.trans f4).tx c2) _ _ k2) k4 _ fun z' μ5 o H5 f5 c5 kz' ⟨b', ez', p5⟩ => ?_
    subst ez'
    cases kz'
    refine ⟨b', rfl, ?_⟩
    have f15 := (f13.trans f4).trans f5
    cases b' with
    | false => exact k _ μ5 _ H5 f15 c5 (.bl false) (show Φ (.bl false) μ5 from p5)
    | true =>
      have p5' : AE K te τ μ5 fun u μ6 => RO K r3 x4 u μ6 Φ := p5
      rw [if_pos rfl]
      refine p5' σ H5 (s.mono (f15.tx c)) c5 _ fun u2 μ6 v6 H6 f6 c6 k6 p6 => ?_
      exact p6 H6 w' v6 c6 (Rel.mono ((f5.trans f6).tx c4) _ _ k4) k6 Q fun z μ7 o7 H7 f7 c7 k7 p7 => k z μ7 o7 H7 ((f15.trans f6).trans f7) c7 k7 p7
end
theorem rc_max3 {K : PySem.W.Frag} {i j l : Int} {μ : M} {Φ : D → M → Prop} (q : Φ (.int (max (max i j) l)) μ) : RC K (rNuC3 nuMax3) [.int i, .int j, .int l] μ Φ := fun H xs c r Q k => by
  cases r with
  | cons a r =>
    cases r with
    | cons b r =>
      cases r with
      | cons d r =>
        cases a; cases b; cases d; cases r
        refine ⟨_, _, _, .int (max (max i j) l), rfl, ?_, k _ μ _ H Fr.refl c (.int _) q⟩
        have m2 : ∀ x y : Int, nuMax2 (.int x) (.int y) = some (.int (max x y)) := fun x y => by
          unfold nuMax2 nuLt nuCB
          simp only [Option.map_some]
          by_cases h : x < y
          · rw [if_pos (decide_eq_true h)]; congr 2; omega
          · rw [if_neg (by simpa using h)]; congr 2; omega
        unfold nuMax3
        rw [m2, Option.bind_some, m2]
end Z
namespace Z
open PySem L2 PyProof.Rows
/-- an own error with a text -/
structure Exc0 (K : PySem.W.Frag) (mg : Str → Option Value) (x : Str) (C : Addr) : Prop where
  ex : ∃ (B newId initId : String) (tl : List Value), ExcBaseFacts B newId initId tl ∧ PySem.W.excIn K C tl newId = true
  mg : mg x = some (.ref C)
  kp : PySem.W.keepIn K (.ref C) = true
  r1 : PySem.W.subIn K (.ref C) (.type "BaseException") = some true
  r2 : PySem.W.typeIn K (.ref C) = some (.type "type")
/-- the values by the parameters' order: behind the written ones, those by name (true) and the lacking ones (false) -/
def gK {α : Type} (π : List (Bool × Nat)) (us mv ws : List α) : List α := us ++ π.filterMap fun p => if p.1 = true then ws[p.2]? else mv[p.2]?
theorem vals_at {vs : List V} {us : List Value} (r : Vals vs us) (i : Nat) : (vs[i]? = none ∧ us[i]? = none) ∨ ∃ v u, vs[i]? = some v ∧ us[i]? = some u ∧ RelV v u := by
  induction r generalizing i with
  | nil => exact .inl ⟨by simp, by simp⟩
  | cons a _ ih =>
    cases i with
    | zero => exact .inr ⟨_, _, by simp, by simp, a⟩
    | succ i => simpa using ih i
theorem rels_at {K : PySem.W.Frag} {H : Hp} : ∀ {vs : List V} {ds : List D} (r : Rels K H vs ds) (i : Nat), (vs[i]? = none ∧ ds[i]? = none) ∨ ∃ v d, vs[i]? = some v ∧ ds[i]? = some d ∧ Rel K H v d
  | [], [], .nil, i => .inl ⟨by simp, by simp⟩
  | v :: vs, d :: ds, .cons a b, 0 => .inr ⟨v, d, by simp, by simp, a⟩
  | v :: vs, d :: ds, .cons a b, i + 1 => by simpa using rels_at b i
theorem vals_gK (π : List (Bool × Nat)) {vs mz zs : List V} {us mv ws : List Value} (r : Vals vs us) (r1 : Vals mz mv) (r2 : Vals zs ws) : Vals (gK π vs mz zs) (gK π us mv ws) := by
  refine r.append ?_
  induction π with
  | nil => exact .nil
  | cons p π ih =>
    have z : (((if p.1 = true then zs[p.2]? else mz[p.2]?) = none ∧ (if p.1 = true then ws[p.2]? else mv[p.2]?) = none)) ∨ ∃ v u, (if p.1 = true then zs[p.2]? else mz[p.2]?) = some v ∧ (if p.1 = true then ws[p.2]? else mv[p.2]?) = some u ∧ RelV v u := by
      by_cases h : p.1 = true
      · rw [if_pos h, if_pos h]; exact vals_at r2 _
      · rw [if_neg h, if_neg h]; exact vals_at r1 _
    rw [List.filterMap_cons, List.filterMap_cons]
    rcases z with ⟨a, b⟩ | ⟨v, u, a, b, k⟩
    · rw [a, b]; exact ih
    · rw [a, b]; exact .cons k ih
theorem rels_gK {K : PySem.W.Frag} {H : Hp} (π : List (Bool × Nat)) {vs mz zs : List V} {us mv ws : List D} (r : Rels K H vs us) (r1 : Rels K H mz mv) (r2 : Rels K H zs ws) : Rels K H (gK π vs mz zs) (gK π us mv ws) := by
  refine r.append ?_
  induction π with
  | nil => exact .nil
  | cons p π ih =>
    have z : (((if p.1 = true then zs[p.2]? else mz[p.2]?) = none ∧ (if p.1 = true then ws[p.2]? else mv[p.2]?) = none)) ∨ ∃ v u, (if p.1 = true then zs[p.2]? else mz[p.2]?) = some v ∧ (if p.1 = true then ws[p.2]? else mv[p.2]?) = some u ∧ Rel K H v u := by
      by_cases h : p.1 = true
      · rw [if_pos h, if_pos h]; exact rels_at r2 _
      · rw [if_neg h, if_neg h]; exact rels_at r1 _
    rw [List.filterMap_cons, List.filterMap_cons]
    rcases z with ⟨a, b⟩ | ⟨v, u, a, b, k⟩
    · rw [a, b]; exact ih
    · rw [a, b]; exact .cons k ih
/-- does «except C» name an error of the class at S -/
theorem exm_pair {K : PySem.W.Frag} {S C : Addr} {b : Bool} (h1 : PySem.W.subIn K (.ref C) (.type "BaseException") = some true) (h2 : PySem.W.isClsIn K C = true) (h3 : PySem.W.typeIn K (.ref C) = some (.type "type")) (h4 : PySem.W.subIn K (.ref S) (.ref C) = some b) :
    PySem.W.exmOne K (.ref S) (.ref C) = some b := by
  have e2 : ((PySem.W.clsIn K C).isSome && PySem.W.typeIn K (.ref C) == some (.type "type")) = true := by
    have h5 : (PySem.W.clsIn K C).isSome = true := h2
    rw [h5, h3] <;> rfl
  have e1 : (PySem.W.subIn K (.ref C) (.type "BaseException") == some true) = true := by rw [h1] <;> rfl
  unfold PySem.W.exmOne
  rw [if_pos e1]
  unfold PySem.W.kitCls
  first
    | (rw [if_pos e2]; exact h4)
    | (simp only [e2, if_true]; exact h4)
/-- a written constant of the top -/
structure Cst (mg : Str → Option Value) (x : Str) (v : V) : Prop where
  ex : ∃ u, mg x = some u ∧ RelV v u
theorem pe_cst {X : Cx} {x : Str} {v : V} {pos : Pos} (G : Cst X.mg x v) (hg : Gl X x) (hd : (x == ("__debug__" : Str)) = false := by decide) : PE X (.Name x pos) (tC v) := by
  obtain ⟨u, hm, r⟩ := G.ex
  exact pe_glob hg hm r hd
end Z
namespace SD
open PySem PySem.Spec PyProof.Rows L2 PySem.W
end SD
namespace Z
open PySem L2 SD PySem.W
end Z
namespace ZT
open PySem PySem.Spec PyProof.Rows L2
section
variable {M : Model} {h : Heap} {a : Addr} {oe : Obj} {vs : Array Value}
theorem lk_noType (ha : h.get? a = some oe) (hd : oe.data = .fields vs) : PySem.W.Looks M h (isType (.ref a)) false := by
  have e : (match oe.data with | .cls _ => true | _ => false) = false := by rw [hd]
  exact (PySem.W.Looks.ld ha).andThen (PySem.W.Looks.of_pure (by rw [hd]))
theorem lk_type (ha : h.get? a = some oe) : PySem.W.Looks M h (typeOf (.ref a)) oe.cls :=
  fun _ _ _ _ k q => wpAny_typeOf_ref (k _ _ ha) q
/-- an error stands for itself, whatever the complaint would be -/
theorem lk_self (ha : h.get? a = some oe) (hd : oe.data = .fields vs) (x : PySem.W.Looks M h (isSubtype oe.cls (.type "BaseException")) true) (msg : String) :
    PySem.W.Looks M h (excFromValue (.ref a) msg) (.ref a) := by
  have n1 : PySem.W.Looks M h (isExcClass (.ref a)) false := (lk_noType ha hd).andThen PySem.W.Looks.now
  exact n1.andThen (((lk_type ha).andThen x).andThen PySem.W.Looks.now)
theorem lk_raised (ha : h.get? a = some oe) (y : PySem.W.Looks M h (typeOf oe.cls) (.type "type")) : PySem.W.Looks M h (raisedInstance (.ref a)) (.ref a) :=
  (lk_type ha).andThen (y.andThen PySem.W.Looks.now)
theorem lk_still (ha : h.get? a = some oe) (hd : oe.data = .fields vs) (h1 : vs[1]? = some .none) : PySem.W.Looks M h (setFlight (.ref a) none) () :=
  fun _ _ _ _ k q => wpAny_bind (wpAny_field (k _ _ ha) hd h1 (wpAny_pure q))
end
/-- a record made over h0, on its way to be raised -/
structure Made (M : Model) (h0 h : Heap) (a : Addr) (cls : Value) (d : Option Addr) : Prop where
  new : h0.get? a = none
  old : ∀ b o, h0.get? b = some o → h.get? b = some o
  fin : ∃ oe vs, h.get? a = some oe ∧ oe.data = .fields vs ∧ oe.cls = cls ∧ oe.dict = d ∧ vs[1]? = some .none ∧ 4 < vs.size
  exc : PySem.W.Looks M h0 (isSubtype cls (.type "BaseException")) true
  met : PySem.W.Looks M h0 (typeOf cls) (.type "type")
section
variable {M : Model} {h0 : Heap} {a : Addr} {cls : Value} {d : Option Addr} {A : Around} {E : Value → Shared → Prop} {s : Shared}
/-- one more field is told -/
theorem Made.upd {h : Heap} (m : Made M h0 h a cls d) {i : Nat} (v : Value) (hi : i ≠ 1) : Made M h0 (h.update a (Obj.mapFields (·.setIfInBounds i v))) a cls d := by
  obtain ⟨oe, vs, ha, hd, hc, hx, h1, hz⟩ := m.fin
  have hd' := Obj.data_mapFields hd (·.setIfInBounds i v)
  exact ⟨m.new, fun b o e => (Heap.get?_update_other _ _ fun z => Option.some_ne_none _ (((congrArg h0.get? z).trans e).symm.trans m.new)).trans (m.old b o e),
    ⟨_, _, Heap.get?_update_self _ ha (Obj.isFreed_of_fields hd'), hd', (Obj.cls_mapFields ..).trans hc, (HandSPX.dict_mapFields ..).trans hx, HotX.set_other hi h1, by rw [HotX.set_size]; exact hz⟩, m.exc, m.met⟩
theorem Made.put (m : Made M h0 s.heap a cls d) {i : Nat} {v : Value} {Q : Unit → Shared → Prop} (hi : i ≠ 1) (h4 : i ≤ 4)
    (q : ∀ h', Made M h0 h' a cls d → Q () { s with heap := h' }) : wpAny M A (setField (.ref a) i v) Q E s := by
  obtain ⟨oe, vs, ha, hd, -, -, -, hz⟩ := id m.fin
  exact wpAny_setField ha hd (Nat.lt_of_le_of_lt h4 hz) (q _ (m.upd v hi))
end
/-- raise x from c, where c's error is the one that is handled: the record is finished, then it is in flight -/
theorem raise_from {prog : Program} {w : World} {A : Around} {E : Value → Shared → Prop} {env : Env} {s : Shared} {x c : Sem Value} {Q : Flow → Shared → Prop} {x1 : Addr}
    (h : wpAny (model prog w) A x (fun v s₁ => ∃ a h0 cls d o1 vs1, v = .ref a ∧ Made (model prog w) h0 s₁.heap a cls d ∧ h0.get? x1 = some o1 ∧ o1.data = .fields vs1 ∧ vs1[2]? = some .none ∧ A.handled = some (.ref x1) ∧
      PySem.W.Looks (model prog w) h0 (isSubtype o1.cls (.type "BaseException")) true ∧ (∀ Q' : Value → Shared → Prop, Q' (.ref x1) s₁ → wpAny (model prog w) A c Q' E s₁) ∧
      ∀ h', Made (model prog w) h0 h' a cls d → E (.ref a) { s₁ with heap := h' }) E s) :
    wpAny (model prog w) A (raiseStmt env (some x) (some c)) Q E s := by
  refine wpAny_bind (thn h fun v s₁ ⟨a, h0, cls, d, o1, vs1, ev, m, g1, d1, c1, hh, b1, hc, hE⟩ => ?_)
  subst ev
  obtain ⟨oe, vs, ha, hd, ec, ex, h1, hz⟩ := id m.fin
  have k1 := m.old _ _ g1
  have self := lk_self (M := model prog w) ha hd (by rw [ec]; exact m.exc.keeps m.old)
  have cause := lk_self (M := model prog w) k1 d1 (b1.keeps m.old)
  refine wpAny_bind (wpAny_holding (hc _ (wpAny_bind (wpAny_pure ?_))))
  refine wpAny_bind (wpAny_holding ((self _).here ?_))
  show wpAny _ _ (do let c ← (if (Value.ref x1 == Value.none) = true then pure .none else holding [.ref a] (excFromValue (.ref x1) "exception causes must derive from BaseException")); setField (.ref a) 3 c; setField (.ref a) 4 (.bool true); _) _ _ _
  rw [if_neg (by simp)]
  refine wpAny_bind (wpAny_holding ((cause _).here (wpAny_bind (m.put (by decide) (by decide) fun h3 m3 => wpAny_bind (m3.put (by decide) (by decide) fun h4 m4 => ?_)))))
  obtain ⟨o4, v4, ha4, hd4, ec4, ex4, h14, hz4⟩ := id m4.fin
  refine wpAny_bind ((lk_noType ha4 hd4).here ?_)
  show wpAny _ _ (do let e ← raisedInstance (.ref a); setFlight e none; raiseNew e) _ _ _
  refine wpAny_bind ((lk_raised ha4 (by rw [ec4]; exact m4.met.keeps m4.old)).here (wpAny_bind ((lk_still ha4 hd4 h14).here ?_)))
  exact HotX.raiseNew_hot ⟨hh, o1, vs1, m4.old _ _ g1, d1, c1⟩ (fun z => by rw [z, m.new] at g1; cases g1) ha4 hd4 (by omega) (hE _ (m4.upd _ (by decide)))
end ZT
namespace ZT
open PySem PySem.Spec PyProof.Rows L2
section
variable {X : Cx} {pins : List (Addr × Obj)} {σ : L2.St} {H : Hp} {s : Shared}
/-- a slot's address, read: the state stays as it is -/
theorem slot_ld {M : Model} {A : Around} {E : Value → Shared → Prop} {i : Nat} {n : Str} {np : Pos} {a : Addr} {Q : Value → Shared → Prop} (I : Inv X pins σ H s) (hN : X.N[i]? = some n) (hσ : σ[i]? = some (some (.ref a))) (hv : Vis X.env.scope n) (q : Q (.ref a) s)
    (hdb : (n == ("__debug__" : Str)) = false) (hcd : (n == ("__classdict__" : Str)) = false) : wpAny M A (eval (.Name n np) X.env) Q E s := by
  obtain ⟨m, hn, at_⟩ := I.loc
  refine wpAny_Name ?_ hdb
  match at_ i n _ hN hσ hv with
  | ⟨_, rfl, .inl ⟨k, e⟩⟩ => exact wpAny_loadName_local I.ok.kind k hn e q
  | ⟨_, rfl, .inr ⟨.inl k, _, e, z⟩⟩ => exact wpAny_loadName_cell I.ok.kind k e z q
  | ⟨_, rfl, .inr ⟨.inr k, _, e, z⟩⟩ => exact wpAny_loadName_free I.ok.kind k e z q hcd
end
end ZT
namespace L2H
open PySem PySem.Spec PyProof.Rows L2 HotX
/-- classes of exceptions, by the table alone -/
def RaisesK (K : PySem.W.Frag) (cls : Value) : Prop := ∀ (M : Model) (h : Heap), K.In h → PySem.W.Looks M h (isSubtype cls (.type "BaseException")) true
/-- raise X(..) from n, n the name of the clause -/
theorem ps_raiseHE {X : Cx} {W : WX} {e : Expr} {t : L2.St → Hp → XK → Prop} {i : Nat} {n : Str} {np pos : Pos} {a1 : Addr} {oe1 : Obj} {cls1 : Value} {K : PySem.W.Frag} (hK : X.K = K) (hp : (a1, oe1) ∈ X.pn) (hot : Hot1 X.A (a1, oe1)) (hcl : oe1.cls = cls1) (hN : X.N[i]? = some n) (hv : Vis X.env.scope n)
    (tk : L2.Takes X W) (he : PMk5 X e t) (hdb : (n == ("__debug__" : Str)) = false := by decide) (hcd : (n == ("__classdict__" : Str)) = false := by decide) :
    PS X (.Raise (some e) (some (.Name n np)) pos) (fun _ σ H => RaisesK K cls1 ∧ σ[i]? = some (some (.ref a1)) ∧ t σ H fun cls d H' => W cls d σ H') where
  run pins s σ H D I := fun ⟨rK, hσ, h⟩ => by
    subst hK hcl
    obtain ⟨hh, v1, e1, c1⟩ := hot
    refine wpAny_bind (wpAny_standAt (ZT.raise_from (x1 := a1) (wpAny_bind (thn (he pins s σ H _ I h) fun u s1 made => wpAny_bind (wpAny_standAt (wpAny_pure ?_))))))
    obtain ⟨⟨a, oe, vs, sI, H', cls, d, eu, J, k, hne, ha, hz, hd, h1, na, os, ag, r, q⟩, six⟩ := made
    have grown : Inv X pins σ H' s1 := J.landed (B := sI.heap) (fun _ _ e _ => e) k (.of_keeps k) os ag
    have stands := (J.pin _ (List.mem_append_left _ hp)).1
    refine ⟨a, sI.heap, cls, d, oe1, v1, eu, ⟨hne, k, ⟨oe, vs, ha, hd, hz.1, hz.2.1, h1, six a oe vs eu ha hd⟩, (r _ _ J.kIn).1, (r _ _ J.kIn).2⟩, stands, e1, c1, hh, rK _ _ J.kIn, fun Q' q' => ?_, fun h' m => ?_⟩
    · exact wpAny_bind (ZT.slot_ld grown hN hσ hv (wpAny_bind (wpAny_standAt (wpAny_pure q'))) hdb hcd)
    · obtain ⟨o', v', g', d', ec, ex, h1', -⟩ := m.fin
      exact tk _ _ (.new (s' := { s1 with heap := h' }) J m.old hne g' ⟨ec, ex⟩ d' h1' na os ag q)
end L2H
namespace ZT
open PySem PySem.Spec PyProof.Rows L2
/-- kinds of records: with any context, with none -/
structure Kind (Z : Value → Option Addr → Obj → Prop) : Prop where
  zc : ∀ {c d o}, Z c d o → Zc c d o
  land : ∀ {M : Model} {A : Around} {E₁ : Value → Shared → Prop} {env : Env} {outer : List Env} {B : Heap} {L a : Addr} {c : Value} {d : Option Addr} {Q : Unit → Shared → Prop} {s : Shared}, A.frames = some (env :: outer) → env.frame = some L →
    Sky B (env :: outer) a (Z c d) L s.heap → (∀ h', HandSPX.FlyingZ B (env :: outer) a (Z c d) h' → s.heap.UpToSlots h' → Q () { s with heap := h' }) →
      wpAny M A (noteFrame (.ref a) env) (fun _ s₂ => wpAny M A (setFlight (.ref a) none) Q E₁ s₂) E₁ s
theorem kind_n : Kind L2N.Zn := ⟨fun h => h.zc, fun hfr hf x q => L2N.Sky.land L2N.Zn.steady hfr hf x q⟩
/-- the own frame is on top -/
structure Top (X : Cx) : Prop where
  ok : X.Ok
  stk : X.stack = X.env :: X.outer
  frm : X.env.frame = some X.env.locals
theorem Top.frames {X : Cx} (t : Top X) (hd : Option Value) : (X.A.mark hd).frames = some (X.env :: X.outer) := t.stk ▸ t.ok.frames
/-- an error at a: sI is the state without it, B the ground -/
structure Aloft (Z : Value → Option Addr → Obj → Prop) (X : Cx) (B : Heap) (sI : Shared) (pins : List (Addr × Obj)) (σ : L2.St) (H : Hp) (c : Value) (d : Option Addr) (a : Addr) (s : Shared) : Prop where
  inv : Inv X pins σ H sI
  gnd : ∀ b o, sI.heap.get? b = some o → b ∉ frs X.stack → B.get? b = some o
  up : sI.heap.UpToSlots s.heap
  sky : Sky B X.stack a (Z c d) X.env.locals s.heap
  na : H a = none
  os : s.os = sI.os
  ag : AllBare s.gens
section
variable {Z : Value → Option Addr → Obj → Prop} {X : Cx} {B : Heap} {sI s : Shared} {pins : List (Addr × Obj)} {σ : L2.St} {H : Hp} {c : Value} {d : Option Addr} {a : Addr}
theorem Aloft.xe {W : WX} (x : Aloft Zc X B sI pins σ H c d a s) (w : W c d σ H) : L2.XE X W (.ref a) s := ⟨a, B, sI, pins, σ, H, c, d, rfl, x.inv, x.gnd, x.up, x.sky, x.na, x.os, x.ag, w⟩
theorem aloft_of {W : WX} {u : Value} : L2.XE X W u s → ∃ a B sI pins σ H c d, u = .ref a ∧ Aloft Zc X B sI pins σ H c d a s ∧ W c d σ H :=
  fun ⟨a, B, sI, pins, σ, H, c, d, e, k1, k2, k3, k4, k5, k6, k7, w⟩ => ⟨a, B, sI, pins, σ, H, c, d, e, ⟨k1, k2, k3, k4, k5, k6, k7⟩, w⟩
theorem aloft_ofN {W : WX} {u : Value} : L2N.XE X W u s → ∃ a B sI pins σ H c d, u = .ref a ∧ Aloft L2N.Zn X B sI pins σ H c d a s ∧ W c d σ H :=
  fun ⟨a, B, sI, pins, σ, H, c, d, e, k1, k2, k3, k4, k5, k6, k7, w⟩ => ⟨a, B, sI, pins, σ, H, c, d, e, ⟨k1, k2, k3, k4, k5, k6, k7⟩, w⟩
/-- the same, caught: it flies over this frame, noted nowhere -/
structure Got (Z : Value → Option Addr → Obj → Prop) (X : Cx) (B : Heap) (sI : Shared) (pins : List (Addr × Obj)) (σ : L2.St) (H : Hp) (c : Value) (d : Option Addr) (a : Addr) (s : Shared) : Prop where
  top : Top X
  inv : Inv X pins σ H sI
  gnd : ∀ b o, sI.heap.get? b = some o → b ∉ frs X.stack → B.get? b = some o
  up : sI.heap.UpToSlots s.heap
  fl : HandSPX.FlyingZ B (X.env :: X.outer) a (Z c d) s.heap
  na : H a = none
  os : s.os = sI.os
  ag : AllBare s.gens
theorem Got.here (g : Got Z X B sI pins σ H c d a s) : Inv X pins σ H s := g.inv.landed g.gnd g.fl.1 g.up g.os g.ag
/-- its record stands apart from all frames, and from the ground -/
theorem Got.apart (g : Got Z X B sI pins σ H c d a s) : ∃ oe vs, s.heap.get? a = some oe ∧ Z c d oe ∧ oe.data = .fields vs ∧ a ≠ X.env.locals ∧ a ∉ X.fs ∧ X.base.get? a = none := by
  obtain ⟨oe, vs, he, hz, hd⟩ := g.fl.there
  have off : a ∉ frs (X.env :: X.outer) := fun hm => by
    obtain ⟨-, o, e, nf⟩ := g.fl.2.2.1.mem hm
    exact nf vs (Option.some.inj (he.symm.trans e) ▸ hd)
  have nl : a ≠ X.env.locals := fun z => off (List.mem_filterMap.mpr ⟨X.env, List.mem_cons_self, z ▸ g.top.frm⟩)
  have nf : a ∉ X.fs := fun hm => off (by
    obtain ⟨e, he, q⟩ := List.mem_filterMap.mp hm
    exact List.mem_filterMap.mpr ⟨e, List.mem_cons_of_mem _ he, q⟩)
  refine ⟨oe, vs, he, hz, hd, nl, nf, Option.eq_none_iff_forall_not_mem.mpr fun o e => ?_⟩
  have b1 := g.gnd a o (g.inv.bk a o e) (g.top.stk ▸ off)
  exact Option.some_ne_none _ (b1.symm.trans g.fl.2.1)
/-- .. and stays so in a greater heap, or when its flight is told again -/
theorem Got.grow (g : Got Z X B sI pins σ H c d a s) (o : Obj) : Got Z X B sI pins σ H c d a { s with heap := s.heap.push o } := by
  have k : ∀ b u, s.heap.get? b = some u → (s.heap.push o).get? b = some u := fun b u e => Heap.get?_push_of_some _ e
  obtain ⟨f1, f2, f3, oe, vs, T, oT, ts, k1, k2, k3, k4, k5, k6, k7, k8⟩ := g.fl
  exact ⟨g.top, g.inv, g.gnd, g.up.trans (.of_keeps k), ⟨fun b u e => k b u (f1 b u e), f2, f3.of_keeps fun b u e _ => ⟨u, k b u e, rfl⟩, oe, vs, T, oT, ts, k _ _ k1, k2, k3, k4, k5, k6, k _ _ k7, k8⟩, g.na, g.os, g.ag⟩
theorem Got.again {M : Model} {A : Around} {E : Value → Shared → Prop} {Q : Unit → Shared → Prop} (g : Got Z X B sI pins σ H c d a s) (q : ∀ h', Got Z X B sI pins σ H c d a { s with heap := h' } → Q () { s with heap := h' }) :
    wpAny M A (setFlight (.ref a) none) Q E s :=
  HandSPX.lands_againZ g.fl fun h' fl up => q h' ⟨g.top, g.inv, g.gnd, g.up.trans up, fl, g.na, g.os, g.ag⟩
theorem Aloft.land {M : Model} {A : Around} {E : Value → Shared → Prop} {Q : Unit → Shared → Prop} (k : Kind Z) (t : Top X) (x : Aloft Z X B sI pins σ H c d a s) (hfr : A.frames = some (X.env :: X.outer)) (q : ∀ h', Got Z X B sI pins σ H c d a { s with heap := h' } → Q () { s with heap := h' }) :
    wpAny M A (noteFrame (.ref a) X.env) (fun _ s₂ => wpAny M A (setFlight (.ref a) none) Q E s₂) E s :=
  k.land hfr t.frm (t.stk ▸ x.sky) fun h' fl up => q h' ⟨t, x.inv, x.gnd, x.up.trans up, fl, x.na, x.os, x.ag⟩
/-- noted in this frame -/
theorem Aloft.note {M : Model} {A : Around} {E : Value → Shared → Prop} {Q : Unit → Shared → Prop} (t : Top X) (x : Aloft Zc X B sI pins σ H c d a s) (hfr : A.frames = some (X.env :: X.outer))
    (q : ∀ h', HandSPX.HeldZ B (X.env :: X.outer) a (Zc c d) X.env.locals h' → Aloft Zc X B sI pins σ H c d a { s with heap := h' } → Q () { s with heap := h' }) : wpAny M A (noteFrame (.ref a) X.env) Q E s := by
  have on : ∀ h', HandSPX.HeldZ B (X.env :: X.outer) a (Zc c d) X.env.locals h' → s.heap.UpToSlots h' → Q () { s with heap := h' } := fun h' hh up => q h' hh ⟨x.inv, x.gnd, x.up.trans up, .inr (.inr (t.stk ▸ hh)), x.na, x.os, x.ag⟩
  match t.stk ▸ x.sky with
  | .inl ⟨st, n, ff, _, _, g, z, e, e1⟩ => exact HandSPX.look_newZ Zc.steady hfr ff t.frm g st n e e1 z on
  | .inr (.inl fl) => exact HandSPX.looks_onZ Zc.steady hfr t.frm fl on
  | .inr (.inr hh) => exact HandSPX.againZ t.frm hh.2.2.2 (on _ hh (.refl _))
/-- what flies, or is noted, goes on from here -/
theorem Aloft.onward {A : Around} {α : Type} {Q : α → Shared → Prop} {E : Value → Shared → Prop} {what : String} {fl : Value} (t : Top X) (x : Aloft Zc X B sI pins σ H c d a s)
    (st : B.StaysIn s.heap) (n : B.get? a = none) (ff : s.heap.FunFrames B (X.env :: X.outer)) (tr : HandSPX.TracedZ s.heap B a (Zc c d) fl) (q : ∀ s', Aloft Zc X B sI pins σ H c d a s' → E (.ref a) s') :
    wpAny (model X.prog X.w) A (PySem.passOn what (.ref a) X.env : Sem α) Q E s := by
  obtain ⟨oe, vs, T, oT, ts, k1, k2, k3, k4, k5⟩ := id tr
  have go : wpAny (model X.prog X.w) A (setFlight (.ref a) X.env.frame) (fun _ s' => wpAny (model X.prog X.w) A (throw (.ref a) : Sem α) Q E s') E s := by
    rw [t.frm]
    exact HandSPX.setFlight_anyZ st ff tr fun h' y1 y2 y3 y4 => wpAny_throw (q _ ⟨x.inv, x.gnd, x.up.trans y4, t.stk ▸ .inr (.inr ⟨y1, n, y2, y3⟩), x.na, x.os, x.ag⟩)
  refine wpAny_bind (wpAny_field k1 k3 k4 ?_)
  show wpAny _ _ (if (Value.ref T == Value.none) = true then _ else _) _ _ _
  rw [if_neg (by simp)]
  first
    | exact wpAny_bind go
    | exact wpAny_bind (wpAny_pure (wpAny_bind go))
theorem Got.aloft (g : Got Z X B sI pins σ H c d a s) (k : Kind Z) : Aloft Zc X B sI pins σ H c d a s :=
  ⟨g.inv, g.gnd, g.up, .inr (.inl (g.top.stk ▸ L2H.flyingZ_imp (fun _ z => k.zc z) g.fl)), g.na, g.os, g.ag⟩
/-- no clause is left -/
theorem Got.onward {Q : Flow → Shared → Prop} {W : WX} (k : Kind Z) (g : Got Z X B sI pins σ H c d a s) (tk : L2.Takes X W) (w : W c d σ H) : wpAny (model X.prog X.w) X.A (handleBy (.ref a) X.env []) Q X.xe s :=
  wpAny_handleBy_nil ((g.aloft k).onward g.top g.fl.1 g.fl.2.1 g.fl.2.2.1 (L2H.tracedZ_imp (fun _ z => k.zc z) g.fl.2.2.2) fun _ y => tk _ _ (y.xe w))
end
section
variable {X : Cx} {pins : List (Addr × Obj)} {σ : L2.St} {H : Hp} {s : Shared}
/-- h' is h but for the object at L -/
def Off (L : Addr) (h h' : Heap) : Prop := ∀ b, b ≠ L → h'.get? b = h.get? b
theorem Off.cell {L b : Addr} {h h' : Heap} {v : Option Value} (f : Off L h h') (n : b ≠ L) : h.IsCell b v → h'.IsCell b v := fun ⟨o, e, d⟩ => ⟨o, (f b n).trans e, d⟩
theorem Off.un {fs ex : List Addr} {H' : Hp} {L : Addr} {h0 h h' : Heap} (u : Un fs ex H' H h0 h) (f : Off L h h') (n : ∀ b o, h0.get? b = some o → b ≠ L) : Un fs ex H' H h0 h' where
  keep b o e z i j := (f b (n b o e)).trans (u.keep b o e z i j)
  slot b o e z i j := (u.slot b o e z i j).imp fun _ q => (f b (n b o e)).trans q
  free := u.free
  there b o e j := (u.there b o e j).imp fun _ q => (f b (n b o e)).trans q
  tups := u.tups
  frzs := u.frzs
  tbls := u.tbls
theorem Off.hok {P : Program} {w : World} {L : Addr} {h h' : Heap} (k : HOk P w H h) (f : Off L h h') (n : H L = none) : HOk P w H h' := fun b o e =>
  (k b o e).stay (fun x u way q => (f x fun z => way.elim (fun w => by rw [← w, z, n] at e; cases e) fun w => by rw [z, n] at w; cases w).trans q) (fun _ q => q) fun _ _ q => q
/-- n's slot is told to be empty: whatever its name stands for -/
theorem Inv.lose {i : Nat} {n : Str} {m : Str → Option Value} {v : Option Value} {h' : Heap} {t' : Nat} (I : Inv X pins σ H s) (hN : X.N.Nodup) (hi : X.N[i]? = some n)
    (look : ∀ (j : Nat) (y : Str) (v' : V), X.N[j]? = some y → σ[j]? = some (some v') → Vis X.env.scope y → ∃ u, RelV v' u ∧ Look X.env s.heap m y u)
    (tab : h'.Ns X.env.locals (fun x => if x = n then v else m x)) (f : Off X.env.locals s.heap h') : Inv X pins (σ.set i none) H { s with heap := h', toks := t' } where
  ok := I.ok
  os := I.os
  bare := I.bare
  base := f.un I.base fun _ _ e => Nat.ne_of_lt (Nat.lt_of_lt_of_le (Heap.lt_size e) I.ok.above)
  loc := ⟨_, tab, fun j y v' e1 e2 vis => by
    have ji : i ≠ j := fun z => by
      subst z
      rw [List.getElem?_set_self (by simpa using (List.getElem?_eq_some_iff.mp e2).1)] at e2
      cases e2
    obtain ⟨u, r, q⟩ := look j y v' e1 ((List.getElem?_set_ne ji).symm.trans e2) vis
    exact ⟨u, r, q.imp (fun ⟨k, e⟩ => ⟨k, (if_neg fun z : y = n => ji (nodup_ix hN hi (z ▸ e1))).trans e⟩) fun ⟨k, c, e, z⟩ => ⟨k, c, e, f.cell (I.cne y c e) z⟩⟩⟩
  cell y c e := (I.cell y c e).imp fun _ z => f.cell (I.cne y c e) z
  free := I.free
  freeC := I.freeC
  pin p hp := ⟨(f _ (I.pin p hp).2.2.1).trans (I.pin p hp).1, (I.pin p hp).2⟩
  hok := f.hok I.hok I.free
  len := (List.length_set ..).trans I.len
end
end ZT
namespace ZT
open PySem PySem.Spec PyProof.Rows L2
theorem frames_off {L : Addr} {h h' B : Heap} (f : Off L h h') {o' : Obj} (e' : h'.get? L = some o') (nf : ∀ vs, o'.data ≠ .fields vs) : ∀ l : List Env, h.FunFrames B l → h'.FunFrames B l
  | [], _ => trivial
  | _ :: l, ⟨k, ⟨F, o, e, b, q, d⟩, r⟩ => ⟨k, if z : F = L then ⟨F, o', e, b, z ▸ e', nf⟩ else ⟨F, o, e, b, (f F z).trans q, d⟩, frames_off f e' nf l r⟩
/-- the wish with the clause's slot emptied -/
abbrev offO (oi : Option Nat) (W : WX) : WX := match oi with
  | none => W
  | some i => fun cls d σ H => W cls d (σ.set i none) H
/-- the context of a suite, F about what leaves it -/
abbrev sctx (X : Cx) (a : Addr) (pn : List (Addr × Obj)) (F : Value → Shared → Prop) : Cx := { X with A := X.A.mark (some (.ref a)), calm := false, pn := pn, xe := F }
def Named (X : Cx) : Option Str → Option Nat → Prop
  | none, none => True
  | some n, some i => X.N[i]? = some n ∧ X.env.kindOf n = some .local
  | _, _ => False
/-- an error that leaves the suite, as the handler wants it -/
def Leaves (X : Cx) (a : Addr) (pos : Pos) (e : Value) (s : Shared) : Option Str → Prop
  | none => notedBy (model X.prog X.w) (X.A.mark (some (.ref a))) X.env (cameBackBy (model X.prog X.w) X.A X.env X.xe) e s
  | some n => AsSuiteRaised (model X.prog X.w) (X.A.mark (some (.ref a))) X.env n pos (notedBy (model X.prog X.w) (X.A.mark (some (.ref a))) X.env (cameBackBy (model X.prog X.w) X.A X.env X.xe)) e s
section
variable {X : Cx} {pins : List (Addr × Obj)} {σ : L2.St} {H : Hp} {s : Shared} {W : WX}
theorem notClass (ok : X.Ok) : (X.env.scope.kind == .class || (X.env.scope.kind == .module && X.env.locals != X.env.globals)) = false := by rw [ok.kind]; rfl
/-- an error leaves a suite that has a name: noted, the name gone, on -/
theorem leaves_named {i : Nat} {n : Str} {pos : Pos} {a : Addr} {e : Value} (t : Top X) (hN : X.N.Nodup) (hi : X.N[i]? = some n) (hl : X.env.kindOf n = some .local) (tk : L2.Takes X W)
    (hpa : PassesOwnAt (model X.prog X.w) (X.A.mark (some (.ref a))) X.A X.env X.xe) (x : L2.XE X (offO (some i) W) e s) : Leaves X a pos e s (some n) := by
  obtain ⟨b, B, sI, pins, σ, H, c, d, rfl, al, w⟩ := aloft_of x
  refine al.note t (t.frames _) fun h3 held al3 => ?_
  obtain ⟨st, nb, ff, tr⟩ := id held
  obtain ⟨m, ⟨oI, es, ep, gI, dI, more⟩, look⟩ := al.inv.loc
  obtain ⟨sl, g3⟩ := al3.up _ _ gI fun vs z => by rw [dI] at z; cases z
  have inL : X.env.locals ∈ (X.env :: X.outer).filterMap (·.frame) := List.mem_filterMap.mpr ⟨X.env, List.mem_cons_self, t.frm⟩
  refine wpAny_nameGoes_keeps hl (m := m) ⟨_, es, ep, g3, dI, more⟩ (notClass t.ok) fun h4 v tab same => ?_
  obtain ⟨o4, es4, ep4, g4, d4, more4⟩ := id tab
  have off : Off X.env.locals h3 h4 := same.2
  have notL : ∀ u o, B.get? u = some o → u ≠ X.env.locals := fun u o q z => Option.some_ne_none _ ((z ▸ q).symm.trans (ff.mem inL).1)
  have record : ∀ {u : Addr} {o : Obj} {vs : Array Value}, h3.get? u = some o → o.data = .fields vs → h4.get? u = some o := fun {u o vs} q dd => (off u fun z => by
    rw [z, g3] at q
    cases q
    rw [dI] at dd
    cases dd).trans q
  -- the state without the error: its table is the one that stands
  have gS : (sI.heap.update X.env.locals fun _ => o4).get? X.env.locals = some o4 := Heap.get?_update_self _ gI (by obtain ⟨_, _, _, _⟩ := o4; cases d4; rfl)
  have oS : Off X.env.locals sI.heap (sI.heap.update X.env.locals fun _ => o4) := fun u z => Heap.get?_update_other _ _ (Ne.symm z)
  have I4 : Inv X pins (σ.set i none) H { sI with heap := sI.heap.update X.env.locals fun _ => o4, toks := sI.toks } := Inv.lose al.inv hN hi look ⟨o4, es4, ep4, gS, d4, more4⟩ oS
  have held4 : HandSPX.HeldZ B (X.env :: X.outer) b (Zc c d) X.env.locals h4 := by
    obtain ⟨oe, vs, T, oT, ts, k1, k2, k3, k4, k5, k6, k7, k8, k9⟩ := tr
    exact ⟨fun u o q => (off u (notL u o q)).trans (st u o q), nb, frames_off off g4 (fun vs z => by rw [d4] at z; cases z) _ ff, oe, vs, T, oT, ts, record k1 k3, k2, k3, k4, k5, k6, record k7 k8, k8, k9⟩
  have al4 : Aloft Zc X B { sI with heap := sI.heap.update X.env.locals fun _ => o4, toks := sI.toks } pins (σ.set i none) H c d b { s with heap := h4, toks := s.toks + 1 } := by
    refine ⟨I4, fun u o q nu => al.gnd u o ((oS u fun z => nu (z ▸ t.stk ▸ inL)).symm.trans q) nu, fun u o q nf => ?_, .inr (.inr (t.stk ▸ held4)), al.na, al.os, al.ag⟩
    by_cases z : u = X.env.locals
    · subst z
      cases gS.symm.trans q
      exact ⟨o4.slots, g4⟩
    · exact (al3.up u o ((oS u z).symm.trans q) nf).imp fun _ y => (off u z).trans y
  obtain ⟨y1, y2, y3, y4⟩ := held4
  exact al4.onward t y1 y2 y3 y4 fun s' y => hpa _ _ (tk _ _ (y.xe w))
end
end ZT
namespace ZT
open PySem PySem.Spec PyProof.Rows L2
/-- the names in a clause's tuple -/
inductive NsL (X : Cx) : List Expr → List Value → Prop
  | nil : NsL X [] []
  | cons {x : Str} {c : Value} {np : Pos} {es : List Expr} {cs : List Value} (hc : Names X x c) (r : NsL X es cs) : NsL X (.Name x np :: es) (c :: cs)
/-- a clause's classes, by what they answer -/
inductive Test (X : Cx) : Expr → (Value → Option Bool) → Prop
  | one {x : Str} {c : Value} {np : Pos} (hc : Names X x c) : Test X (.Name x np) (fun cls => PySem.W.exmOne X.K cls c)
  | tup {es : List Expr} {cs : List Value} {k : Nat} {np : Pos} (h : NsL X es cs) (z : cs.length = 2 ∨ cs.length = 3 ∨ cs.length = 4) : Test X (.Tuple es k np) (fun cls => PySem.W.exmAny X.K cls cs)
section
variable {Z : Value → Option Addr → Obj → Prop} {X : Cx} {B : Heap} {sI s : Shared} {pins : List (Addr × Obj)} {σ : L2.St} {H : Hp} {c : Value} {d : Option Addr} {a : Addr}
/-- the state as a suite's -/
theorem Got.suite (g : Got Z X B sI pins σ H c d a s) : ∃ oe, Z c d oe ∧ (∃ vs, oe.data = .fields vs) ∧ X.base.get? a = none ∧ s.heap.get? a = some oe ∧ ∀ F, Inv (sctx X a ((a, oe) :: (X.pn ++ pins)) F) [] σ H s := by
  obtain ⟨oe, vs, he, hz, hd, nl, nf, nb⟩ := g.apart
  exact ⟨oe, hz, ⟨vs, hd⟩, nb, he, fun F => Inv.unwish (X := sctx X a _ F) (E := fun _ _ => False) (g.here.suite he hd g.na nl nf)⟩
theorem suite_end {F : Value → Shared → Prop} {q : Addr × Obj} {pn' : List (Addr × Obj)} {σ : L2.St} {H : Hp} {s : Shared} (ok : X.Ok) (I : Inv (sctx X a (q :: (X.pn ++ pins)) F) pn' σ H s) : Inv X pins σ H s :=
  have J : Inv (X.suite a (q :: (X.pn ++ pins))) pn' σ H s := I.wish fun _ _ => False
  J.unsuite ok
theorem name_ld {x : Str} {v : Value} {np : Pos} {pn : List (Addr × Obj)} {Q E : Value → Shared → Prop} (I : Inv (X.suite a pn) [] σ H s) (hc : Names X x v) (q : Q v s) : wpAny (model X.prog X.w) (X.A.mark (some (.ref a))) (eval (.Name x np) X.env) Q E s :=
  match hc with
  | ⟨g, dbg, .inl m⟩ => ld_glob (X := X.suite a pn) I g m q dbg
  | ⟨g, dbg, .inr ⟨m, v, nn⟩⟩ => ld_blt (X := X.suite a pn) I g m v q nn dbg
theorem names_ld {es : List Expr} {cs : List Value} {pos : Pos} {pn : List (Addr × Obj)} {E : Value → Shared → Prop} (I : Inv (X.suite a pn) [] σ H s) (hn : NsL X es cs) : ∀ {Q : List Value → Shared → Prop}, Q cs s → wpAny (model X.prog X.w) (X.A.mark (some (.ref a))) (spliced (backTo pos (starEach es X.env))) Q E s := by
  induction hn with
  | nil => exact fun q => wpAny_items_nil q
  | cons hc _ ih => exact fun q => wpAny_items_cons (name_ld I hc (ih q))
theorem Test.run {te : Expr} {ans : Value → Option Bool} {b : Bool} {G : Bool → Shared → Prop} {E1 E2 : Value → Shared → Prop} (t : Test X te ans) (k : Kind Z) (g : Got Z X B sI pins σ H c d a s) (hb : ans c = some b)
    (q : ∀ h', Got Z X B sI pins σ H c d a { s with heap := h' } → G b { s with heap := h' }) :
    wpAny (model X.prog X.w) (X.A.mark (some (.ref a))) (eval te X.env) (fun v s₁ => wpAny (model X.prog X.w) (X.A.mark (some (.ref a))) (excMatches (.ref a) v) G E2 s₁) E1 s := by
  obtain ⟨oe, hz, -, -, he, J⟩ := g.suite
  have I := J fun _ _ => False
  have ty : PySem.W.Looks (model X.prog X.w) s.heap (typeOf (.ref a)) c := (k.zc hz).1 ▸ lk_type he
  cases t with
  | one hc => exact name_ld I hc ((PySem.W.exm_one I.kIn ty hb).here (q _ g))
  | @tup es cs n np hn z =>
    refine wpAny_Tuple (names_ld I hn ⟨by have := sizeLine_eq; omega, ?_⟩)
    have more : ∀ b o, s.heap.get? b = some o → (s.heap.push { cls := .type "tuple", data := .seq cs.toArray }).get? b = some o := fun b o e => Heap.get?_push_of_some _ e
    have at_ := Heap.get?_push_size s.heap (o := { cls := .type "tuple", data := .seq cs.toArray }) rfl
    have fin := q _ (g.grow { cls := .type "tuple", data := .seq cs.toArray })
    match cs, z, hb with
    | [_, _], _, hb => exact (PySem.W.exm_tup2 (I.kIn.keeps more) (ty.keeps more) at_ hb).here fin
    | [_, _, _], _, hb => exact (PySem.W.exm_tup3 (I.kIn.keeps more) (ty.keeps more) at_ hb).here fin
    | [_, _, _, _], _, hb => exact (PySem.W.exm_tup4 (I.kIn.keeps more) (ty.keeps more) at_ hb).here fin
end
/-- how a suite is walked: it lets nothing out, or it may raise -/
inductive Suite (Z : Value → Option Addr → Obj → Prop) (X : Cx) (W : WX) (oi : Option Nat) (body : List Stmt) (ts : Addr → Value → Option Addr → TS) : Prop
  | calm (h : ∀ (a : Addr) (oe : Obj) (cls : Value) (d : Option Addr) (pn : List (Addr × Obj)), Z cls d oe → (∃ vs, oe.data = .fields vs) → X.base.get? a = none → PSs (X.suite a ((a, oe) :: pn)) body (ts a cls d))
  | loud (hpa : ∀ hd : Option Value, PassesOwnAt (model X.prog X.w) (X.A.mark hd) X.A X.env X.xe)
      (h : ∀ (a : Addr) (oe : Obj) (cls : Value) (d : Option Addr) (pn : List (Addr × Obj)), Z cls d oe → (∃ vs, oe.data = .fields vs) → X.base.get? a = none → L2.Takes (sctx X a ((a, oe) :: pn) (L2.XE X (offO oi W))) (offO oi W) →
        PSs (sctx X a ((a, oe) :: pn) (L2.XE X (offO oi W))) body (ts a cls d))
abbrev HL := List ((Value → Option Bool) × Option Nat × (Addr → Value → Option Addr → TS))
inductive Arms (Z : Value → Option Addr → Obj → Prop) (X : Cx) (W : WX) : List ExceptHandler → HL → Prop
  | nil : Arms Z X W [] []
  | cons {te : Expr} {nm : Option Str} {oi : Option Nat} {ans : Value → Option Bool} {ts : Addr → Value → Option Addr → TS} {b₀ : Stmt} {suite : List Stmt} {pos : Pos} {hds : List ExceptHandler} {l : HL} (t : Test X te ans) (n : Named X nm oi) (u : Suite Z X W oi (b₀ :: suite) ts)
      (r : Arms Z X W hds l) : Arms Z X W (.ExceptHandler (some te) nm (b₀ :: suite) pos :: hds) ((ans, oi, ts) :: l)
def endO (D : Ends) : Option Nat → Ends
  | none => D
  | some i => { nx := fun σ' H' => D.nx (σ'.set i none) H', rt := D.rt, bk := fun σ' H' => D.bk (σ'.set i none) H', ct := fun σ' H' => D.ct (σ'.set i none) H' }
def slotO (σ : L2.St) (a : Addr) : Option Nat → L2.St
  | none => σ
  | some i => σ.set i (some (.ref a))
/-- what the clauses wish of an error of the body -/
def wArms (W : WX) (D : Ends) : HL → WX
  | [] => W
  | (ans, oi, ts) :: r => fun cls d σ H => ∃ b, ans cls = some b ∧ (b = true → ∀ a, H a = none → ts a cls d (endO D oi) (slotO σ a oi) H) ∧ (b = false → wArms W D r cls d σ H)
section
variable {Z : Value → Option Addr → Obj → Prop} {X : Cx} {W : WX} {pins : List (Addr × Obj)}
/-- the suite's end is the statement's -/
theorem end_carry {X₁ : Cx} {p₁ : List (Addr × Obj)} {D : Ends} {f : Flow} {s : Shared} (g : ∀ σ H, Inv X₁ p₁ σ H s → Inv X pins σ H s) (h : SP X₁ p₁ D f s) : SP X pins D f s := by
  cases f
  case ret => exact h.imp fun v => Exists.imp fun σ => Exists.imp fun H q => ⟨g σ H q.1, q.2⟩
  all_goals exact Exists.imp (fun σ => Exists.imp fun H q => ⟨g σ H q.1, q.2⟩) h
theorem end_unname {i : Nat} {n : Str} {pos : Pos} {D : Ends} {f : Flow} {s : Shared} {M : Model} {A : Around} {E : Value → Shared → Prop} (hN : X.N.Nodup) (hi : X.N[i]? = some n) (hl : X.env.kindOf n = some .local) (h : SP X pins (endO D (some i)) f s) :
    wpAny M A (do bindName X.env n .none; unbindBehindTheSuite X.env n pos) (fun _ s' => SP X pins D f s') E s := by
  cases f
  case ret => exact let ⟨v, σ, H, I, r, q⟩ := h; gone_ok I hN hi hl fun _ J => ⟨v, _, H, J, r, q⟩
  all_goals exact let ⟨σ, H, I, q⟩ := h; gone_ok I hN hi hl fun _ J => ⟨_, H, J, q⟩
/-- the suite runs behind its clause's test -/
theorem suite_run {B : Heap} {sI s : Shared} {σ : L2.St} {H : Hp} {cls : Value} {d : Option Addr} {a : Addr} {D : Ends} {oi : Option Nat} {nm : Option Str} {body : List Stmt} {ts : Addr → Value → Option Addr → TS} (hN : X.N.Nodup) (g : Got Z X B sI pins σ H cls d a s) (tk : L2.Takes X W)
    (n : Named X nm oi) (u : Suite Z X W oi body ts) (w : ts a cls d (endO D oi) (slotO σ a oi) H) (pos : Pos) (s' : Shared) (oe : Obj) (hz : Z cls d oe) (hd : ∃ vs, oe.data = .fields vs) (nb : X.base.get? a = none)
    (I : ∀ F, Inv (sctx X a ((a, oe) :: (X.pn ++ pins)) F) [] (slotO σ a oi) H s') :
    wpAny (model X.prog X.w) (X.A.mark (some (.ref a))) (execs body X.env) (fun f s₁ => SP X pins (endO D oi) f s₁) (fun e s₁ => Leaves X a pos e s₁ nm) s' := by
  cases u with
  | calm h => exact wpAny_mono ((h a oe cls d (X.pn ++ pins) hz hd nb).run [] s' _ H _ (I _) w) (fun _ _ => end_carry fun _ _ => suite_end g.top.ok) fun _ _ => False.elim
  | loud hpa h =>
    have own : L2.Takes (sctx X a ((a, oe) :: (X.pn ++ pins)) (L2.XE X (offO oi W))) (offO oi W) := fun u s2 x => by
      obtain ⟨b, B2, sI2, p2, σ2, H2, c2, d2, rfl, al, w2⟩ := aloft_of x
      exact Aloft.xe ⟨suite_end g.top.ok al.inv, al.gnd, al.up, al.sky, al.na, al.os, al.ag⟩ w2
    refine wpAny_mono ((h a oe cls d (X.pn ++ pins) hz hd nb own).run [] s' _ H _ (I _) w) (fun _ _ => end_carry fun _ _ => suite_end g.top.ok) fun e s2 x => ?_
    match nm, oi, n with
    | none, none, _ => exact hpa _ e s2 (tk e s2 x)
    | some _, some _, ⟨hi, hl⟩ => exact leaves_named g.top hN hi hl tk (hpa _) x
theorem arms_run {B : Heap} {sI : Shared} {σ : L2.St} {H : Hp} {cls : Value} {d : Option Addr} {a : Addr} {D : Ends} {hds : List ExceptHandler} {l : HL} (k : Kind Z) (hN : X.N.Nodup) (tk : L2.Takes X W) (hh : Arms Z X W hds l) : ∀ {s : Shared}, Got Z X B sI pins σ H cls d a s → wArms W D l cls d σ H →
    wpAny (model X.prog X.w) X.A (handleBy (.ref a) X.env hds) (SP X pins D) X.xe s := by
  induction hh with
  | nil => exact fun g w => g.onward k tk w
  | @cons te nm oi ans ts b₀ suite pos hds l t n u r ih =>
    intro s g ⟨b, hb, yes, no⟩
    refine wpAny_handleBy_cons (codeAny_handlers_test (t.run k g hb fun h1 g1 => ?_)) (fun z => by cases z)
    cases b with
    | false => exact ih g1 (no rfl)
    | true =>
      have w := yes rfl a g.na
      match nm, oi, n, u, w with
      | none, none, n, u, w =>
        refine codeAny_handlers_suite (g1.again fun h2 g2 => ?_)
        obtain ⟨oe, hz, hd, nb, -, I⟩ := g2.suite
        exact suite_run hN g2 tk n u w pos _ oe hz hd nb I
      | some n, some i, hn, u, w =>
        refine codeAny_handlers_suite_as (g1.again fun h2 g2 => ?_)
        obtain ⟨oe, hz, hd, nb, -, I⟩ := g2.suite
        refine store_ok (X := X.suite a ((a, oe) :: (X.pn ++ pins))) (v := .ref a) (I _) hN hn.1 (.inl hn.2) rfl (fun s3 I3 => ?_) (.inr hn.2)
        exact wpAny_mono (suite_run (oi := some i) hN g2 tk hn u w pos s3 oe hz hd nb fun F => Inv.unwish (X := sctx X a _ F) (E := fun _ _ => False) I3) (fun f s4 q => end_unname hN hn.1 hn.2 q) fun _ _ q => q
end
section
variable {Z : Value → Option Addr → Obj → Prop} {X : Cx} {W : WX} {body : List Stmt} {h₀ : ExceptHandler} {hds : List ExceptHandler} {l : HL} {pos : Pos} {tb : WX → TS}
/-- try: body, except ..: .., its clauses of any kind -/
theorem ps_try_arms (k : Kind Z) (hs : X.stack = X.env :: X.outer) (hf : X.env.frame = some X.env.locals) (hN : X.N.Nodup) (tk : L2.Takes X W)
    (hb : ∀ (V : WX) (pn : List (Addr × Obj)) (xe : Value → Shared → Prop), (∀ a B sI pins σ H c d s, Aloft Z (X.tr pn xe) B sI pins σ H c d a s → V c d σ H → xe (.ref a) s) → PassesOwn (model X.prog X.w) X.A X.env xe → PSs (X.tr pn xe) body (tb V))
    (hh : Arms Z X W (h₀ :: hds) l) : PS X (.Try body (h₀ :: hds) [] [] pos) (fun D σ H => tb (wArms W D l) D σ H) where
  run pins s σ H D I := fun h => by
    have t : Top X := ⟨I.ok, hs, hf⟩
    refine wpAny_Try_except (wpAny_mono ((hb (wArms W D l) (X.pn ++ pins) _ (fun a B sI p σ' H' c d s' al w => ?_) PassesOwn.looking).run [] s σ H D (I.toTry _) h) (fun f s1 q => ?_) fun _ _ q => q)
    · exact Aloft.land k t ⟨al.inv.ofTry t.ok, al.gnd, al.up, al.sky, al.na, al.os, al.ag⟩ (t.frames none) fun h' g => arms_run k hN tk hh g w
    · have q' : SP X pins D f s1 := end_carry (fun _ _ J => J.ofTry t.ok) q
      cases f
      case next => exact wpAny_execs_nil q'
      all_goals exact q'
end
end ZT
namespace Z
open PySem PySem.Spec PyProof.Rows L2
/-- i // j, where j may be 0 -/
def tFdivZ (W : WX) (ta tb : TE) : TE := fun σ H Q => ta σ H fun x H1 => tb σ H1 fun y H2 => ∃ i j, x = .int i ∧ y = .int j ∧ ((CDivX i j ∧ Q (.int (i.fdiv j)) H2) ∨ (j = 0 ∧ ∀ d, W (.type "ZeroDivisionError") d σ H2))
theorem pe_fdivZ {X : Cx} {W : WX} {a b : Expr} {ta tb : TE} {pos : Pos} (hc : X.calm = true) (tk : L2N.Takes X W) (ha : PE X a ta) (hb : PE X b tb) : PE X (.BinOp a .FloorDiv b pos) (tFdivZ W ta tb) := by
  refine ⟨fun pins s σ H Q I h => ?_⟩
  refine wpAny_BinOp (binT ha hb I (R := fun x y H2 => ∃ i j, x = .int i ∧ y = .int j ∧ ((CDivX i j ∧ Q (.int (i.fdiv j)) H2) ∨ (j = 0 ∧ ∀ d, W (.type "ZeroDivisionError") d σ H2))) h fun v u s2 x y H2 I2 rx ry q => ?_)
  obtain ⟨i, j, ex, ey, q⟩ := q
  rcases q with q | ⟨j0, w⟩
  · exact op_fdivX pins s2 σ H2 x y v u Q I2 rx ry ⟨i, j, ex, ey, q.1, q.2⟩
  · subst ex ey
    obtain ⟨t, rfl⟩ := (show ∃ t, v = Value.int i t from rx)
    obtain ⟨t', rfl⟩ := (show ∃ t, u = Value.int j t from ry)
    exact PySem.AutoIntOps.floordiv_0 (by rw [j0]; rfl) ⟨I2.ok.hd hc, fun h' tk' e hx => L2N.takes_newN (t' := tk') tk I2 hx w⟩
end Z
namespace L2H
open PySem PySem.Spec PyProof.Rows L2 HotX
abbrev offW (i : Nat) (W : WX) : WX := ZT.offO (some i) W
/-- the context of a named clause that may raise -/
abbrev suiteE (X : Cx) (W : WX) (a : Addr) (pn : List (Addr × Obj)) : Cx := ZT.sctx X a pn (L2.XE X W)
section
variable {X : Cx} {i : Nat} {n x : Str} {c : Value} {body suite : List Stmt} {b₀ : Stmt} {np pos pos' : Pos} {tb : WX → TS} {ts : Addr → Value → Option Addr → TS} {Wout : WX}
/-- one clause that names its error, and may raise: the error's own context is None, so a raise within is walked -/
theorem ps_try_asX (hs : X.stack = X.env :: X.outer) (hf : X.env.frame = some X.env.locals) (hN : X.N.Nodup) (hi : X.N[i]? = some n) (hln : X.env.kindOf n = some .local) (hc : Names X x c)
    (hpa : ∀ hd : Option Value, PassesOwnAt (model X.prog X.w) (X.A.mark hd) X.A X.env X.xe) (tk : L2.Takes X Wout)
    (hb : ∀ (W : WX) (pn : List (Addr × Obj)) (xe : Value → Shared → Prop), L2N.Takes (X.tr pn xe) W → PassesOwn (model X.prog X.w) X.A X.env xe → PSs (X.tr pn xe) body (tb W))
    (hsu : ∀ (a : Addr) (oe : Obj) (cls : Value) (d : Option Addr) (pn : List (Addr × Obj)), L2N.Zn cls d oe → (∃ vs, oe.data = .fields vs) → L2.Takes (suiteE X (offW i Wout) a ((a, oe) :: pn)) (offW i Wout) → Hot1 (suiteE X (offW i Wout) a ((a, oe) :: pn)).A (a, oe) →
      PSs (suiteE X (offW i Wout) a ((a, oe) :: pn)) (b₀ :: suite) (ts a cls d)) :
    PS X (.Try body [.ExceptHandler (some (.Name x np)) (some n) (b₀ :: suite) pos'] [] [] pos) (fun D σ H => tb (wAs X.K c i ts Wout D) D σ H) :=
  ZT.ps_try_arms (l := [(fun cls => PySem.W.exmOne X.K cls c, some i, ts)]) ZT.kind_n hs hf hN tk (fun W pn xe hx po => hb W pn xe (fun u s' x => by
    obtain ⟨a, B, sI, pins, σ, H, c, d, rfl, al, w⟩ := ZT.aloft_ofN x
    exact hx a B sI pins σ H c d s' al w) po)
    (.cons (oi := some i) (.one hc) ⟨hi, hln⟩ (.loud hpa fun a oe cls d pn hz hd _ tk => hsu a oe cls d pn hz hd tk ⟨rfl, hd.imp fun vs e => ⟨e, hz.2.2 vs e⟩⟩) .nil)
end
end L2H
namespace Z
open PySem PySem.Spec PyProof.Rows L2
section
variable {X : Cx} {C : Addr} {x m : Str} {j : Nat} {p p2 pos : Pos}
/-- the class C called with one value: what it makes has its six fields -/
theorem call_six {B newId initId : String} {tl : List Value} {pins : List (Addr × Obj)} {σ : L2.St} {H : Hp} {s : Shared} {Q : XK} {u : Value} (F : ExcBaseFacts B newId initId tl) (q : PySem.W.excIn X.K C tl newId = true) (r : Raises X (.ref C)) (I : Inv X pins σ H s) (h : Q (.ref C) none H) :
    wpAny (model X.prog X.w) X.A (call (.ref C) [u]) (fun v s' => L2N.MkP X pins σ Q v s' ∧ L2H.Six v s') X.xe s :=
  let ⟨_, _, _, _, _, _, _, _, _, _, _, _, _, _, _, _, _, hC, hN, hni, T⟩ := exc_obj I.kIn q
  wpAny_call_exc_subT F T hC hN hni (fun _ _ made => L2H.mk_of5 I made r h (I.hok.gone made.new)) (show (1 : Nat) ≤ sizeLine from sizeLine_eq ▸ by omega)
theorem pmk_e05 (G : Exc0 X.K X.mg x C) (hg : Gl X x) (hdb : (x == ("__debug__" : Str)) = false := by decide) : L2H.PMk5 X (.Call (.Name x p) [.Constant (.str m) j p2] [] pos) (fun _ H Q => Q (.ref C) none H) := fun pins s σ H Q I h =>
  let ⟨_, _, _, _, F, q⟩ := G.ex
  wpAny_Call_Name_kw (ld_glob I hg G.mg (PySem.W.callWith_K (h₀ := X.base) I.ok.mod.kin G.kp (thn ((pa_cons (pe_str (x := m)) pa_nil).run pos pins s σ H (fun vs H1 => vs = [V.str m] ∧ H1 = H) I ⟨rfl, rfl⟩) fun us s1 told => by
    obtain ⟨_, _, J, told, rfl, rfl⟩ := told
    match us, told with
    | [_], .cons _ .nil => exact ⟨J.kIn, call_six F q (raises_own G.r1 G.r2) J h⟩)) hdb)
end
section
variable {K : PySem.W.Frag} {τ : T} {μ : M} {Φ : D → M → Prop} {N : AEnds} {ta tb : TE}
theorem a_fdivZ (hc : N.cn "ZeroDivisionError" = some (.type "ZeroDivisionError")) (h : AE K ta τ μ fun x μ1 => AE K tb τ μ1 fun y μ2 => ∃ i j, x = .int i ∧ y = .int j ∧ (j ≠ 0 → CDivX i j ∧ Φ (.int (i.fdiv j)) μ2) ∧ (j = 0 → ∀ dx, N.xs "ZeroDivisionError" dx τ μ2)) :
    AEX K (tFdivZ N.W ta tb) τ μ N Φ := fun σ H s c Q k kx =>
  h σ H s c _ fun x μ1 v H1 f1 c1 r1 p1 => p1 σ H1 (s.mono (f1.tx c)) c1 _ fun y μ2 u H2 f2 c2 r2 ⟨i, j, ex, ey, q1, q2⟩ => by
    subst ex ey
    cases r1
    cases r2
    refine ⟨i, j, rfl, rfl, ?_⟩
    by_cases hj : j = 0
    · exact .inr ⟨hj, fun dx => kx "ZeroDivisionError" dx μ2 _ H2 hc (f1.trans f2) c2 (q2 hj dx)⟩
    · exact .inl ⟨(q1 hj).1, k (.int (i.fdiv j)) μ2 _ H2 (f1.trans f2) c2 (.int _) (q1 hj).2⟩
theorem slots_unset {H : Hp} {τ2 : T} {σ2 : L2.St} (i : Nat) (s2 : Slots K H τ2 σ2) : Slots K H (τ2.set i none) (σ2.set i none) := by
  refine ⟨by rw [List.length_set, List.length_set]; exact s2.1, fun j d e => ?_⟩
  by_cases hj : i = j
  · subst hj
    by_cases hi : i < τ2.length
    · rw [List.getElem?_set_self hi] at e; cases e
    · rw [List.getElem?_eq_none (by rw [List.length_set]; omega)] at e; cases e
  · rw [List.getElem?_set_ne hj] at e ⊢
    exact s2.2 j d e
/-- try .. except X as n, where the clause may raise -/
theorem s_tryAsX (cn : Str → Option Value) {tb : WX → TS} {tu : Addr → Value → Option Addr → TS} {c : Value} {i : Nat} (hit : Str → Bool) (hm : ∀ x cls, cn x = some cls → PySem.W.exmOne K cls c = some (hit x))
    (hb : ∀ W, AS K (tb W) τ μ { N with W := W, cn := cn, xs := fun x dx τ' μ' => (hit x = true ∧ ∀ a cls, cn x = some cls → AS K (tu a cls dx) (τ'.set i (some (.ref a))) μ'
      { nx := fun τ2 μ2 => N.nx (τ2.set i none) μ2, rt := N.rt, bk := fun τ2 μ2 => N.bk (τ2.set i none) μ2, ct := fun τ2 μ2 => N.ct (τ2.set i none) μ2, W := L2H.offW i N.W, cn := N.cn, xs := fun x dx τ2 μ2 => N.xs x dx (τ2.set i none) μ2 }) ∨ (hit x = false ∧ N.cn x = cn x ∧ N.xs x dx τ' μ') }) :
    AS K (fun D σ H => tb (wAs K c i tu N.W D) D σ H) τ μ N := fun σ H s cc E k => by
  refine hb (wAs K c i tu N.W E) σ H s cc E ⟨k.nx, k.rt, k.bk, k.ct, fun x dx τ' μ' cls σ' H' ec f c' s' q => ?_⟩
  refine ⟨hit x, hm x cls ec, fun hx a na => ?_, fun hx => ?_⟩
  · rcases q with ⟨_, q⟩ | ⟨z, _⟩
    · exact q a cls ec (σ'.set i (some (.ref a))) H' (s'.set (.ref a) i) c' _ ⟨fun τ2 μ2 σ2 H2 f2 c2 s2 p => k.nx _ μ2 _ H2 (f.trans f2) c2 (slots_unset i s2) p, fun d μ2 v H2 f2 c2 r p => k.rt d μ2 v H2 (f.trans f2) c2 r p,
        fun τ2 μ2 σ2 H2 f2 c2 s2 p => k.bk _ μ2 _ H2 (f.trans f2) c2 (slots_unset i s2) p, fun τ2 μ2 σ2 H2 f2 c2 s2 p => k.ct _ μ2 _ H2 (f.trans f2) c2 (slots_unset i s2) p,
        fun x2 dx2 τ2 μ2 cls2 σ2 H2 e2 f2 c2 s2 p => k.wx x2 dx2 (τ2.set i none) μ2 cls2 (σ2.set i none) H2 e2 (f.trans f2) c2 (slots_unset i s2) p⟩
    · rw [hx] at z; cases z
  · rcases q with ⟨z, _⟩ | ⟨_, q⟩
    · rw [hx] at z; cases z
    · exact k.wx x dx τ' μ' cls σ' H' (q.1.trans ec) f c' s' q.2
/-- raise X('..') from n -/
theorem s_raiseE0 {C a : Addr} {cls1 : Value} {x : Str} {i : Nat} (rK : L2H.RaisesK K cls1) (hi : τ[i]? = some (some (.ref a))) (hc : N.cn x = some (.ref C)) (h : N.xs x none τ μ) :
    AS K (fun _ σ H => L2H.RaisesK K cls1 ∧ σ[i]? = some (some (.ref a)) ∧ (fun (_ : L2.St) (H : Hp) (Q : XK) => Q (.ref C) none H) σ H fun cls d H' => N.W cls d σ H') τ μ N := fun σ H s c E k => by
  refine ⟨rK, ?_, k.wx x none τ μ (.ref C) σ H hc Fr.refl c s h⟩
  obtain ⟨v, e, r⟩ := s.2 i (.ref a) hi
  cases r
  exact e
end
end Z
namespace Z
open PySem PySem.Spec PyProof.Rows L2
/-- x(.., k = v ..): n places, the names ks; gK π puts them, and the defaults mz, in the parameters' order -/
structure DefN (P : Program) (w : World) (K : PySem.W.Frag) (mg : Str → Option Value) (base : Heap) (x : Str) (ps : List Str) (n : Nat) (ks : List Str) (π : List (Bool × Nat)) (mz : List V) (k : Nat) (sp : Sp) : Prop where
  ex : ∃ f fd g, FnOk P w K mg base (L2.CX P w) k f fd ps sp ∧ mg x = some (.ref f) ∧ PySem.W.keepIn K (.ref f) = true ∧ KBn K fd ps n ks g (fun vs zs => gK π vs mz zs)
/-- such a def's binding -/
theorem kbd_of {K : PySem.W.Frag} {x qual : Str} {params : Arguments} {body : List Stmt} {scope : Scope} {dvs : List V} {f : Addr} {fd : FuncData} {ps : List Str} (F : FunD K x qual params body scope dvs [] f fd) (n : Nat) (ks : List Str) (π : List (Bool × Nat)) (hd : dvs ≠ [])
    (h : ∀ (T : Addr) (kV doc pm : Value) (an : Option Addr) (cdv ct : Value) (us its ws : List Value), us.length = n → its.length = dvs.length → ws.length = ks.length →
      ∃ k, bindArgs (PySem.W.fnOf x qual params body scope (.ref T) kV doc pm an cdv ct) ⟨us, ks.zip ws⟩ = seqItems? (.ref T) >>= k ∧ k (some its.toArray) = pure (ps.zip (gK π us its ws))) : ∃ g, KBn K fd ps n ks g (fun vs zs => gK π vs dvs zs) := by
  rcases F.ex with ⟨_, _, dV, kV, doc, pm, an, cdv, ct, _, rfl, _, _, ⟨nil0, -⟩ | ⟨_, T, _, its, _, rfl, lT, oT, rT⟩, -⟩
  · exact absurd nil0 hd
  · exact ⟨fun us ws => gK π us its ws, fun s us ws X l1 l2 => BindsTo.of_looks fun M => let ⟨k, told, rest⟩ := h T kV doc pm an cdv ct us its ws l1 rT.length.symm l2; told ▸ looks_items X lT oT (.of_pure rest), fun r1 r2 => vals_gK π r1 rT r2⟩
section
variable {X : Cx} {x : Str} {ps ks : List Str} {n k : Nat} {π : List (Bool × Nat)} {mz : List V} {sp : Sp} {p pos : Pos} {e : Expr} {es : List Expr} {kws : List Keyword} {t tk : TA}
theorem pe_defK (G : DefN X.prog X.w X.K X.mg X.base x ps n ks π mz k sp) (hr : Room k X.A) (hg : Gl X x) (ha : PA X (e :: es) t) (hkw : PK X kws tk)
    (hall : (backToKw pos (keywordEach kws X.env)).all (·.1.isSome) = true := by rfl) (hks : (backToKw pos (keywordEach kws X.env)).filterMap (·.1) = ks := by rfl) (hdb : (x == ("__debug__" : Str)) = false := by decide)
    (he : starEach (e :: es) X.env = (false, eval e X.env) :: starEach es X.env := by rfl) (hpl : ((backTo pos (starEach (e :: es) X.env)).any (·.1) || (backToKw pos (keywordEach kws X.env)).any (·.1.isNone)) = false := by rfl) :
    PE X (.Call (.Name x p) (e :: es) kws pos) (tCallN n ks.length sp (fun vs zs => gK π vs mz zs) E0 t tk) := by
  obtain ⟨f, fd, g, F, hm, hk, hb⟩ := G.ex
  exact pe_callN F hr hg hm hk hb passL ha hkw hall hks hdb he hpl
theorem pe_defK0 (G : DefN X.prog X.w X.K X.mg X.base x ps 0 ks π mz k sp) (hr : Room k X.A) (hg : Gl X x) (hkw : PK X kws tk)
    (hall : (backToKw pos (keywordEach kws X.env)).all (·.1.isSome) = true := by rfl) (hks : (backToKw pos (keywordEach kws X.env)).filterMap (·.1) = ks := by rfl) (hdb : (x == ("__debug__" : Str)) = false := by decide)
    (hpl : ((backTo pos (starEach [] X.env)).any (·.1) || (backToKw pos (keywordEach kws X.env)).any (·.1.isNone)) = false := by rfl) :
    PE X (.Call (.Name x p) [] kws pos) (tCallN 0 ks.length sp (fun vs zs => gK π vs mz zs) E0 tNil tk) := by
  obtain ⟨f, fd, g, F, hm, hk, hb⟩ := G.ex
  refine ⟨fun pins s σ H Q I h => ?_⟩
  refine wpAny_Call_Name_kw (ld_glob I hg hm ?_ hdb)
  refine PySem.W.callWith_KW0 (h₀ := X.base) I.ok.mod.kin hk hall (thn (hkw.run pos pins s σ H _ I h) fun ws s2 ⟨zs, H2, I2, rz, l1, l2, q2⟩ => ⟨I2.kIn, ?_⟩) hpl
  rw [hks]
  exact run_fnN F hr hb passL I2 .nil rz l1 l2 q2
end
theorem a_defK {K : PySem.W.Frag} {τ : T} {μ : M} {Φ : D → M → Prop} {n m : Nat} {π : List (Bool × Nat)} {mz : List V} (mD : List D) (hmz : ∀ H, Rels K H mz mD) {cn : Str → Option Value} {P : PT4} {E : XK} {t tk : TA}
    (h : AA K t τ μ fun ds μ1 => AA K tk τ μ1 fun es μ2 => ds.length = n ∧ es.length = m ∧ P (gK π ds mD es) μ2 Φ fun _ _ _ => False) :
    AE K (tCallN n m (spX K cn P) (fun vs zs => gK π vs mz zs) E t tk) τ μ Φ := fun σ H s c Q k =>
  h σ H s c _ fun ds μ1 vs H1 f1 c1 r1 p1 => p1 σ H1 (s.mono (f1.tx c)) c1 _ fun es μ2 zs H2 f2 c2 r2 ⟨l1, l2, p2⟩ =>
    ⟨by rw [r1.length]; exact l1, by rw [r2.length]; exact l2, gK π ds mD es, μ2, Φ, _, rels_gK π (r1.mono (f2.tx c1)) (hmz H2) r2, c2, p2, fun d μ' v H' f c' r q => k d μ' v H' ((f1.trans f2).trans f) c' r q, fun _ _ _ _ _ _ _ _ q => q.elim⟩
theorem sub_zde {K : PySem.W.Frag} : PySem.W.subIn K (.type "ZeroDivisionError") (.type "BaseException") = some true := by
  show (fastBuiltinMro "ZeroDivisionError").map (·.contains (.type "BaseException")) = some true
  decide +kernel
theorem sub_zde1 {K : PySem.W.Frag} : PySem.W.subIn K (.type "ZeroDivisionError") (.type "ZeroDivisionError") = some true := by
  show (fastBuiltinMro "ZeroDivisionError").map (·.contains (.type "ZeroDivisionError")) = some true
  decide +kernel
theorem raisesK_zde {K : PySem.W.Frag} : L2H.RaisesK K (.type "ZeroDivisionError") := fun M h x => PySem.W.looks_subIn x sub_zde
theorem exm_zde {K : PySem.W.Frag} : PySem.W.exmOne K (.type "ZeroDivisionError") (.type "ZeroDivisionError") = some true := by
  unfold PySem.W.exmOne
  rw [sub_zde, if_pos (by rfl)]
  show (if PySem.W.kitMeta "ZeroDivisionError" = true then PySem.W.subIn K (.type "ZeroDivisionError") (.type "ZeroDivisionError") else none) = some true
  rw [if_pos (by decide +kernel), sub_zde1]
end Z
namespace Z
open PySem PySem.Spec PyProof.Rows L2
def rIsX (K : PySem.W.Frag) (cls : Value) (d : Option Addr) (a : Addr) : List V → Hp → VK → Prop := fun xs H Q => ∃ (c : V) (D : Addr) (b : Bool), xs = [.ref a, c] ∧ cls = .ref D ∧ d = none ∧ ExcC K D ∧
  ((∃ u, ClsV c u ∧ PySem.W.kitOne K (.ref D) u = some b) ∨ (∃ (tp : Addr) (cs : List V) (us : List Value), c = .ref tp ∧ H tp = some (.tup cs) ∧ Paired ClsV cs us ∧ PySem.W.kitAny K (.ref D) us = some b)) ∧ Q (.bl b) H
theorem inst_of {h : Heap} {a D : Addr} {oe : Obj} (g : h.get? a = some oe) (hz : Zc (.ref D) none oe) (hf : ∃ vs, oe.data = .fields vs) : PySem.W.InstAt h a oe D none :=
  match oe, hz, hf, g with
  | ⟨_, _, _, _⟩, ⟨rfl, rfl⟩, ⟨_, rfl⟩, g => ⟨g, rfl, rfl, trivial⟩
theorem call_isX {X : Cx} {K : PySem.W.Frag} {a : Addr} {cls : Value} {d : Option Addr} {oe : Obj} {pn : List (Addr × Obj)} (hK : X.K = K) (hz : Zc cls d oe) (hf : ∃ vs, oe.data = .fields vs) : CallR (X.suite a ((a, oe) :: pn)) (.builtin "isinstance") (rIsX K cls d a) := by
  subst hK
  intro pins s σ H xs us Q I r h
  obtain ⟨c, D, b, rfl, rfl, rfl, C, hc, q⟩ := h
  obtain ⟨u1, u2, rfl, r1, r2⟩ := vals2 r
  cases r1
  have J := inst_of (I.pin (a, oe) (List.mem_append_left _ List.mem_cons_self)).1 hz hf
  have Z := PySem.W.handS_kitx_exc (K := X.K) (x := a) (ox := oe) C.hg C.hk C.hs C.hd C.ha C.hn C.ht C.hm
  rcases hc with ⟨u, cv, e⟩ | ⟨tp, cs, ws, rfl, ht, cv, e⟩
  · have e2 := cv.eq r2
    subst e2
    exact PySem.W.kia_one Z I.kIn J e (fun z => nomatch z) fun tk => ⟨.bl b, H, I.kept (t' := tk) fun _ _ z => z, rfl, q⟩
  · cases (show u2 = Value.ref tp from r2)
    obtain ⟨_, its, rv, o, h1, h2, n, h3⟩ := (show ObjOk X.prog X.w H s.heap tp (.tup cs) from I.hok tp _ ht)
    have e3 := ClsV.all cv rv
    subst e3
    obtain ⟨oc, od, dt, sl⟩ := o
    simp only at h2 h3
    subst h2 h3
    exact PySem.W.kia_tup Z I.kIn J h1 e (fun z => nomatch z) fun tk => ⟨.bl b, H, I.kept (t' := tk) fun _ _ z => z, rfl, q⟩
section
variable {K : PySem.W.Frag} {μ : M} {Φ : D → M → Prop} {a : Addr} {cls : Value} {d : Option Addr}
theorem rc_isX1 {D C : Addr} {b : Bool} (ec : cls = .ref D) (ed : d = none) (E : ExcC K D) (h : PySem.W.kitOne K (.ref D) (.ref C) = some b) (q : Φ (.bl b) μ) : RC K (rIsX K cls d a) [.ref a, .ref C] μ Φ := fun H xs c r Q k => by
  cases r with
  | cons r1 rr =>
    cases rr with
    | cons r2 rr =>
      cases rr
      cases r1
      cases r2
      exact ⟨_, D, b, rfl, ec, ed, E, .inl ⟨_, .own C, h⟩, k (.bl b) μ _ H Fr.refl c (.bl b) q⟩
theorem rc_isXb {D : Addr} {n : String} {b : Bool} (ec : cls = .ref D) (ed : d = none) (E : ExcC K D) (h : PySem.W.kitOne K (.ref D) (.type n) = some b) (q : Φ (.bl b) μ) : RC K (rIsX K cls d a) [.ref a, .ty n] μ Φ := fun H xs c r Q k => by
  cases r with
  | cons r1 rr =>
    cases rr with
    | cons r2 rr =>
      cases rr
      cases r1
      cases r2
      exact ⟨_, D, b, rfl, ec, ed, E, .inl ⟨_, .ty n, h⟩, k (.bl b) μ _ H Fr.refl c (.bl b) q⟩
theorem clsV_refs {H : Hp} : ∀ {Cs : List Addr} {vs : List V}, Rels K H vs (Cs.map Z.D.ref) → Paired ClsV vs (Cs.map Value.ref)
  | [], [], .nil => .nil
  | C :: Cs, v :: vs, .cons r rr => by
    cases r
    exact .cons (.own C) (clsV_refs rr)
theorem rc_isXt {D : Addr} (Cs : List Addr) {b : Bool} (ec : cls = .ref D) (ed : d = none) (E : ExcC K D) (h : PySem.W.kitAny K (.ref D) (Cs.map .ref) = some b) (q : Φ (.bl b) μ) : RC K (rIsX K cls d a) [.ref a, .tup (Cs.map Z.D.ref)] μ Φ := fun H xs c r Q k => by
  cases r with
  | cons r1 rr =>
    cases rr with
    | cons r2 rr =>
      cases rr
      cases r1
      cases r2 with
      | tup ht rs =>
        obtain ⟨ht⟩ := ht
        exact ⟨_, D, b, rfl, ec, ed, E, .inr ⟨_, _, _, rfl, ht, clsV_refs rs, h⟩, k (.bl b) μ _ H Fr.refl c (.bl b) q⟩
end
end Z
namespace Z
open PySem
theorem kit_cls {K : PySem.W.Frag} {S C : Addr} {b : Bool} (h2 : PySem.W.isClsIn K C = true) (h3 : PySem.W.typeIn K (.ref C) = some (.type "type")) (h4 : PySem.W.subIn K (.ref S) (.ref C) = some b) : PySem.W.kitCls K (.ref S) (.ref C) = some b := by
  have e2 : ((PySem.W.clsIn K C).isSome && PySem.W.typeIn K (.ref C) == some (.type "type")) = true := by
    have h5 : (PySem.W.clsIn K C).isSome = true := h2
    rw [h5, h3] <;> rfl
  show (if ((PySem.W.clsIn K C).isSome && PySem.W.typeIn K (.ref C) == some (.type "type")) = true then PySem.W.subIn K (.ref S) (.ref C) else none) = some b
  rw [if_pos e2]
  exact h4
theorem kit_own {K : PySem.W.Frag} {S C : Addr} {b : Bool} (hs : PySem.W.subIn K (.ref S) (.ref S) = some true) (h2 : PySem.W.isClsIn K C = true) (h3 : PySem.W.typeIn K (.ref C) = some (.type "type")) (h4 : PySem.W.subIn K (.ref S) (.ref C) = some b) : PySem.W.kitOne K (.ref S) (.ref C) = some b := by
  unfold PySem.W.kitOne
  split
  · rename_i e
    have : S = C := Value.ref.inj (beq_iff_eq.mp e)
    subst this
    rw [hs] at h4
    exact h4
  · exact kit_cls h2 h3 h4
theorem kit_bt {K : PySem.W.Frag} {S : Addr} {n : String} {b : Bool} (hm : PySem.W.kitMeta n = true) (h4 : PySem.W.subIn K (.ref S) (.type n) = some b) : PySem.W.kitOne K (.ref S) (.type n) = some b := by
  unfold PySem.W.kitOne
  rw [if_neg (by simp)]
  show (if PySem.W.kitMeta n = true then PySem.W.subIn K (.ref S) (.type n) else none) = some b
  rw [if_pos hm]
  exact h4
end Z
namespace W
open PySem L2 Z
local macro_rules | `(tactic| walk_at "mu") => `(tactic| first
  | assumption
  | exact set_same
  | (refine Eq.trans (set_ne ?_) ?_; (first | assumption | (apply Ne.symm; assumption) | (intro h; subst h; simp_all)); walk_at "mu"))
local macro_rules | `(tactic| walk_at "seq") => `(tactic| first
  | rfl
  | (refine seq_ref ?_; walk_at "mu"))
local macro_rules | `(tactic| walk_at "sz") => `(tactic| first
  | assumption
  | (refine sz_2 ?_; decide)
  | (refine sz_8 ?_; decide)
  | (refine sz_32 ?_; decide)
  | (refine sz_128 ?_; decide +kernel)
  | ((with_reducible refine sz_add (a := ?a) (b := ?b) ?h ?k); (case h => walk_at "sz"); (case k => walk_at "sz"))
  | ((with_reducible refine sz_sub (a := ?a) (b := ?b) ?h ?k); (case h => walk_at "sz"); (case k => walk_at "sz"))
  | ((with_reducible refine sz_mul (a := ?a) (b := ?b) ?h ?k); (case h => walk_at "sz"); (case k => walk_at "sz"))
  | ((with_reducible refine sz_neg ?_) <;> walk_at "sz")
  | with_reducible exact sz_b
  | ((with_reducible refine sz_mod ?h1 ?h2); (case h1 => omega); (case h2 => walk_at "sz")))
local macro_rules | `(tactic| walk_at "szN") => `(tactic| first
  | assumption
  | (refine sz_mono (a := ?a) ?h ?l; (case h => walk_at "sz"); (case l => first | decide | omega)))
local macro_rules | `(tactic| walk_at "cond") => `(tactic| first
  | assumption
  | (refine mulw_of (a := ?a) (b := ?b) ?h ?k ?l; (case h => walk_at "sz"); (case k => walk_at "sz"); (case l => first | decide | omega))
  | (refine divw_of (b := ?b) ?h ?k ?l; (case h => omega); (case k => walk_at "sz"); (case l => first | decide | omega))
  | (show (0 : Int) < _; first | assumption | omega | decide)
  | (refine ⟨?_, ?_, ?_⟩ <;> first | assumption | decide | omega))
local macro_rules | `(tactic| walk_at "nf") => `(tactic| ((try simp only [List.set_cons_zero, List.set_cons_succ, Int.reduceToNat, Int.reducePow]); (try dsimp only)))
local macro_rules | `(tactic| walk_at "z1") => `(tactic| first
  | (with_reducible refine s_seq ?_)
  | ((with_reducible refine s_asgX ?_); (first | refine x_meth ?_ | refine x_call ?_))
  | (with_reducible refine s_asg ?_)
  | ((with_reducible refine s_ret ?_); (try dsimp only))
  | ((with_reducible refine s_next ?_); (try dsimp only))
  | ((with_reducible refine s_dropX ?_); (first | refine x_meth ?_ | refine x_call ?_))
  | (with_reducible refine s_drop ?_)
  | ((with_reducible refine s_retN ?_); (try dsimp only))
  | (with_reducible refine s_par ?_)
  | (with_reducible refine s_par3 ?_)
  | ((with_reducible refine g_name ?_); walk_at "nf")
  | ((with_reducible refine g_tup ?zn ?_); (case zn => rfl))
  | (with_reducible refine gs_cons ?_)
  | ((with_reducible refine gs_nil ?_); (try dsimp only))
  | ((with_reducible refine s_aug (d := ?zd) ?zh ?_); (case zh => rfl))
  | ((with_reducible refine a_var (d := ?zd) ?zh ?_); (case zh => rfl))
  | (with_reducible refine a_int ?_)
  | (with_reducible refine a_bl ?_)
  | (with_reducible refine a_str ?_)
  | (with_reducible refine a_non ?_)
  | (with_reducible refine a_ty ?_)
  | (with_reducible refine a_cref ?_)
  | (with_reducible refine a_revT ?_)
  | (with_reducible refine ro_neS ?_)
  | (with_reducible refine a_op ?_)
  | (with_reducible refine a_un ?_)
  | (with_reducible refine aa_cons ?_)
  | (with_reducible refine aa_nil ?_)
  | ((with_reducible refine a_tup ?_))
  | ((with_reducible refine a_lst ?_))
  | ((with_reducible refine a_lenSc (dec := ?zd) ?zt ?_); (case zt => first | exact tg_4 | exact tg_2 | exact tg_3 | exact tg_name))
  | (with_reducible refine a_cb ?_)
  | (with_reducible refine a_call ?_)
  | (with_reducible refine a_callX ?_)
  | (with_reducible refine a_methX ?_)
  | (with_reducible refine a_methI ?_)
  | (with_reducible refine rc_max3 ?_)
  | (with_reducible refine a_if ?_)
  | (with_reducible refine a_andV ?_)
  | (with_reducible refine a_orV ?_)
  | (with_reducible refine a_notV ?_)
  | (with_reducible refine at_test ?_)
  | (with_reducible refine at_B ?_)
  | (with_reducible refine at_and ?_)
  | (with_reducible refine at_or ?_)
  | (with_reducible refine at_not ?_)
  | (with_reducible refine at_yes ?_)
  | (with_reducible refine a_chain ?_)
  | (with_reducible refine a_chain3 ?_)
  | (with_reducible refine s_if ?_)
  | (with_reducible refine g_sub ?_)
  | (with_reducible refine ro_i ?_)
  | (with_reducible refine ru_i ?_)
  | (with_reducible refine ro_b ?_)
  | ((with_reducible refine ro_c (C := CPow) ?zc ?_); (case zc => walk_at "cond"); walk_at "nf")
  | ((with_reducible refine ro_c ?zc ?_); (case zc => walk_at "cond"))
  | ((with_reducible refine ro_ix (ds := ?zd) (e := ?ze) ?zs ?zi ?_); (case zs => walk_at "seq"); (case zi => rfl))
  | ((with_reducible refine set_lst (ds := ?zd) (j := ?zj) ?zs ?zi ?_); (case zs => walk_at "mu"); (case zi => rfl); walk_at "nf")
  | (with_reducible refine a_sl ?_)
  | (with_reducible refine ao_no ?_)
  | (with_reducible refine ao_pt ?_)
  | ((with_reducible refine rs_ref (ds := ?zd) ?zs ?_); (case zs => walk_at "mu"))
  | (with_reducible refine rs_rol ?_)
  | (with_reducible refine rs_tupA ?_)
  | ((with_reducible refine ro_catA ?zl ?_); (case zl => exact Nat.le_of_ble_eq_true rfl))
  | ((with_reducible refine ro_cat (ds := ?zd) (es := ?ze) ?zs ?zt ?zl ?_); (case zs => walk_at "mu"); (case zt => walk_at "mu"); (case zl => exact Nat.le_of_ble_eq_true rfl))
  | (with_reducible refine iteT ?_)
  | (with_reducible refine iteF ?_)
  | (with_reducible refine iteNT ?_)
  | (with_reducible refine iteNF ?_)
  | ((with_reducible refine ro_eqD ?h1 ?h2 ?_); (case h1 => rfl); (case h2 => rfl))
  | ((with_reducible refine ro_neD ?h1 ?h2 ?_); (case h1 => rfl); (case h2 => rfl))
  | ((with_reducible refine ro_inS (ds := ?zd) ?zs ?h1 ?h2 ?_); (case zs => walk_at "seq"); (case h1 => rfl); (case h2 => rfl); (try simp only [if_true, if_false, Bool.false_eq_true]))
  | (with_reducible refine ro_isB ?_)
  | (with_reducible refine ro_isN ?_)
  | (with_reducible refine ro_notN ?_)
  | (with_reducible refine ro_notB ?_)
  | (with_reducible refine ro_eqI ?_)
  | (with_reducible refine ro_neI ?_)
  | (with_reducible refine ro_eqB ?_)
  | (with_reducible refine ro_neB ?_)
  | (with_reducible refine rc_intB ?_)
  | (with_reducible refine rc_intI ?_)
  | (with_reducible refine rc_abs ?_)
  | (with_reducible refine rc_min ?_)
  | (with_reducible refine rc_max ?_)
  | ((with_reducible refine rc_len (ds := ?zd) ?zs ?_); (case zs => walk_at "seq"))
  | ((with_reducible refine rc_isi (n := ?zn) (b := ?zb) ?zs ?zk ?_); (case zs => rfl); (case zk => first | rfl | decide +kernel))
  | (with_reducible refine ⟨_, rfl, ?_⟩)
  | ((with_reducible refine ⟨_, _, rfl, ?_⟩); walk_at "nf")
  | ((with_reducible refine ⟨_, _, _, rfl, ?_⟩); walk_at "nf")
  | (refine ⟨Nat.le_of_ble_eq_true rfl, ?_⟩))
local macro_rules | `(tactic| walk_at "go") => `(tactic| repeat (walk_at "z1"))
def top (i : Nat) : Stmt := PySem.Challenge.pw_rubberroutes_k01_fractions_made.main.body.getD i (.Pass ⟨0, 0, 0, 0⟩)
abbrev s_common : Stmt := top 11
abbrev N_common : List Str := ["one", "other"]
theorem sc_common : FnScope N_common ["one", "other"] (defScope s_common) := ⟨rfl, rfl, rfl, by decide +kernel, rfl, by decide +kernel, by decide +kernel⟩
abbrev s_frac : Stmt := top 12
abbrev N_frac : List Str := ["top", "bottom", "sign", "e", "by"]
theorem sc_frac : FnScope N_frac ["top", "bottom"] (defScope s_frac) := ⟨rfl, rfl, rfl, by decide +kernel, rfl, by decide +kernel, by decide +kernel⟩
abbrev s_l_cell_at : Stmt := top 14
abbrev N_l_cell_at : List Str := ["_law_script", "_law_k"]
theorem sc_l_cell_at : FnScope N_l_cell_at ["_law_script", "_law_k"] (defScope s_l_cell_at) := ⟨rfl, rfl, rfl, by decide +kernel, rfl, by decide +kernel, by decide +kernel⟩
abbrev s_l_bag : Stmt := top 15
abbrev N_l_bag : List Str := ["_law_script", "_law_at", "_law_primes", "_law_cell", "_law_mix", "_law_k", "_law_one"]
theorem sc_l_bag : FnScope N_l_bag ["_law_script", "_law_at"] (defScope s_l_bag) := ⟨rfl, rfl, rfl, by decide +kernel, rfl, by decide +kernel, by decide +kernel⟩
abbrev s_l_take : Stmt := top 16
abbrev N_l_take : List Str := ["_law_bag_here", "_law_many", "_law_digit"]
theorem sc_l_take : FnScope N_l_take ["_law_bag_here", "_law_many"] (defScope s_l_take) := ⟨rfl, rfl, rfl, by decide +kernel, rfl, by decide +kernel, by decide +kernel⟩
abbrev s_l_whole : Stmt := top 17
abbrev N_l_whole : List Str := ["_law_thing"]
theorem sc_l_whole : FnScope N_l_whole ["_law_thing"] (defScope s_l_whole) := ⟨rfl, rfl, rfl, by decide +kernel, rfl, by decide +kernel, by decide +kernel⟩
abbrev s_l_low : Stmt := top 18
abbrev N_l_low : List Str := ["_law_one", "_law_other", "_law_least", "_law_by"]
theorem sc_l_low : FnScope N_l_low ["_law_one", "_law_other"] (defScope s_l_low) := ⟨rfl, rfl, rfl, by decide +kernel, rfl, by decide +kernel, by decide +kernel⟩
abbrev s_l_refused : Stmt := top 19
abbrev N_l_refused : List Str := ["_law_one", "e", "_law_others"]
theorem sc_l_refused : FnScope N_l_refused ["_law_one"] (defScope s_l_refused) := ⟨rfl, rfl, rfl, by decide +kernel, rfl, by decide +kernel, by decide +kernel⟩
abbrev s_law : Stmt := top 20
abbrev N_law : List Str := ["_law_script", "_law_k", "_law_bag_here", "_law_numbers", "_law_turn", "_law_most", "_law_one", "_law_other", "_law_told"]
theorem sc_law : FnScope N_law ["_law_script"] (defScope s_law) := ⟨rfl, rfl, rfl, by decide +kernel, rfl, by decide +kernel, by decide +kernel⟩
structure Bs (mg : Str → Option Value) : Prop where
  b_ValueError : mg "ValueError" = none
  b_ZeroDivisionError : mg "ZeroDivisionError" = none
  b_abs : mg "abs" = none
  b_bool : mg "bool" = none
  b_int : mg "int" = none
  b_isinstance : mg "isinstance" = none
  b_len : mg "len" = none
  b_min : mg "min" = none
  b_range : mg "range" = none
  b_tuple : mg "tuple" = none
abbrev xn (mg : Str → Option Value) : Str → Option Value := fun x => if x ∈ (["NoFraction"] : List Str) then mg x else none
theorem xn_at {mg : Str → Option Value} {x : Str} {v : Value} (m : mg x = some v) (h : x ∈ (["NoFraction"] : List Str) := by decide) : xn mg x = some v := by
  unfold xn
  rw [if_pos h]
  exact m
theorem xn_or {mg : Str → Option Value} {x : Str} {c : Value} (h : xn mg x = some c) : (x = "NoFraction" ∧ mg "NoFraction" = some c) := by
  unfold xn at h
  split at h
  · rename_i hm
    simp only [List.mem_cons, List.not_mem_nil, or_false] at hm
    rcases hm with rfl <;> simp [h]
  · cases h
section
variable {P : Program} {w : World} {K : PySem.W.Frag} {mg : Str → Option Value} {base : Heap}
def P_common : PT3 := fun ds μ Φ => ∃ a b : Nat, ds = [.int a, .int b] ∧ Φ (.int (Nat.gcd a b : Nat)) μ
theorem len_common (ds : List D) (μ : M) (Φ : D → M → Prop) (h : P_common ds μ Φ) : ds.length = 2 := by
  obtain ⟨_, _, rfl, _⟩ := h
  rfl
def lowT (x y : Int) : Int := (if y < 0 then -x else x) / (Nat.gcd x.natAbs y.natAbs : Nat)
def lowB (x y : Int) : Int := (if y < 0 then -y else y) / (Nat.gcd x.natAbs y.natAbs : Nat)
def P_frac : PT4 := fun ds μ Φ Ξ => ∃ x y : Int, ds = [.int x, .int y] ∧ Sz 5000 y ∧ (y ≠ 0 → Φ (.tup [.int (lowT x y), .int (lowB x y)]) μ) ∧ (y = 0 → Ξ "NoFraction" none μ)
theorem len_frac (ds : List D) (μ : M) (Φ : D → M → Prop) (Ξ : XW) (h : P_frac ds μ Φ Ξ) : ds.length = 2 := by
  obtain ⟨_, _, rfl, _⟩ := h
  rfl
theorem gcd_turn' {a b : Nat} (h : 0 < b) : Nat.gcd b (a % b) = Nat.gcd a b := by
  rw [Nat.gcd_comm a b, Nat.gcd_rec b a, Nat.gcd_comm]
theorem low_fdiv {x y sg : Int} {g : Nat} (g0 : 0 < g) (h : g ∣ x.natAbs) (hs : (sg = 1 ∧ 0 < y) ∨ (sg = -1 ∧ y < 0)) : x.fdiv ((g : Int) * sg) = (if y < 0 then -x else x) / (g : Int) := by
  have hx : (g : Int) ∣ x := Int.natAbs_dvd_natAbs.mp (by simpa using h)
  obtain ⟨k, hk⟩ := hx
  rcases hs with ⟨rfl, h1⟩ | ⟨rfl, h1⟩
  · rw [if_neg (by omega), hk, Int.mul_one, Int.mul_fdiv_cancel_left _ (by omega), Int.mul_ediv_cancel_left _ (by omega)]
  · rw [if_pos h1, hk, show (g : Int) * k = ((g : Int) * -1) * (-k) by grind, Int.mul_fdiv_cancel_left _ (by omega), show -((g : Int) * -1 * -k) = (g : Int) * (-k) by grind, Int.mul_ediv_cancel_left _ (by omega)]
theorem ok_common {f : Addr} {fd : FuncData} (F : Fun K "common" "common" s_common f fd) (B : Bs mg) : FnOk P w K mg base CX0 1 f fd ["one", "other"] (spI K P_common) := by
  refine F.ok sc_common (fun vs H Q E h => spI_len h len_common) (fun cdv A outer s H vs Q E hr h => ?_)
  have hu65 := hu65_of hr
  refine ⟨_, (pss_cons (ps_while PassesOwn.never (pt_cmpR op_ne (pv 1) pe_int (by first | exact nomark _ | rfl)) (pss_one (ps_par (i := 0) (j := 1) rfl sc_common.nd rfl rfl (by decide) rfl rfl (pa_cons (pv 1) (pa_cons (pe_op op_mod (pv 0) (pv 1)) pa_nil)) (by rfl))))
      (pss_one (ps_ret (pv 0)))), body_ok h (fun ds μ Φ p => ?_)⟩
  (try dsimp only [cxOf, Cx.nox, Cx.wish, List.map_cons, List.map_nil])
  obtain ⟨a, b, rfl, q⟩ := p
  show AS K _ [some _, some _] _ _
  walk_at "go"
  refine s_while (fun m τ' μ' => ∃ l : Nat, Nat.gcd l m = Nat.gcd a b ∧ μ' = μ ∧ τ' = [some (.int (l : Int)), some (.int (m : Int))]) b ?_ ?_
  · exact ⟨a, rfl, rfl, rfl⟩
  · rintro m τ' μ' ⟨l, hg, rfl, rfl⟩
    walk_at "go"
    split
    · rename_i hm
      have hm0 : 0 < m := by
        have : ¬ ((m : Int) = 0) := by simpa using hm
        omega
      walk_at "go"
      refine ⟨l % m, Nat.mod_lt _ hm0, m, by rw [gcd_turn' hm0]; exact hg, ?_⟩
      simp
    · rename_i hm
      have hm0 : m = 0 := by
        have : ((m : Int) = 0) := by simpa using hm
        omega
      subst hm0
      rw [Nat.gcd_zero_right] at hg
      subst hg
      walk_at "go"
      exact q
theorem ok_frac {f : Addr} {fd : FuncData} (F : FunD K "frac" "frac" (defArgs s_frac) (defBody s_frac) (defScope s_frac) [.int 1] [] f fd) (B : Bs mg) {C_NoFraction : Addr} (E_NoFraction : Exc0 K mg "NoFraction" C_NoFraction) (G_common : Def P w K mg base "common" ["one", "other"] 1 (spI K P_common)) : FnOk P w K mg base (L2.CX P w) 2 f fd ["top", "bottom"] (spX K (xn mg) P_frac) := by
  refine F.ok (CX := L2.CX P w) sc_frac (fun vs H Q E h => spX_len h len_frac) (fun cdv A outer s H vs Q E hr h => ?_)
  have hu65 := hu65_of hr
  refine ⟨_, (pss_cons (L2H.ps_try_asX (i := 3) rfl rfl sc_frac.nd rfl rfl ⟨by rfl, by decide, Or.inr ⟨B.b_ZeroDivisionError, rfl, by decide⟩⟩ (fun hd => L2H.passesAt_of rfl hd) (takes_of rfl rfl rfl rfl) (fun W pn xe tk po => (pss_one (ps_set (i := 2) sc_frac.nd rfl (by first | exact Or.inl rfl | exact Or.inr rfl) (pe_fdivZ rfl tk (pv 1) (pe_callB call_abs (by rfl) B.b_abs (by decide +kernel) (pa_cons (pv 1) pa_nil)))))) (fun a oe cls d pn hz hf tk hot => (pss_one (L2H.ps_raiseHE (K := K) (i := 3) (a1 := a) (oe1 := oe) rfl List.mem_cons_self hot hz.1 rfl (by first | exact Or.inl rfl | exact Or.inr (Or.inl rfl)) tk (pmk_e05 E_NoFraction (by rfl))))))
      (pss_cons (ps_set (i := 4) sc_frac.nd rfl (by first | exact Or.inl rfl | exact Or.inr rfl) (pe_op op_mulW (pe_def G_common (hr.mono (by decide)) (by rfl) (pa_cons (pe_callB call_abs (by rfl) B.b_abs (by decide +kernel) (pa_cons (pv 0) pa_nil)) (pa_cons (pe_callB call_abs (by rfl) B.b_abs (by decide +kernel) (pa_cons (pv 1) pa_nil)) pa_nil))) (pv 2)))
      (pss_one (ps_ret (pe_tup (pa_cons (pe_op op_fdivX (pv 0) (pv 4)) (pa_cons (pe_op op_fdivX (pv 1) (pv 4)) pa_nil))))))), body_okX h (fun ds μ Φ Ξ p => ?_)⟩
  (try dsimp only [cxOf, Cx.nox, Cx.wish, List.map_cons, List.map_nil])
  obtain ⟨x, y, rfl, sy, q, qx⟩ := p
  show AS K _ [some _, some _, none, none, none] _ _
  refine s_seq ?_
  refine s_tryAsX (c := .type "ZeroDivisionError") (i := 3) (tb := fun W => tAsg (tFdivZ W (tVar 1) (tCB (fun xs H Q => ∃ i, xs = [V.int i] ∧ Q (V.int (if i < 0 then -i else i)) H) (tCons (tVar 1) tNil))) (gName 2))
    (tu := fun a cls d _ σ H => L2H.RaisesK K cls ∧ σ[3]? = some (some (V.ref a)) ∧ L2H.offW 3 (fun cls d x H => E cls d H) (Value.ref C_NoFraction) none σ H)
    (fun x => if x = "ZeroDivisionError" then some (.type "ZeroDivisionError") else none) (fun _ => true) (fun z cls hz => ?_) fun W => ?_
  · split at hz
    · cases hz
      exact exm_zde
    · cases hz
  refine s_asgX (a_fdivZ (by show (if ("ZeroDivisionError" : Str) = "ZeroDivisionError" then (some (Value.type "ZeroDivisionError") : Option Value) else none) = some (.type "ZeroDivisionError"); exact if_pos rfl) ?_)
  walk_at "go"
  have cd : ∀ i : Int, ∀ j : Int, j ≠ 0 → j.natAbs ≤ y.natAbs → CDivX i j := fun i j h0 h1 => ⟨h0, by
    have : y.natAbs < 2 ^ 5000 := sy
    have h2 : j.natAbs < 2 ^ 5000 := by omega
    have := (Nat.log2_lt (show j.natAbs ≠ 0 by omega)).mpr h2
    omega⟩
  refine ⟨y, _, rfl, rfl, fun hj => ⟨cd _ _ hj (by rw [absn]; omega), ?_⟩, fun hj dx => .inl ⟨rfl, fun a cls hc => ?_⟩⟩
  · rw [absn] at hj
    have hy : y ≠ 0 := by omega
    rw [absn]
    obtain ⟨sg, hsg, hs1⟩ : ∃ sg : Int, y.fdiv (y.natAbs : Int) = sg ∧ ((sg = 1 ∧ 0 < y) ∨ (sg = -1 ∧ y < 0)) := by
      rcases Int.lt_or_gt_of_ne hy with h | h
      · refine ⟨-1, ?_, .inr ⟨rfl, h⟩⟩
        rw [show ((y.natAbs : Nat) : Int) = -y by omega]
        have := Int.mul_fdiv_cancel_left (-1) (show -y ≠ 0 by omega)
        rwa [show -y * -1 = y by omega] at this
      · refine ⟨1, ?_, .inl ⟨rfl, h⟩⟩
        rw [show ((y.natAbs : Nat) : Int) = y by omega, Int.fdiv_self hy]
    rw [hsg]
    walk_at "go"
    refine ⟨x.natAbs, y.natAbs, by rw [absn, absn], ?_⟩
    obtain ⟨g, hg⟩ : ∃ g, g = Nat.gcd x.natAbs y.natAbs := ⟨_, rfl⟩
    have gx : g ∣ x.natAbs := by rw [hg]; exact Nat.gcd_dvd_left _ _
    have gy : g ∣ y.natAbs := by rw [hg]; exact Nat.gcd_dvd_right _ _
    have gle : g ≤ y.natAbs := Nat.le_of_dvd (by omega) gy
    have g0 : 0 < g := Nat.pos_of_dvd_of_pos gy (by omega)
    have fT := low_fdiv (x := x) g0 gx hs1
    have fB := low_fdiv (x := y) g0 gy hs1
    have hm1 : ((g : Int) * sg).natAbs = g := by rcases hs1 with ⟨h, _⟩ | ⟨h, _⟩ <;> rw [h] <;> omega
    have hm0 : (g : Int) * sg ≠ 0 := by intro z; rw [z] at hm1; simp at hm1; omega
    have mul : CMulW (g : Int) sg := mulw_of (a := 5000) (b := 1) (by have : y.natAbs < 2 ^ 5000 := sy; show (g : Int).natAbs < 2 ^ 5000; omega) (sz_1 (by rcases hs1 with ⟨h, _⟩ | ⟨h, _⟩ <;> simp [h])) (by decide)
    have dT := cd x _ hm0 (by omega)
    have dB := cd y _ hm0 (by omega)
    rw [← hg]
    walk_at "go"
    have r := q hy
    unfold lowT lowB at r
    rw [← hg, ← fT, ← fB] at r
    exact r
  · have hy : y = 0 := by rw [absn] at hj; omega
    split at hc
    · cases hc
      exact s_raiseE0 raisesK_zde rfl (xn_at E_NoFraction.mg) (qx hy)
    · cases hc
theorem use_cell {μ : M} {Φ : D → M → Prop} {ns : List Int} {k : Int} (h : 0 ≤ k) (q : ∀ z, Φ (.int z) μ) : P_l_cell_at [.rol (ns.map D.int), .int k] μ Φ := ⟨ns, k, rfl, h, q⟩
theorem use_take {μ : M} {Φ : D → M → Prop} {b : Addr} {n c m : Int} (h : μ b = some (.lst [.int c, .int m])) (hm : BgOk m) (hn : 0 < n) (hz : Sz 4000 n) (q : ∀ d c' m', 0 ≤ d → d < n → Sz 4000 d → BgOk m' → Φ (.int d) (μ.set b (.lst [.int c', .int m']))) : P_l_take [.ref b, .int n] μ Φ := ⟨b, n, c, m, rfl, h, hm, hn, hz, q⟩
theorem prime_at {k : Int} (h0 : 0 ≤ k) (h1 : k < 9) : ∃ p : Int, atI [D.int 99991, D.int 99971, D.int 99961, D.int 99929, D.int 99923, D.int 99907, D.int 99901, D.int 99881, D.int 99877] k = some (.int p) ∧ 0 < p := by
  have h : k = 0 ∨ k = 1 ∨ k = 2 ∨ k = 3 ∨ k = 4 ∨ k = 5 ∨ k = 6 ∨ k = 7 ∨ k = 8 := by omega
  rcases h with h | h | h | h | h | h | h | h | h <;> subst h <;> exact ⟨_, rfl, by decide⟩
theorem ok_l_cell_at {f : Addr} {fd : FuncData} (F : Fun K "_law_cell_at" "_law_cell_at" s_l_cell_at f fd) (B : Bs mg) : FnOk P w K mg base CX0 1 f fd ["_law_script", "_law_k"] (spI K P_l_cell_at) := by
  refine F.ok sc_l_cell_at (fun vs H Q E h => spI_len h len_l_cell_at) (fun cdv A outer s H vs Q E hr h => ?_)
  have hu65 := hu65_of hr
  refine ⟨_, (pss_cons (ps_if (pt_cmpR op_lt (pv 1) (pe_callB (call_lenK (K := K) rfl) (by rfl) B.b_len (by decide +kernel) (pa_cons (pv 0) pa_nil)) (by first | exact nomark _ | rfl)) (pss_one (ps_ret (pe_ix (ix_seqK (K := K) rfl) (pv 0) (pv 1) (fun _ _ => rfl)))) pss_nil)
      (pss_one (ps_ret pe_int))), body_ok h (fun ds μ Φ p => ?_)⟩
  (try dsimp only [cxOf, Cx.nox, Cx.wish, List.map_cons, List.map_nil])
  obtain ⟨ns, k, rfl, h0, q⟩ := p
  show AS K _ [some _, some _] _ _
  walk_at "go"
  refine ite_d (fun h => ?_) (fun h => ?_)
  · obtain ⟨z, hz⟩ := map_get (ns := ns) h0 (by simpa using h)
    walk_at "go"
    refine ro_ix rfl hz ?_
    exact q z
  · walk_at "go"
    exact q 0
theorem ok_l_bag {f : Addr} {fd : FuncData} (F : Fun K "_law_bag" "_law_bag" s_l_bag f fd) (B : Bs mg) (G_l_cell_at : Def P w K mg base "_law_cell_at" ["_law_script", "_law_k"] 1 (spI K P_l_cell_at)) : FnOk P w K mg base CX0 2 f fd ["_law_script", "_law_at"] (spI K P_l_bag) := by
  refine F.ok sc_l_bag (fun vs H Q E h => spI_len h len_l_bag) (fun cdv A outer s H vs Q E hr h => ?_)
  have hu65 := hu65_of hr
  refine ⟨_, (pss_cons (ps_set (i := 2) sc_l_bag.nd rfl (by first | exact Or.inl rfl | exact Or.inr rfl) (pe_tup (pa_cons pe_int (pa_cons pe_int (pa_cons pe_int (pa_cons pe_int (pa_cons pe_int (pa_cons pe_int (pa_cons pe_int (pa_cons pe_int (pa_cons pe_int pa_nil)))))))))))
      (pss_cons (ps_set (i := 3) sc_l_bag.nd rfl (by first | exact Or.inl rfl | exact Or.inr rfl) (pe_def G_l_cell_at (hr.mono (by decide)) (by rfl) (pa_cons (pv 0) (pa_cons (pv 1) pa_nil))))
      (pss_cons (ps_set (i := 4) sc_l_bag.nd rfl (by first | exact Or.inl rfl | exact Or.inr rfl) (pe_op op_add (pe_op op_mulW pe_int (pv 1)) pe_int))
      (pss_cons (ps_for PassesOwn.never rfl (pi_range1 (by rfl) B.b_range (pa_cons pe_int pa_nil)) (pg_name (i := 5) sc_l_bag.nd rfl (by first | exact Or.inl rfl | exact Or.inr rfl))
      (pss_cons (ps_set (i := 6) sc_l_bag.nd rfl (by first | exact Or.inl rfl | exact Or.inr rfl) (pe_op op_add (pe_op op_add (pe_op op_mod (pe_def G_l_cell_at (hr.mono (by decide)) (by rfl) (pa_cons (pv 0) (pa_cons (pe_op op_add (pv 1) (pv 5)) pa_nil))) (pe_op op_pow pe_int pe_int)) (pe_op op_mulW pe_int (pv 5))) pe_int))
      (pss_one (ps_set (i := 4) sc_l_bag.nd rfl (by first | exact Or.inl rfl | exact Or.inr rfl) (pe_op op_mod (pe_op op_add (pe_op op_mulW (pv 4) pe_int) (pe_op op_mod (pe_op op_pow (pv 6) pe_int) (pe_ix (ix_seqK (K := K) rfl) (pv 2) (pv 5) (fun _ _ => rfl)))) pe_int)))))
      (pss_cons (ps_if (pt_cmpR op_lt (pv 3) (pe_op op_pow pe_int pe_int) (by first | exact nomark _ | rfl)) (pss_one (ps_set (i := 3) sc_l_bag.nd rfl (by first | exact Or.inl rfl | exact Or.inr rfl) pe_int)) pss_nil)
      (pss_one (ps_ret (pe_lst (pa_cons (pv 3) (pa_cons (pe_op op_add (pv 4) pe_int) pa_nil)))))))))), body_ok h (fun ds μ Φ p => ?_)⟩
  (try dsimp only [cxOf, Cx.nox, Cx.wish, List.map_cons, List.map_nil])
  obtain ⟨ns, k, rfl, h0, h1, q⟩ := p
  show AS K _ [some _, some _, none, none, none, none, none] _ _
  have sk : Sz 31 k := by unfold Sz; omega
  walk_at "go"
  refine use_cell h0 fun cell => ?_
  walk_at "go"
  refine s_for1 9 (fun i τ' μ' => μ' = μ ∧ ∃ (mix : Int) (o5 o6 : Option D), τ' = [some (.rol (ns.map D.int)), some (.int k), some (.tup [D.int 99991, D.int 99971, D.int 99961, D.int 99929, D.int 99923, D.int 99907, D.int 99901, D.int 99881, D.int 99877]), some (.int cell), some (.int mix), o5, o6] ∧ 0 ≤ mix ∧ mix < 2147483629) ?_ ?_ ?_
  · walk_at "go"
    exact ⟨rfl, by decide, by decide, rfl, 7919 * k + 29, none, none, rfl, by omega, by omega⟩
  · rintro i τ' μ' hi ⟨rfl, mix, o5, o6, rfl, m0, m1⟩
    have sm : Sz 31 mix := by unfold Sz; omega
    have si : Sz 31 (i : Int) := by unfold Sz; omega
    obtain ⟨pr, hp, hp0⟩ := prime_at (k := (i : Int)) (by omega) hi
    walk_at "go"
    refine use_cell (by omega) fun z => ?_
    walk_at "go"
    refine ro_ix rfl hp ?_
    walk_at "go"
    exact ⟨rfl, _, _, _, rfl, Int.emod_nonneg _ (by decide), Int.emod_lt_of_pos _ (by decide)⟩
  · rintro τ' μ' ⟨rfl, mix, o5, o6, rfl, m0, m1⟩
    walk_at "go"
    refine ite_d (fun h => ?_) (fun h => ?_)
    · walk_at "go"
      exact fun a ha => q a _ _ ha ⟨by omega, by omega⟩
    · walk_at "go"
      exact fun a ha => q a _ _ ha ⟨by omega, by omega⟩
theorem ok_l_take {f : Addr} {fd : FuncData} (F : Fun K "_law_take" "_law_take" s_l_take f fd) (B : Bs mg) : FnOk P w K mg base CX0 1 f fd ["_law_bag_here", "_law_many"] (spI K P_l_take) := by
  refine F.ok sc_l_take (fun vs H Q E h => spI_len h len_l_take) (fun cdv A outer s H vs Q E hr h => ?_)
  have hu65 := hu65_of hr
  refine ⟨_, (pss_cons (ps_if (pt_cmpR op_gt (pe_ix (ix_seqK (K := K) rfl) (pv 0) pe_int (fun _ _ => rfl)) pe_int (by first | exact nomark _ | rfl)) (pss_cons (ps_set (i := 2) sc_l_take.nd rfl (by first | exact Or.inl rfl | exact Or.inr rfl) (pe_op op_mod (pe_ix (ix_seqK (K := K) rfl) (pv 0) pe_int (fun _ _ => rfl)) (pv 1)))
      (pss_cons (ps_asg (pe_op op_fdivW (pe_ix (ix_seqK (K := K) rfl) (pv 0) pe_int (fun _ _ => rfl)) (pv 1)) (pg_sub (pv 0) pe_int set_list))
      (pss_one (ps_ret (pv 2))))) pss_nil)
      (pss_cons (ps_asg (pe_op op_mod (pe_op op_mulW (pe_ix (ix_seqK (K := K) rfl) (pv 0) pe_int (fun _ _ => rfl)) pe_int) pe_int) (pg_sub (pv 0) pe_int set_list))
      (pss_one (ps_ret (pe_op op_mod (pe_op op_mod (pe_op op_mod (pe_op op_pow (pe_ix (ix_seqK (K := K) rfl) (pv 0) pe_int (fun _ _ => rfl)) pe_int) pe_int) pe_int) (pv 1)))))), body_ok h (fun ds μ Φ p => ?_)⟩
  (try dsimp only [cxOf, Cx.nox, Cx.wish, List.map_cons, List.map_nil])
  obtain ⟨b, n, c, m, rfl, hb, hm, hn, hz, q⟩ := p
  show AS K _ [some _, some _, none] _ _
  have sm : Sz 31 m := by unfold Sz; have := hm.1; have := hm.2; omega
  walk_at "go"
  refine ite_d (fun h => ?_) (fun h => ?_)
  · walk_at "go"
    exact q _ _ _ (Int.emod_nonneg _ (by omega)) (Int.emod_lt_of_pos _ hn) (sz_mod hn hz) hm
  · walk_at "go"
    exact q _ _ _ (Int.emod_nonneg _ (by omega)) (Int.emod_lt_of_pos _ hn) (sz_mod hn hz) ⟨Int.emod_nonneg _ (by decide), by have := Int.emod_lt_of_pos (m * 48271) (show (0 : Int) < 2147483647 by decide); omega⟩
def P_l_whole : PT3 := fun ds μ Φ => ∃ n : Int, ds = [.int n] ∧ Φ (.bl true) μ
theorem len_l_whole (ds : List D) (μ : M) (Φ : D → M → Prop) (h : P_l_whole ds μ Φ) : ds.length = 1 := by
  obtain ⟨_, rfl, _⟩ := h
  rfl
def P_l_low : PT3 := fun ds μ Φ => ∃ x y : Int, ds = [.int x, .int y] ∧ Sz 5000 y ∧ y ≠ 0 ∧ Φ (.tup [.int (lowT x y), .int (lowB x y)]) μ
theorem len_l_low (ds : List D) (μ : M) (Φ : D → M → Prop) (h : P_l_low ds μ Φ) : ds.length = 2 := by
  obtain ⟨_, _, rfl, _⟩ := h
  rfl
theorem a_cref {K : PySem.W.Frag} {τ : T} {μ : M} {Φ : D → M → Prop} {a : Addr} (h : Φ (.ref a) μ) : AE K (tC (.ref a)) τ μ Φ := fun σ H s c Q k => k (.ref a) μ _ H Fr.refl c (.ref a) h
theorem lowT_one (x : Int) : lowT x 1 = x := by
  unfold lowT
  rw [if_neg (by decide), show Nat.gcd x.natAbs (1 : Int).natAbs = 1 from Nat.gcd_one_right _]
  omega
theorem lowB_one (x : Int) : lowB x 1 = 1 := by
  unfold lowB
  rw [if_neg (by decide), show Nat.gcd x.natAbs (1 : Int).natAbs = 1 from Nat.gcd_one_right _]
  rfl
theorem sz_one5 : Sz 5000 1 := Nat.one_lt_two_pow (by decide)
def P_l_refused : PT3 := fun ds μ Φ => ∃ x : Int, ds = [.int x] ∧ Φ (.bl true) μ
theorem len_l_refused (ds : List D) (μ : M) (Φ : D → M → Prop) (h : P_l_refused ds μ Φ) : ds.length = 1 := by
  obtain ⟨_, rfl, _⟩ := h
  rfl
theorem use_bag {μ : M} {Φ : D → M → Prop} {ns : List Int} {k : Int} (h0 : 0 ≤ k) (h1 : k ≤ 1000) (q : ∀ p c m, μ p = none → BgOk m → Φ (.ref p) (μ.set p (.lst [.int c, .int m]))) : P_l_bag [.rol (ns.map D.int), .int k] μ Φ := ⟨ns, k, rfl, h0, h1, q⟩
theorem menu {d : Int} (h0 : 0 ≤ d) (h1 : d < 4) : ∃ z : Int, atI [D.int 3, D.int 10, D.int 1000, D.int 1000000000000000000000000000000] d = some (.int z) ∧ 0 < z ∧ Sz 128 z := by
  have h : d = 0 ∨ d = 1 ∨ d = 2 ∨ d = 3 := by omega
  rcases h with h | h | h | h <;> subst h <;> exact ⟨_, rfl, by decide, by decide⟩
theorem ok_l_whole {f : Addr} {fd : FuncData} (F : Fun K "_law_whole" "_law_whole" s_l_whole f fd) (B : Bs mg) : FnOk P w K mg base CX0 1 f fd ["_law_thing"] (spI K P_l_whole) := by
  refine F.ok sc_l_whole (fun vs H Q E h => spI_len h len_l_whole) (fun cdv A outer s H vs Q E hr h => ?_)
  have hu65 := hu65_of hr
  refine ⟨_, (pss_one (ps_ret (pe_and (pe_callB (call_isiK1 (K := K) rfl) (by rfl) B.b_isinstance (by decide +kernel) (pa_cons (pv 0) (pa_cons (pe_bltn (v := .ty "int") (by rfl) B.b_int (by decide +kernel) rfl) pa_nil))) (pe_one (pe_not (pe_callB (call_isiK1 (K := K) rfl) (by rfl) B.b_isinstance (by decide +kernel) (pa_cons (pv 0) (pa_cons (pe_bltn (v := .ty "bool") (by rfl) B.b_bool (by decide +kernel) rfl) pa_nil)))))))), body_ok h (fun ds μ Φ p => ?_)⟩
  (try dsimp only [cxOf, Cx.nox, Cx.wish, List.map_cons, List.map_nil])
  obtain ⟨n, rfl, q⟩ := p
  show AS K _ [some _] _ _
  walk_at "go"
  exact q
theorem ok_l_low {f : Addr} {fd : FuncData} (F : Fun K "_law_low" "_law_low" s_l_low f fd) (B : Bs mg) : FnOk P w K mg base CX0 1 f fd ["_law_one", "_law_other"] (spI K P_l_low) := by
  refine F.ok sc_l_low (fun vs H Q E h => spI_len h len_l_low) (fun cdv A outer s H vs Q E hr h => ?_)
  have hu65 := hu65_of hr
  refine ⟨_, (pss_cons (ps_if (pt_cmpR op_lt (pv 1) pe_int (by first | exact nomark _ | rfl)) (pss_one (ps_par (i := 0) (j := 1) rfl sc_l_low.nd rfl rfl (by decide) rfl rfl (pa_cons (pe_op op_sub pe_int (pv 0)) (pa_cons (pe_op op_sub pe_int (pv 1)) pa_nil)) (by rfl))) pss_nil)
      (pss_cons (ps_par (i := 2) (j := 3) rfl sc_l_low.nd rfl rfl (by decide) rfl rfl (pa_cons (pe_callB call_abs (by rfl) B.b_abs (by decide +kernel) (pa_cons (pv 0) pa_nil)) (pa_cons (pv 1) pa_nil)) (by rfl))
      (pss_cons (ps_while PassesOwn.never (pt_cmpR op_gt (pv 2) pe_int (by first | exact nomark _ | rfl)) (pss_one (ps_par (i := 2) (j := 3) rfl sc_l_low.nd rfl rfl (by decide) rfl rfl (pa_cons (pe_op op_mod (pv 3) (pv 2)) (pa_cons (pv 2) pa_nil)) (by rfl))))
      (pss_one (ps_ret (pe_tup (pa_cons (pe_op op_fdivW (pv 0) (pv 3)) (pa_cons (pe_op op_fdivW (pv 1) (pv 3)) pa_nil)))))))), body_ok h (fun ds μ Φ p => ?_)⟩
  (try dsimp only [cxOf, Cx.nox, Cx.wish, List.map_cons, List.map_nil])
  obtain ⟨x, y, rfl, sy, hy, q⟩ := p
  show AS K _ [some _, some _, none, none] _ _
  walk_at "go"
  refine if_cut (fun τ' μ' => μ' = μ ∧ τ' = [some (.int (if y < 0 then -x else x)), some (.int (y.natAbs : Int)), none, none]) (fun h => ?_) (fun h => ?_) ?_
  · walk_at "go"
    have hy0 : y < 0 := by simpa using h
    refine ⟨trivial, ?_⟩
    rw [if_pos hy0, show 0 - x = -x by omega, show 0 - y = (y.natAbs : Int) by omega]
  · walk_at "go"
    have hy0 : ¬ y < 0 := by simpa using h
    refine ⟨rfl, ?_⟩
    rw [if_neg hy0, show (y.natAbs : Int) = y by omega]
  rintro τ' μ' ⟨rfl, rfl⟩
  dsimp only
  walk_at "go"
  refine s_while (fun m τ' μ'' => ∃ b : Nat, 0 < b ∧ Nat.gcd m b = Nat.gcd x.natAbs y.natAbs ∧ μ'' = μ' ∧ τ' = [some (.int (if y < 0 then -x else x)), some (.int (y.natAbs : Int)), some (.int (m : Int)), some (.int (b : Int))]) x.natAbs ?_ ?_
  · refine ⟨y.natAbs, by omega, rfl, rfl, ?_⟩
    have e : (if (if y < 0 then -x else x) < 0 then -if y < 0 then -x else x else if y < 0 then -x else x) = ((x.natAbs : Nat) : Int) := by split <;> split <;> omega
    rw [e]
  · rintro m τ' μ'' ⟨b, hb, hg, rfl, rfl⟩
    walk_at "go"
    refine ite_d (fun hl => ?_) (fun hl => ?_)
    · walk_at "go"
      refine ⟨b % m, Nat.mod_lt _ (by omega), m, by omega, by rw [← hg, Nat.gcd_comm m b, Nat.gcd_comm (b % m) m]; exact gcd_turn' (by omega), ?_⟩
      simp
    · have e : m = 0 := by omega
      subst e
      rw [Nat.gcd_zero_left] at hg
      have hle : b ≤ y.natAbs := Nat.le_of_dvd (by omega) (by rw [hg]; exact Nat.gcd_dvd_right _ _)
      have sb : Sz 5000 (b : Int) := by
        have : y.natAbs < 2 ^ 5000 := sy
        show (b : Int).natAbs < 2 ^ 5000
        omega
      have c1 : ∀ i : Int, CDivW i (b : Int) := fun i => divw_of (by omega) sb (by omega)
      have c2 := c1 (if y < 0 then -x else x)
      have c3 := c1 (y.natAbs : Int)
      unfold lowT lowB at q
      rw [← hg, absn] at q
      walk_at "go"
      exact q
theorem ok_l_refused {f : Addr} {fd : FuncData} (F : Fun K "_law_refused" "_law_refused" s_l_refused f fd) (B : Bs mg) {C_NoFraction : Addr} (E_NoFraction : Exc0 K mg "NoFraction" C_NoFraction) (H_NoFraction_NoFraction : PySem.W.exmOne K (.ref C_NoFraction) (.ref C_NoFraction) = some true) (X_NoFraction : ExcC K C_NoFraction) {C_BoardError : Addr} (V_BoardError : Cst mg "BoardError" (.ref C_BoardError)) {C_Crossed : Addr} (V_Crossed : Cst mg "Crossed" (.ref C_Crossed)) {C_NoBoard : Addr} (V_NoBoard : Cst mg "NoBoard" (.ref C_NoBoard)) {C_NoGate : Addr} (V_NoGate : Cst mg "NoGate" (.ref C_NoGate)) {C_NoLine : Addr} (V_NoLine : Cst mg "NoLine" (.ref C_NoLine)) {C_NoNet : Addr} (V_NoNet : Cst mg "NoNet" (.ref C_NoNet)) {C_NoPin : Addr} (V_NoPin : Cst mg "NoPin" (.ref C_NoPin)) {C_NoRoom : Addr} (V_NoRoom : Cst mg "NoRoom" (.ref C_NoRoom)) (Q_NoFraction_BoardError : PySem.W.kitOne K (.ref C_NoFraction) (.ref C_BoardError) = some true) (Q_NoFraction_Crossed : PySem.W.kitOne K (.ref C_NoFraction) (.ref C_Crossed) = some false) (Q_NoFraction_NoBoard : PySem.W.kitOne K (.ref C_NoFraction) (.ref C_NoBoard) = some false) (Q_NoFraction_NoGate : PySem.W.kitOne K (.ref C_NoFraction) (.ref C_NoGate) = some false) (Q_NoFraction_NoLine : PySem.W.kitOne K (.ref C_NoFraction) (.ref C_NoLine) = some false) (Q_NoFraction_NoNet : PySem.W.kitOne K (.ref C_NoFraction) (.ref C_NoNet) = some false) (Q_NoFraction_NoPin : PySem.W.kitOne K (.ref C_NoFraction) (.ref C_NoPin) = some false) (Q_NoFraction_NoRoom : PySem.W.kitOne K (.ref C_NoFraction) (.ref C_NoRoom) = some false) (Q_NoFraction_ValueError : PySem.W.kitOne K (.ref C_NoFraction) (.type "ValueError") = some true) (G_frac : DefX P w K mg base "frac" ["top", "bottom"] 2 (spX K (xn mg) P_frac)) : FnOk P w K mg base CX0 3 f fd ["_law_one"] (spI K P_l_refused) := by
  refine F.ok sc_l_refused (fun vs H Q E h => spI_len h len_l_refused) (fun cdv A outer s H vs Q E hr h => ?_)
  have hu65 := hu65_of hr
  refine ⟨_, (pss_cons (ps_try_as (i := 1) rfl rfl sc_l_refused.nd rfl rfl ⟨by rfl, by decide, Or.inl E_NoFraction.mg⟩ takes0 (fun W pn xe tk po => (pss_one (ps_expr (pe_defX tk G_frac (hr.mono (by decide)) (by rfl) (pa_cons (pv 0) (pa_cons pe_int pa_nil)))))) (fun a oe cls d pn hz hf => (pss_cons (ps_set (i := 2) sc_l_refused.nd rfl (by first | exact Or.inl rfl | exact Or.inr rfl) (pe_callB (call_isX (K := K) rfl hz hf) (by rfl) B.b_isinstance (by decide +kernel) (pa_cons (pv 1) (pa_cons (pe_tup (pa_cons (pe_cst V_Crossed (by rfl)) (pa_cons (pe_cst V_NoBoard (by rfl)) (pa_cons (pe_cst V_NoGate (by rfl)) (pa_cons (pe_cst V_NoLine (by rfl)) (pa_cons (pe_cst V_NoNet (by rfl)) (pa_cons (pe_cst V_NoPin (by rfl)) (pa_cons (pe_cst V_NoRoom (by rfl)) pa_nil)))))))) pa_nil))))
      (pss_one (ps_ret (pe_and (pe_callB (call_isX (K := K) rfl hz hf) (by rfl) B.b_isinstance (by decide +kernel) (pa_cons (pv 1) (pa_cons (pe_cst V_BoardError (by rfl)) pa_nil))) (pe_and (pe_callB (call_isX (K := K) rfl hz hf) (by rfl) B.b_isinstance (by decide +kernel) (pa_cons (pv 1) (pa_cons (pe_bltn (v := .ty "ValueError") (by rfl) B.b_ValueError (by decide +kernel) rfl) pa_nil))) (pe_one (pe_not (pv 2))))))))))
      (pss_one (ps_ret pe_bl))), body_ok h (fun ds μ Φ p => ?_)⟩
  (try dsimp only [cxOf, Cx.nox, Cx.wish, List.map_cons, List.map_nil])
  obtain ⟨x, rfl, q⟩ := p
  show AS K _ [some _, none, none] _ _
  refine s_seq ?_
  refine s_tryAs (xn mg) (tb := fun W => tDrop (tCallS (spX K (xn mg) P_frac) (WE W) (tCons (tVar 0) (tCons (tC (V.int 0)) tNil)))) (fun x => x == "NoFraction") (fun z cls hz => ?_) fun W => ?_
  · obtain ⟨rfl, e⟩ := xn_or hz
    cases E_NoFraction.mg.symm.trans e
    exact H_NoFraction_NoFraction
  refine s_dropX (x_call ?_)
  walk_at "go"
  refine ⟨x, 0, rfl, by show (0 : Nat) < _; exact Nat.two_pow_pos _, fun h => absurd rfl h, fun _ => .inl ⟨rfl, fun a cls hc => ?_⟩⟩
  have ec : cls = .ref C_NoFraction := by
    obtain ⟨_, e⟩ := xn_or hc
    exact (Option.some.inj (E_NoFraction.mg.symm.trans e)).symm
  subst ec
  walk_at "go"
  iterate 7 (refine a_cref ?_; walk_at "go")
  refine rc_isXt [C_Crossed, C_NoBoard, C_NoGate, C_NoLine, C_NoNet, C_NoPin, C_NoRoom] rfl rfl X_NoFraction (b := false) ?_ ?_
  · refine kitAny_cons Q_NoFraction_Crossed (fun _ => kitAny_cons Q_NoFraction_NoBoard (fun _ => kitAny_cons Q_NoFraction_NoGate (fun _ => kitAny_cons Q_NoFraction_NoLine (fun _ => kitAny_cons Q_NoFraction_NoNet (fun _ => kitAny_cons Q_NoFraction_NoPin (fun _ => kitAny_cons Q_NoFraction_NoRoom (fun _ => kitAny_nil) ?_) ?_) ?_) ?_) ?_) ?_) ?_ <;> exact fun z => nomatch z
  walk_at "go"
  refine a_cref ?_
  walk_at "go"
  refine rc_isX1 rfl rfl X_NoFraction Q_NoFraction_BoardError ?_
  walk_at "go"
  refine rc_isXb rfl rfl X_NoFraction Q_NoFraction_ValueError ?_
  walk_at "go"
  exact q
theorem ok_law {f : Addr} {fd : FuncData} (F : Fun K "law" "law" s_law f fd) (B : Bs mg) (G_l_bag : Def P w K mg base "_law_bag" ["_law_script", "_law_at"] 2 (spI K P_l_bag)) (G_l_low : Def P w K mg base "_law_low" ["_law_one", "_law_other"] 1 (spI K P_l_low)) (G_l_refused : Def P w K mg base "_law_refused" ["_law_one"] 3 (spI K P_l_refused)) (G_l_take : Def P w K mg base "_law_take" ["_law_bag_here", "_law_many"] 1 (spI K P_l_take)) (G_l_whole : Def P w K mg base "_law_whole" ["_law_thing"] 1 (spI K P_l_whole)) (G_frac : DefX P w K mg base "frac" ["top", "bottom"] 2 (spX K (xn mg) P_frac)) (N_frac_0_bottom_top : DefN P w K mg base "frac" ["top", "bottom"] 0 ["bottom", "top"] [(true, 1), (true, 0)] [.int 1] 2 (spX K (xn mg) P_frac)) (N_frac_1 : DefN P w K mg base "frac" ["top", "bottom"] 1 [] [(false, 0)] [.int 1] 2 (spX K (xn mg) P_frac)) (N_frac_1_bottom : DefN P w K mg base "frac" ["top", "bottom"] 1 ["bottom"] [(true, 0)] [.int 1] 2 (spX K (xn mg) P_frac)) : FnOk P w K mg base CX0 4 f fd ["_law_script"] (spI K P_law) := by
  refine F.ok sc_law (fun vs H Q E h => spI_len h len_law) (fun cdv A outer s H vs Q E hr h => ?_)
  have hu65 := hu65_of hr
  refine ⟨_, (pss_cons (ps_for PassesOwn.never rfl (pi_range1 (by rfl) B.b_range (pa_cons (pe_op op_add pe_int (pe_callB (call_min2 rfl) (by rfl) B.b_min (by decide +kernel) (pa_cons pe_int (pa_cons (pe_callB (call_lenK (K := K) rfl) (by rfl) B.b_len (by decide +kernel) (pa_cons (pv 0) pa_nil)) pa_nil)))) pa_nil)) (pg_name (i := 1) sc_law.nd rfl (by first | exact Or.inl rfl | exact Or.inr rfl))
      (pss_cons (ps_set (i := 2) sc_law.nd rfl (by first | exact Or.inl rfl | exact Or.inr rfl) (pe_def G_l_bag (hr.mono (by decide)) (by rfl) (pa_cons (pv 0) (pa_cons (pv 1) pa_nil))))
      (pss_cons (ps_set (i := 3) sc_law.nd rfl (by first | exact Or.inl rfl | exact Or.inr rfl) (pe_lst pa_nil))
      (pss_cons (ps_for PassesOwn.never rfl (pi_range1 (by rfl) B.b_range (pa_cons pe_int pa_nil)) (pg_name (i := 4) sc_law.nd rfl (by first | exact Or.inl rfl | exact Or.inr rfl))
      (pss_cons (ps_set (i := 5) sc_law.nd rfl (by first | exact Or.inl rfl | exact Or.inr rfl) (pe_ix (ix_seqK (K := K) rfl) (pe_lst (pa_cons pe_int (pa_cons pe_int (pa_cons pe_int (pa_cons (pe_op op_pow pe_int pe_int) pa_nil))))) (pe_def G_l_take (hr.mono (by decide)) (by rfl) (pa_cons (pv 2) (pa_cons pe_int pa_nil))) (fun _ _ => rfl)))
      (pss_one (ps_expr (pe_bm PySem.F.plainAttrs_list PySem.F.slot_list_append PySem.F.type_list_append mt_append (pv 3) (pa_cons (pe_op op_mulW (pe_def G_l_take (hr.mono (by decide)) (by rfl) (pa_cons (pv 2) (pa_cons (pv 5) pa_nil))) (pe_op op_sub pe_int (pe_op op_mulW pe_int (pe_def G_l_take (hr.mono (by decide)) (by rfl) (pa_cons (pv 2) (pa_cons pe_int pa_nil)))))) pa_nil))))))
      (pss_cons (ps_asg (pv 3) (pg_lst (by rfl) (pgs_cons (pg_name (i := 6) sc_law.nd rfl (by first | exact Or.inl rfl | exact Or.inr rfl)) (pgs_cons (pg_name (i := 7) sc_law.nd rfl (by first | exact Or.inl rfl | exact Or.inr rfl)) pgs_nil))))
      (pss_cons (ps_if (PW.pt (pw_or (pt_not (pt_val (pe_def G_l_refused (hr.mono (by decide)) (by rfl) (pa_cons (pv 6) pa_nil)))) (pw_or (pt_cmpR (op_neDK (K := K) rfl hr.units) (pe_defK N_frac_1 (hr.mono (by decide)) (by rfl) (pa_cons (pv 6) pa_nil) pk_nil) (pe_tup (pa_cons (pv 6) (pa_cons pe_int pa_nil))) (by first | exact nomark _ | rfl)) (pw_or1 (pt_cmpR (op_neDK (K := K) rfl hr.units) (pe_defK N_frac_1_bottom (hr.mono (by decide)) (by rfl) (pa_cons (pv 6) pa_nil) (pk_cons pe_int pk_nil)) (pe_tup (pa_cons (pv 6) (pa_cons pe_int pa_nil))) (by first | exact nomark _ | rfl)))))) (pss_one (ps_ret pe_bl)) pss_nil)
      (pss_one (ps_if (pt_cmpR op_ne (pv 7) pe_int (by first | exact nomark _ | rfl)) (pss_cons (ps_set (i := 8) sc_law.nd rfl (by first | exact Or.inl rfl | exact Or.inr rfl) (pe_defN G_frac (hr.mono (by decide)) (by rfl) (pa_cons (pv 6) (pa_cons (pv 7) pa_nil))))
      (pss_cons (ps_if (PW.pt (pw_or (pt_cmpR (op_neDK (K := K) rfl hr.units) (pv 8) (pe_def G_l_low (hr.mono (by decide)) (by rfl) (pa_cons (pv 6) (pa_cons (pv 7) pa_nil))) (by first | exact nomark _ | rfl)) (pw_or (pt_not (pt_val (pe_callB (call_isiK1 (K := K) rfl) (by rfl) B.b_isinstance (by decide +kernel) (pa_cons (pv 8) (pa_cons (pe_bltn (v := .ty "tuple") (by rfl) B.b_tuple (by decide +kernel) rfl) pa_nil))))) (pw_or1 (pt_cmpR (op_neDK (K := K) rfl hr.units) (pe_defK0 N_frac_0_bottom_top (hr.mono (by decide)) (by rfl) (pk_cons (pv 7) (pk_cons (pv 6) pk_nil))) (pv 8) (by first | exact nomark _ | rfl)))))) (pss_one (ps_ret pe_bl)) pss_nil)
      (pss_one (ps_if (PW.pt (pw_or (pt_not (pt_val (pe_def G_l_whole (hr.mono (by decide)) (by rfl) (pa_cons (pe_ix (ix_seqK (K := K) rfl) (pv 8) pe_int (fun _ _ => rfl)) pa_nil)))) (pw_or1 (pt_not (pt_val (pe_def G_l_whole (hr.mono (by decide)) (by rfl) (pa_cons (pe_ix (ix_seqK (K := K) rfl) (pv 8) pe_int (fun _ _ => rfl)) pa_nil))))))) (pss_one (ps_ret pe_bl)) pss_nil)))) pss_nil))))))))
      (pss_one (ps_ret pe_bl))), body_ok h (fun ds μ Φ p => ?_)⟩
  (try dsimp only [cxOf, Cx.nox, Cx.wish, List.map_cons, List.map_nil])
  obtain ⟨ns, rfl, hl, q⟩ := p
  show AS K _ [some _, none, none, none, none, none, none, none, none] _ _
  walk_at "go"
  refine s_for1 (1 + if ((ns.map D.int).length : Int) < 6 then ((ns.map D.int).length : Int) else 6) (fun i τ' μ' => ∃ o1 o2 o3 o4 o5 o6 o7 o8 : Option D, τ' = [some (.rol (ns.map D.int)), o1, o2, o3, o4, o5, o6, o7, o8]) ?h ?hs ?hd
  case h =>
    walk_at "go"
    refine ⟨rfl, ?_, ?_, ?_⟩
    · split <;> omega
    · split <;> omega
    · exact ⟨_, _, _, _, _, _, _, _, rfl⟩
  case hd =>
    rintro τ' μ' ⟨o1, o2, o3, o4, o5, o6, o7, o8, rfl⟩
    walk_at "go"
    exact q _
  case hs =>
    rintro i τ' μ' hi ⟨o1, o2, o3, o4, o5, o6, o7, o8, rfl⟩
    have hi6 : (i : Int) ≤ 6 := by split at hi <;> omega
    walk_at "go"
    refine use_bag (by omega) (by omega) fun b c m hb hm => ?_
    walk_at "go"
    intro l hl0
    have hlb : l ≠ b := fun z => by subst z; rw [set_same] at hl0; cases hl0
    walk_at "go"
    refine s_for1 2 (fun j τ' μ2 => ∃ (c m : Int) (zs : List Int) (o4 o5 : Option D), zs.length = j ∧ (∀ z ∈ zs, Sz 4500 z) ∧ BgOk m ∧ μ2 b = some (.lst [.int c, .int m]) ∧ μ2 l = some (.lst (zs.map D.int)) ∧ τ' = [some (D.rol (List.map D.int ns)), some (D.int i), some (D.ref b), some (D.ref l), o4, o5, o6, o7, o8]) ?_ ?_ ?_
    · walk_at "go"
      refine ⟨rfl, by decide, by decide, c, m, [], _, _, rfl, by simp, hm, ?_, ?_, rfl⟩
      · walk_at "mu"
      · walk_at "mu"
    · rintro j τ2 μ2 hj ⟨c1, m1, zs, p4, p5, lz, sz, hm1, hb1, hl1, rfl⟩
      have hbt : ∀ t, μ2 t = none → b ≠ t := fun t h z => by subst z; rw [hb1] at h; cases h
      have hlt : ∀ t, μ2 t = none → l ≠ t := fun t h z => by subst z; rw [hl1] at h; cases h
      walk_at "go"
      intro t ht
      have nb := hbt t ht
      have nl := hlt t ht
      walk_at "go"
      refine use_take (by walk_at "mu") hm1 (by decide) (by walk_at "szN") fun d c2 m2 a1 a2 s1 hm2 => ?_
      obtain ⟨z, hz, hz0, hzs⟩ := menu a1 a2
      walk_at "go"
      refine ro_ix (by walk_at "seq") hz ?_
      walk_at "go"
      refine m_append (ds := zs.map D.int) (a := l) ?_
      walk_at "go"
      refine ⟨rfl, ⟨zs.map D.int, by walk_at "mu"⟩, ?_⟩
      walk_at "go"
      refine use_take set_same hm2 hz0 (by walk_at "szN") fun d3 c3 m3 e1 e2 e3 hm3 => ?_
      walk_at "go"
      refine use_take set_same hm3 (by decide) (by walk_at "szN") fun d4 c4 m4 g1 g2 g3 hm4 => ?_
      walk_at "go"
      have t4 : Sz 8 d4 := sz_lt g1 g2 (by decide)
      have t3 : Sz 128 d3 := sz_lt e1 e2 hzs
      refine ⟨by walk_at "mu", by rw [List.length_map, lz]; exact Nat.lt_of_lt_of_le (show j < 2 by omega) (by decide), ?_⟩
      walk_at "go"
      refine ⟨c4, m4, zs ++ [d3 * (1 - 2 * d4)], _, _, by simp [lz], fun w hw => ?_, hm4, by walk_at "mu", by rw [set_same]; simp, rfl⟩
      rcases List.mem_append.mp hw with h | h
      · exact sz _ h
      · rw [List.mem_singleton.mp h]
        walk_at "szN"
    · rintro τ2 μ2 ⟨c1, m1, zs, p4, p5, lz, sz, hm1, hb1, hl1, rfl⟩
      obtain ⟨x, y, rfl⟩ : ∃ x y, zs = [x, y] := match zs, lz with | [x, y], _ => ⟨x, y, rfl⟩
      have sx := sz x (by simp)
      have sy := sz y (by simp)
      walk_at "go"
      refine g_lst (ds := [.int x, .int y]) (seq_ref hl1) (fun es e => by cases e) rfl ?_
      walk_at "go"
      refine ⟨x, rfl, true, rfl, ?_⟩
      rw [if_neg (by decide)]
      walk_at "go"
      refine a_defK [.int 1] (fun H => .cons (.int 1) .nil) ?_
      walk_at "go"
      refine ⟨rfl, rfl, x, 1, rfl, sz_one5, fun _ => ?_, fun h => by cases h⟩
      rw [lowT_one, lowB_one]
      walk_at "go"
      have ev : ∀ u v : Int, (D.tup [D.int u, D.int v]).eqv (D.tup [D.int u, D.int v]) = true := fun u v => eqv_self (okn_pt (x := u) (y := v))
      rw [if_neg (by rw [ev]; decide)]
      walk_at "go"
      refine a_defK [.int 1] (fun H => .cons (.int 1) .nil) ?_
      walk_at "go"
      refine ⟨rfl, rfl, x, 1, rfl, sz_one5, fun _ => ?_, fun h => by cases h⟩
      rw [lowT_one, lowB_one]
      walk_at "go"
      rw [if_neg (by rw [ev]; decide)]
      walk_at "go"
      refine ite_nd (fun h => ?_) (fun h => ?_)
      · walk_at "go"
        refine ⟨x, y, rfl, sz_mono sy (by decide), fun hy => ?_, fun h0 => absurd h0 h⟩
        walk_at "go"
        refine ⟨x, y, rfl, sz_mono sy (by decide), hy, ?_⟩
        walk_at "go"
        rw [if_neg (by rw [ev]; decide)]
        walk_at "go"
        refine a_defK [.int 1] (fun H => .cons (.int 1) .nil) ?_
        walk_at "go"
        refine ⟨rfl, rfl, x, y, rfl, sz_mono sy (by decide), fun hy => ?_, fun h0 => absurd h0 h⟩
        walk_at "go"
        rw [if_neg (by rw [ev]; decide)]
        walk_at "go"
        refine ⟨_, rfl, true, rfl, ?_⟩
        rw [if_neg (by decide)]
        walk_at "go"
        refine ⟨_, rfl, true, rfl, ?_⟩
        rw [if_neg (by decide)]
        walk_at "go"
        exact ⟨_, _, _, _, _, _, _, _, rfl⟩
      · walk_at "go"
        exact ⟨_, _, _, _, _, _, _, _, rfl⟩
end
theorem all_mk {l : PySem.W.OpenLaw} {w : World} {K : PySem.W.Frag} {h : Heap} {mg : Str → Option Value} {fa : Addr} (X : K.In h) (G : h.Ns mainGlobals mg) (hfa : mg "law" = some (.ref fa))
    {f1 f2 f3 f4 f5 f6 f7 f8 f9 : Addr}
    {od1 an1 od2 an2 od3 an3 od4 an4 od5 an5 od6 an6 od7 an7 od8 an8 od9 an9 : Option Addr}
    {sl1 sl2 sl3 sl4 sl5 sl6 sl7 sl8 sl9 : Array (Option Value)}
    {oc1 kV1 dc1 pm1 cd1 ct1 oc2 kV2 dc2 pm2 cd2 ct2 oc3 kV3 dc3 pm3 cd3 ct3 oc4 kV4 dc4 pm4 cd4 ct4 oc5 kV5 dc5 pm5 cd5 ct5 oc6 kV6 dc6 pm6 cd6 ct6 oc7 kV7 dc7 pm7 cd7 ct7 oc8 kV8 dc8 pm8 cd8 ct8 oc9 kV9 dc9 pm9 cd9 ct9 : Value}
    {C_NoFraction : Addr}
    {C_BoardError : Addr}
    {C_Crossed : Addr}
    {C_NoBoard : Addr}
    {C_NoGate : Addr}
    {C_NoLine : Addr}
    {C_NoNet : Addr}
    {C_NoPin : Addr}
    {C_NoRoom : Addr}
    {T2 : Addr} {ocT2 : Value} {odT2 : Option Addr} {nT2 : Nat} {slT2 : Array (Option Value)} {tkT2_0 : Tok}
    (aC_NoFraction : PySem.W.nsIn K mainGlobals "NoFraction" = some (some (.ref C_NoFraction)))
    (kc_NoFraction : PySem.W.keepIn K (.ref C_NoFraction) = true)
    (eC_NoFraction : PySem.W.subIn K (.ref C_NoFraction) (.type "BaseException") = some true)
    (tC_NoFraction : PySem.W.typeIn K (.ref C_NoFraction) = some (.type "type"))
    (iS_NoFraction : PySem.W.isClsIn K C_NoFraction = true)
    (q_NoFraction : PySem.W.excIn K C_NoFraction [.type "ValueError", .type "Exception", .type "BaseException", .type "object"] "ValueError.__new__" = true)
    (sub_NoFraction_NoFraction : PySem.W.subIn K (.ref C_NoFraction) (.ref C_NoFraction) = some true)
    (aC_BoardError : PySem.W.nsIn K mainGlobals "BoardError" = some (some (.ref C_BoardError)))
    (aC_Crossed : PySem.W.nsIn K mainGlobals "Crossed" = some (some (.ref C_Crossed)))
    (aC_NoBoard : PySem.W.nsIn K mainGlobals "NoBoard" = some (some (.ref C_NoBoard)))
    (aC_NoGate : PySem.W.nsIn K mainGlobals "NoGate" = some (some (.ref C_NoGate)))
    (aC_NoLine : PySem.W.nsIn K mainGlobals "NoLine" = some (some (.ref C_NoLine)))
    (aC_NoNet : PySem.W.nsIn K mainGlobals "NoNet" = some (some (.ref C_NoNet)))
    (aC_NoPin : PySem.W.nsIn K mainGlobals "NoPin" = some (some (.ref C_NoPin)))
    (aC_NoRoom : PySem.W.nsIn K mainGlobals "NoRoom" = some (some (.ref C_NoRoom)))
    (xg_NoFraction : PySem.W.findIn K (.ref C_NoFraction) "__getattribute__" = some (some (.builtin "BaseException.__getattribute__")))
    (xk_NoFraction : PySem.W.findIn K (.ref C_NoFraction) "__getattr__" = some none)
    (xd_NoFraction : PySem.W.hasDictIn K C_NoFraction = true)
    (xa_NoFraction : PySem.W.findIn K (.ref C_NoFraction) "__class__" = some (some (.builtin "object.__class__")))
    (xn_NoFraction : PySem.W.specialIn K (.builtin "object.__class__") "__get__" = some (some (.builtin "getset_descriptor.__get__")))
    (xt_NoFraction : PySem.W.takesIn K (.builtin "object.__class__") = some true)
    (xm_NoFraction : PySem.W.mroIn K C_NoFraction (.type "object") = some true)
    (xs_NoFraction : PySem.W.subIn K (.ref C_NoFraction) (.ref C_NoFraction) = some true)
    (yi_BoardError : PySem.W.isClsIn K C_BoardError = true)
    (yt_BoardError : PySem.W.typeIn K (.ref C_BoardError) = some (.type "type"))
    (yi_Crossed : PySem.W.isClsIn K C_Crossed = true)
    (yt_Crossed : PySem.W.typeIn K (.ref C_Crossed) = some (.type "type"))
    (yi_NoBoard : PySem.W.isClsIn K C_NoBoard = true)
    (yt_NoBoard : PySem.W.typeIn K (.ref C_NoBoard) = some (.type "type"))
    (yi_NoGate : PySem.W.isClsIn K C_NoGate = true)
    (yt_NoGate : PySem.W.typeIn K (.ref C_NoGate) = some (.type "type"))
    (yi_NoLine : PySem.W.isClsIn K C_NoLine = true)
    (yt_NoLine : PySem.W.typeIn K (.ref C_NoLine) = some (.type "type"))
    (yi_NoNet : PySem.W.isClsIn K C_NoNet = true)
    (yt_NoNet : PySem.W.typeIn K (.ref C_NoNet) = some (.type "type"))
    (yi_NoPin : PySem.W.isClsIn K C_NoPin = true)
    (yt_NoPin : PySem.W.typeIn K (.ref C_NoPin) = some (.type "type"))
    (yi_NoRoom : PySem.W.isClsIn K C_NoRoom = true)
    (yt_NoRoom : PySem.W.typeIn K (.ref C_NoRoom) = some (.type "type"))
    (ys_NoFraction_BoardError : PySem.W.subIn K (.ref C_NoFraction) (.ref C_BoardError) = some true)
    (ys_NoFraction_Crossed : PySem.W.subIn K (.ref C_NoFraction) (.ref C_Crossed) = some false)
    (ys_NoFraction_NoBoard : PySem.W.subIn K (.ref C_NoFraction) (.ref C_NoBoard) = some false)
    (ys_NoFraction_NoGate : PySem.W.subIn K (.ref C_NoFraction) (.ref C_NoGate) = some false)
    (ys_NoFraction_NoLine : PySem.W.subIn K (.ref C_NoFraction) (.ref C_NoLine) = some false)
    (ys_NoFraction_NoNet : PySem.W.subIn K (.ref C_NoFraction) (.ref C_NoNet) = some false)
    (ys_NoFraction_NoPin : PySem.W.subIn K (.ref C_NoFraction) (.ref C_NoPin) = some false)
    (ys_NoFraction_NoRoom : PySem.W.subIn K (.ref C_NoFraction) (.ref C_NoRoom) = some false)
    (ys_NoFraction_ValueError : PySem.W.subIn K (.ref C_NoFraction) (.type "ValueError") = some true)
    (a1 : PySem.W.nsIn K mainGlobals "common" = some (some (.ref f1)))
    (l1 : K.lookup f1 = some ⟨oc1, od1, .func (PySem.W.fnOf "common" "common" (defArgs s_common) (defBody s_common) (defScope s_common) .none kV1 dc1 pm1 an1 cd1 ct1), sl1⟩)
    (c1 : PySem.W.codeIn K cd1 "common" = true)
    (k1 : PySem.W.keepIn K (.ref f1) = true)
    (a2 : PySem.W.nsIn K mainGlobals "frac" = some (some (.ref f2)))
    (l2 : K.lookup f2 = some ⟨oc2, od2, .func (PySem.W.fnOf "frac" "frac" (defArgs s_frac) (defBody s_frac) (defScope s_frac) (.ref T2) kV2 dc2 pm2 an2 cd2 ct2), sl2⟩)
    (c2 : PySem.W.codeIn K cd2 "frac" = true)
    (k2 : PySem.W.keepIn K (.ref f2) = true)
    (t2 : K.lookup T2 = some ⟨ocT2, odT2, .seq #[.int 1 tkT2_0] nT2, slT2⟩)
    (a3 : PySem.W.nsIn K mainGlobals "_law_cell_at" = some (some (.ref f3)))
    (l3 : K.lookup f3 = some ⟨oc3, od3, .func (PySem.W.fnOf "_law_cell_at" "_law_cell_at" (defArgs s_l_cell_at) (defBody s_l_cell_at) (defScope s_l_cell_at) .none kV3 dc3 pm3 an3 cd3 ct3), sl3⟩)
    (c3 : PySem.W.codeIn K cd3 "_law_cell_at" = true)
    (k3 : PySem.W.keepIn K (.ref f3) = true)
    (a4 : PySem.W.nsIn K mainGlobals "_law_bag" = some (some (.ref f4)))
    (l4 : K.lookup f4 = some ⟨oc4, od4, .func (PySem.W.fnOf "_law_bag" "_law_bag" (defArgs s_l_bag) (defBody s_l_bag) (defScope s_l_bag) .none kV4 dc4 pm4 an4 cd4 ct4), sl4⟩)
    (c4 : PySem.W.codeIn K cd4 "_law_bag" = true)
    (k4 : PySem.W.keepIn K (.ref f4) = true)
    (a5 : PySem.W.nsIn K mainGlobals "_law_take" = some (some (.ref f5)))
    (l5 : K.lookup f5 = some ⟨oc5, od5, .func (PySem.W.fnOf "_law_take" "_law_take" (defArgs s_l_take) (defBody s_l_take) (defScope s_l_take) .none kV5 dc5 pm5 an5 cd5 ct5), sl5⟩)
    (c5 : PySem.W.codeIn K cd5 "_law_take" = true)
    (k5 : PySem.W.keepIn K (.ref f5) = true)
    (a6 : PySem.W.nsIn K mainGlobals "_law_whole" = some (some (.ref f6)))
    (l6 : K.lookup f6 = some ⟨oc6, od6, .func (PySem.W.fnOf "_law_whole" "_law_whole" (defArgs s_l_whole) (defBody s_l_whole) (defScope s_l_whole) .none kV6 dc6 pm6 an6 cd6 ct6), sl6⟩)
    (c6 : PySem.W.codeIn K cd6 "_law_whole" = true)
    (k6 : PySem.W.keepIn K (.ref f6) = true)
    (a7 : PySem.W.nsIn K mainGlobals "_law_low" = some (some (.ref f7)))
    (l7 : K.lookup f7 = some ⟨oc7, od7, .func (PySem.W.fnOf "_law_low" "_law_low" (defArgs s_l_low) (defBody s_l_low) (defScope s_l_low) .none kV7 dc7 pm7 an7 cd7 ct7), sl7⟩)
    (c7 : PySem.W.codeIn K cd7 "_law_low" = true)
    (k7 : PySem.W.keepIn K (.ref f7) = true)
    (a8 : PySem.W.nsIn K mainGlobals "_law_refused" = some (some (.ref f8)))
    (l8 : K.lookup f8 = some ⟨oc8, od8, .func (PySem.W.fnOf "_law_refused" "_law_refused" (defArgs s_l_refused) (defBody s_l_refused) (defScope s_l_refused) .none kV8 dc8 pm8 an8 cd8 ct8), sl8⟩)
    (c8 : PySem.W.codeIn K cd8 "_law_refused" = true)
    (k8 : PySem.W.keepIn K (.ref f8) = true)
    (a9 : PySem.W.nsIn K mainGlobals "law" = some (some (.ref f9)))
    (l9 : K.lookup f9 = some ⟨oc9, od9, .func (PySem.W.fnOf "law" "law" (defArgs s_law) (defBody s_law) (defScope s_law) .none kV9 dc9 pm9 an9 cd9 ct9), sl9⟩)
    (c9 : PySem.W.codeIn K cd9 "law" = true)
    (k9 : PySem.W.keepIn K (.ref f9) = true)
    (z_ValueError : PySem.W.nsIn K mainGlobals "ValueError" = some none)
    (z_ZeroDivisionError : PySem.W.nsIn K mainGlobals "ZeroDivisionError" = some none)
    (z_abs : PySem.W.nsIn K mainGlobals "abs" = some none)
    (z_bool : PySem.W.nsIn K mainGlobals "bool" = some none)
    (z_int : PySem.W.nsIn K mainGlobals "int" = some none)
    (z_isinstance : PySem.W.nsIn K mainGlobals "isinstance" = some none)
    (z_len : PySem.W.nsIn K mainGlobals "len" = some none)
    (z_min : PySem.W.nsIn K mainGlobals "min" = some none)
    (z_range : PySem.W.nsIn K mainGlobals "range" = some none)
    (z_tuple : PySem.W.nsIn K mainGlobals "tuple" = some none) :
    ∃ fd : FuncData, (∀ (s : Shared) (v : Value), BindsTo s fd ⟨[v], []⟩ [("_law_script", v)]) ∧ ∀ base : Heap, K.In base → base.Ns mainGlobals mg → FnOk l.prog w K mg base CX0 4 fa fd ["_law_script"] (spI K P_law) := by
  have e := hfa.symm.trans (PySem.W.mg_of X G a9)
  cases e
  have B : Bs mg := ⟨PySem.W.mg_none_of X G z_ValueError, PySem.W.mg_none_of X G z_ZeroDivisionError, PySem.W.mg_none_of X G z_abs, PySem.W.mg_none_of X G z_bool, PySem.W.mg_none_of X G z_int, PySem.W.mg_none_of X G z_isinstance, PySem.W.mg_none_of X G z_len, PySem.W.mg_none_of X G z_min, PySem.W.mg_none_of X G z_range, PySem.W.mg_none_of X G z_tuple⟩
  have X_NoFraction : ExcC K C_NoFraction := ⟨xg_NoFraction, xk_NoFraction, eC_NoFraction, xd_NoFraction, xa_NoFraction, xn_NoFraction, xt_NoFraction, xm_NoFraction⟩
  have V_BoardError : Cst mg "BoardError" (.ref C_BoardError) := ⟨_, PySem.W.mg_of X G aC_BoardError, rfl⟩
  have V_Crossed : Cst mg "Crossed" (.ref C_Crossed) := ⟨_, PySem.W.mg_of X G aC_Crossed, rfl⟩
  have V_NoBoard : Cst mg "NoBoard" (.ref C_NoBoard) := ⟨_, PySem.W.mg_of X G aC_NoBoard, rfl⟩
  have V_NoGate : Cst mg "NoGate" (.ref C_NoGate) := ⟨_, PySem.W.mg_of X G aC_NoGate, rfl⟩
  have V_NoLine : Cst mg "NoLine" (.ref C_NoLine) := ⟨_, PySem.W.mg_of X G aC_NoLine, rfl⟩
  have V_NoNet : Cst mg "NoNet" (.ref C_NoNet) := ⟨_, PySem.W.mg_of X G aC_NoNet, rfl⟩
  have V_NoPin : Cst mg "NoPin" (.ref C_NoPin) := ⟨_, PySem.W.mg_of X G aC_NoPin, rfl⟩
  have V_NoRoom : Cst mg "NoRoom" (.ref C_NoRoom) := ⟨_, PySem.W.mg_of X G aC_NoRoom, rfl⟩
  have Q_NoFraction_BoardError : PySem.W.kitOne K (.ref C_NoFraction) (.ref C_BoardError) = some true := kit_own xs_NoFraction yi_BoardError yt_BoardError ys_NoFraction_BoardError
  have Q_NoFraction_Crossed : PySem.W.kitOne K (.ref C_NoFraction) (.ref C_Crossed) = some false := kit_own xs_NoFraction yi_Crossed yt_Crossed ys_NoFraction_Crossed
  have Q_NoFraction_NoBoard : PySem.W.kitOne K (.ref C_NoFraction) (.ref C_NoBoard) = some false := kit_own xs_NoFraction yi_NoBoard yt_NoBoard ys_NoFraction_NoBoard
  have Q_NoFraction_NoGate : PySem.W.kitOne K (.ref C_NoFraction) (.ref C_NoGate) = some false := kit_own xs_NoFraction yi_NoGate yt_NoGate ys_NoFraction_NoGate
  have Q_NoFraction_NoLine : PySem.W.kitOne K (.ref C_NoFraction) (.ref C_NoLine) = some false := kit_own xs_NoFraction yi_NoLine yt_NoLine ys_NoFraction_NoLine
  have Q_NoFraction_NoNet : PySem.W.kitOne K (.ref C_NoFraction) (.ref C_NoNet) = some false := kit_own xs_NoFraction yi_NoNet yt_NoNet ys_NoFraction_NoNet
  have Q_NoFraction_NoPin : PySem.W.kitOne K (.ref C_NoFraction) (.ref C_NoPin) = some false := kit_own xs_NoFraction yi_NoPin yt_NoPin ys_NoFraction_NoPin
  have Q_NoFraction_NoRoom : PySem.W.kitOne K (.ref C_NoFraction) (.ref C_NoRoom) = some false := kit_own xs_NoFraction yi_NoRoom yt_NoRoom ys_NoFraction_NoRoom
  have Q_NoFraction_ValueError : PySem.W.kitOne K (.ref C_NoFraction) (.type "ValueError") = some true := kit_bt (by decide +kernel) ys_NoFraction_ValueError
  have H_NoFraction_NoFraction := exm_pair eC_NoFraction iS_NoFraction tC_NoFraction sub_NoFraction_NoFraction
  have F1 := fun_mk (st := s_common) l1 c1 k1
  have F2 : FunD K "frac" "frac" (defArgs s_frac) (defBody s_frac) (defScope s_frac) [.int 1] [] f2 _ := ⟨⟨oc2, od2, .ref T2, kV2, dc2, pm2, an2, cd2, ct2, sl2, rfl, l2, c2, .inr ⟨by simp, T2, _, [.int 1 tkT2_0], _, rfl, t2, rfl, (.cons ⟨_, rfl⟩ .nil)⟩, .inl rfl⟩, k2⟩
  have F3 := fun_mk (st := s_l_cell_at) l3 c3 k3
  have F4 := fun_mk (st := s_l_bag) l4 c4 k4
  have F5 := fun_mk (st := s_l_take) l5 c5 k5
  have F6 := fun_mk (st := s_l_whole) l6 c6 k6
  have F7 := fun_mk (st := s_l_low) l7 c7 k7
  have F8 := fun_mk (st := s_l_refused) l8 c8 k8
  have F9 := fun_mk (st := s_law) l9 c9 k9
  refine ⟨PySem.W.fnOf "law" "law" (defArgs s_law) (defBody s_law) (defScope s_law) .none kV9 dc9 pm9 an9 cd9 ct9, fun s v => .of_eq rfl, fun base _ _ => ?_⟩
  have E_NoFraction : Exc0 K mg "NoFraction" C_NoFraction := ⟨⟨"ValueError", _, _, XO.tlVE, PySem.F.excBase_ValueError, q_NoFraction⟩, PySem.W.mg_of X G aC_NoFraction, kc_NoFraction, eC_NoFraction, tC_NoFraction⟩
  have b1 := F1.binds (ps := ["one", "other"]) fun _ _ _ _ _ _ us hl => match us, hl with | [_, _], _ => rfl
  have G1 : Def l.prog w K mg base "common" ["one", "other"] 1 (spI K P_common) := ⟨f1, _, ok_common F1 B, PySem.W.mg_of X G a1, k1, b1⟩
  obtain ⟨ds2, rd2, b2⟩ := F2.binds1 (ps := ["top", "bottom"]) 2 1 (by simp) (by simp) (fun _ _ _ _ _ _ _ us its h1 h2 => match us, its, h1, h2 with | [_, _], [_], _, _ => ⟨_, rfl, rfl⟩)
  cases (show Vals [] ds2 from rd2)
  have O2 := ok_frac (P := l.prog) (w := w) (base := base) F2 B E_NoFraction G1
  obtain ⟨g2_0, hb2_0⟩ := kbd_of (ps := ["top", "bottom"]) F2 0 ["bottom", "top"] [(true, 1), (true, 0)] (by simp) (fun _ _ _ _ _ _ _ us its ws h1 h2 h3 => match us, its, ws, h1, h2, h3 with | [], [_], [_, _], _, _, _ => ⟨_, rfl, rfl⟩)
  have N_frac_0_bottom_top : DefN l.prog w K mg base "frac" ["top", "bottom"] 0 ["bottom", "top"] [(true, 1), (true, 0)] [.int 1] 2 (spX K (xn mg) P_frac) := ⟨f2, _, g2_0, O2, PySem.W.mg_of X G a2, k2, hb2_0⟩
  obtain ⟨g2_1, hb2_1⟩ := kbd_of (ps := ["top", "bottom"]) F2 1 [] [(false, 0)] (by simp) (fun _ _ _ _ _ _ _ us its ws h1 h2 h3 => match us, its, ws, h1, h2, h3 with | [_], [_], [], _, _, _ => ⟨_, rfl, rfl⟩)
  have N_frac_1 : DefN l.prog w K mg base "frac" ["top", "bottom"] 1 [] [(false, 0)] [.int 1] 2 (spX K (xn mg) P_frac) := ⟨f2, _, g2_1, O2, PySem.W.mg_of X G a2, k2, hb2_1⟩
  obtain ⟨g2_2, hb2_2⟩ := kbd_of (ps := ["top", "bottom"]) F2 1 ["bottom"] [(true, 0)] (by simp) (fun _ _ _ _ _ _ _ us its ws h1 h2 h3 => match us, its, ws, h1, h2, h3 with | [_], [_], [_], _, _, _ => ⟨_, rfl, rfl⟩)
  have N_frac_1_bottom : DefN l.prog w K mg base "frac" ["top", "bottom"] 1 ["bottom"] [(true, 0)] [.int 1] 2 (spX K (xn mg) P_frac) := ⟨f2, _, g2_2, O2, PySem.W.mg_of X G a2, k2, hb2_2⟩
  have G2 : DefX l.prog w K mg base "frac" ["top", "bottom"] 2 (spX K (xn mg) P_frac) := ⟨f2, _, O2, PySem.W.mg_of X G a2, k2, b2⟩
  have b3 := F3.binds (ps := ["_law_script", "_law_k"]) fun _ _ _ _ _ _ us hl => match us, hl with | [_, _], _ => rfl
  have G3 : Def l.prog w K mg base "_law_cell_at" ["_law_script", "_law_k"] 1 (spI K P_l_cell_at) := ⟨f3, _, ok_l_cell_at F3 B, PySem.W.mg_of X G a3, k3, b3⟩
  have b4 := F4.binds (ps := ["_law_script", "_law_at"]) fun _ _ _ _ _ _ us hl => match us, hl with | [_, _], _ => rfl
  have G4 : Def l.prog w K mg base "_law_bag" ["_law_script", "_law_at"] 2 (spI K P_l_bag) := ⟨f4, _, ok_l_bag F4 B G3, PySem.W.mg_of X G a4, k4, b4⟩
  have b5 := F5.binds (ps := ["_law_bag_here", "_law_many"]) fun _ _ _ _ _ _ us hl => match us, hl with | [_, _], _ => rfl
  have G5 : Def l.prog w K mg base "_law_take" ["_law_bag_here", "_law_many"] 1 (spI K P_l_take) := ⟨f5, _, ok_l_take F5 B, PySem.W.mg_of X G a5, k5, b5⟩
  have b6 := F6.binds (ps := ["_law_thing"]) fun _ _ _ _ _ _ us hl => match us, hl with | [_], _ => rfl
  have G6 : Def l.prog w K mg base "_law_whole" ["_law_thing"] 1 (spI K P_l_whole) := ⟨f6, _, ok_l_whole F6 B, PySem.W.mg_of X G a6, k6, b6⟩
  have b7 := F7.binds (ps := ["_law_one", "_law_other"]) fun _ _ _ _ _ _ us hl => match us, hl with | [_, _], _ => rfl
  have G7 : Def l.prog w K mg base "_law_low" ["_law_one", "_law_other"] 1 (spI K P_l_low) := ⟨f7, _, ok_l_low F7 B, PySem.W.mg_of X G a7, k7, b7⟩
  have b8 := F8.binds (ps := ["_law_one"]) fun _ _ _ _ _ _ us hl => match us, hl with | [_], _ => rfl
  have G8 : Def l.prog w K mg base "_law_refused" ["_law_one"] 3 (spI K P_l_refused) := ⟨f8, _, ok_l_refused F8 B E_NoFraction H_NoFraction_NoFraction X_NoFraction V_BoardError V_Crossed V_NoBoard V_NoGate V_NoLine V_NoNet V_NoPin V_NoRoom Q_NoFraction_BoardError Q_NoFraction_Crossed Q_NoFraction_NoBoard Q_NoFraction_NoGate Q_NoFraction_NoLine Q_NoFraction_NoNet Q_NoFraction_NoPin Q_NoFraction_NoRoom Q_NoFraction_ValueError G2, PySem.W.mg_of X G a8, k8, b8⟩
  exact ok_law F9 B G4 G7 G8 G5 G6 G2 N_frac_0_bottom_top N_frac_1 N_frac_1_bottom
theorem walk {l : PySem.W.OpenLaw} {q : Program} {loose : List Str} {XP : (Str → Option Value) → Heap → Prop} {YP : World → Heap → Prop} {d : DefRec} {K : Params → PySem.W.Frag} (hn : l.most = some 63) (hdf : d.params.defaults = [])
    (hY : ∀ (w : World) (h : Heap), YP w h → (K w.params).In h)
    (F : ∀ (w : World) (mg : Str → Option Value) (fa : Addr) (h : Heap), (K w.params).In h → h.Ns mainGlobals mg → mg d.name = some (.ref fa) →
      ∃ fd : FuncData, (∀ (s : Shared) (u : Value), BindsTo s fd ⟨[u], []⟩ [("_law_script", u)]) ∧ ∀ base : Heap, (K w.params).In base → base.Ns mainGlobals mg → FnOk l.prog w (K w.params) mg base CX0 4 fa fd ["_law_script"] (spI (K w.params) P_law)) :
    PySem.W.WalkO q loose XP YP l.row.toRowW d [] (fun f vs => PySem.call f vs) :=
  L2.walk_of (n := 63) (k := 4) (x := "_law_script") (CX := fun _ => CX0) (sp := fun w => spI (K w.params) P_law) hn (by decide) hdf ⟨rfl, by decide, by decide⟩ hY F (fun _ _ a ns hl hO hS => law_start hl hO hS) fun _ _ _ _ _ z => z
end W
open PySem PySem.W PyProof.Rows in
set_option maxRecDepth 100000 in
set_option maxHeartbeats 0 in
theorem PySem.Challenge.cw_rubberroutes_k01_fractions_made_holds : PySem.Challenge.rw_rubberroutes_k01_fractions_made.Holds := by
  w_on; o_law; k_head; (case hw => w_witness2)
  k_fill
  refine W.walk (l := PySem.Challenge.rw_rubberroutes_k01_fractions_made) rfl rfl (fun w h Y => by first | exact PySem.W.kIn_of Y | exact PySem.W.km_in_of Y) ?F
  case F =>
    intro w mg fa h KX G hmg
    refine' W.all_mk KX G hmg ?aC_NoFraction ?kc_NoFraction ?eC_NoFraction ?tC_NoFraction ?iS_NoFraction ?q_NoFraction ?sub_NoFraction_NoFraction ?aC_BoardError ?aC_Crossed ?aC_NoBoard ?aC_NoGate ?aC_NoLine ?aC_NoNet ?aC_NoPin ?aC_NoRoom ?xg_NoFraction ?xk_NoFraction ?xd_NoFraction ?xa_NoFraction ?xn_NoFraction ?xt_NoFraction ?xm_NoFraction ?xs_NoFraction ?yi_BoardError ?yt_BoardError ?yi_Crossed ?yt_Crossed ?yi_NoBoard ?yt_NoBoard ?yi_NoGate ?yt_NoGate ?yi_NoLine ?yt_NoLine ?yi_NoNet ?yt_NoNet ?yi_NoPin ?yt_NoPin ?yi_NoRoom ?yt_NoRoom ?ys_NoFraction_BoardError ?ys_NoFraction_Crossed ?ys_NoFraction_NoBoard ?ys_NoFraction_NoGate ?ys_NoFraction_NoLine ?ys_NoFraction_NoNet ?ys_NoFraction_NoPin ?ys_NoFraction_NoRoom ?ys_NoFraction_ValueError ?a1 ?l1 ?c1 ?k1 ?a2 ?l2 ?c2 ?k2 ?t2 ?a3 ?l3 ?c3 ?k3 ?a4 ?l4 ?c4 ?k4 ?a5 ?l5 ?c5 ?k5 ?a6 ?l6 ?c6 ?k6 ?a7 ?l7 ?c7 ?k7 ?a8 ?l8 ?c8 ?k8 ?a9 ?l9 ?c9 ?k9 ?z_ValueError ?z_ZeroDivisionError ?z_abs ?z_bool ?z_int ?z_isinstance ?z_len ?z_min ?z_range ?z_tuple
    (case aC_NoFraction => k_is)
    (case kc_NoFraction => k_is)
    (case eC_NoFraction => k_is)
    (case tC_NoFraction => k_is)
    (case iS_NoFraction => k_is)
    (case q_NoFraction => k_exc)
    (case sub_NoFraction_NoFraction => k_is)
    (case aC_BoardError => k_is)
    (case aC_Crossed => k_is)
    (case aC_NoBoard => k_is)
    (case aC_NoGate => k_is)
    (case aC_NoLine => k_is)
    (case aC_NoNet => k_is)
    (case aC_NoPin => k_is)
    (case aC_NoRoom => k_is)
    (case xg_NoFraction => k_is)
    (case xk_NoFraction => k_is)
    (case xd_NoFraction => k_is)
    (case xa_NoFraction => k_is)
    (case xn_NoFraction => k_is)
    (case xt_NoFraction => k_is)
    (case xm_NoFraction => k_is)
    (case xs_NoFraction => k_is)
    (case yi_BoardError => k_is)
    (case yt_BoardError => k_is)
    (case yi_Crossed => k_is)
    (case yt_Crossed => k_is)
    (case yi_NoBoard => k_is)
    (case yt_NoBoard => k_is)
    (case yi_NoGate => k_is)
    (case yt_NoGate => k_is)
    (case yi_NoLine => k_is)
    (case yt_NoLine => k_is)
    (case yi_NoNet => k_is)
    (case yt_NoNet => k_is)
    (case yi_NoPin => k_is)
    (case yt_NoPin => k_is)
    (case yi_NoRoom => k_is)
    (case yt_NoRoom => k_is)
    (case ys_NoFraction_BoardError => k_is)
    (case ys_NoFraction_Crossed => k_is)
    (case ys_NoFraction_NoBoard => k_is)
    (case ys_NoFraction_NoGate => k_is)
    (case ys_NoFraction_NoLine => k_is)
    (case ys_NoFraction_NoNet => k_is)
    (case ys_NoFraction_NoPin => k_is)
    (case ys_NoFraction_NoRoom => k_is)
    (case ys_NoFraction_ValueError => k_is)
    (case a1 => k_is)
    (case l1 => k_is)
    (case c1 => k_is)
    (case k1 => k_is)
    (case a2 => k_is)
    (case l2 => k_is)
    (case c2 => k_is)
    (case k2 => k_is)
    (case t2 => k_is)
    (case a3 => k_is)
    (case l3 => k_is)
    (case c3 => k_is)
    (case k3 => k_is)
    (case a4 => k_is)
    (case l4 => k_is)
    (case c4 => k_is)
    (case k4 => k_is)
    (case a5 => k_is)
    (case l5 => k_is)
    (case c5 => k_is)
    (case k5 => k_is)
    (case a6 => k_is)
    (case l6 => k_is)
    (case c6 => k_is)
    (case k6 => k_is)
    (case a7 => k_is)
    (case l7 => k_is)
    (case c7 => k_is)
    (case k7 => k_is)
    (case a8 => k_is)
    (case l8 => k_is)
    (case c8 => k_is)
    (case k8 => k_is)
    (case a9 => k_is)
    (case l9 => k_is)
    (case c9 => k_is)
    (case k9 => k_is)
    (case z_ValueError => k_is)
    (case z_ZeroDivisionError => k_is)
    (case z_abs => k_is)
    (case z_bool => k_is)
    (case z_int => k_is)
    (case z_isinstance => k_is)
    (case z_len => k_is)
    (case z_min => k_is)
    (case z_range => k_is)
    (case z_tuple => k_is)
