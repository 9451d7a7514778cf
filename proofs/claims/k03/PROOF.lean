import PyProof.Rows.All
import Wide.All
import OpenK.AllK
import Wide.FinOn
import HandS.ForMost
import HandS.Wide
import HandS.IsInst
import HandS.Deep
import HandS.Style
import HandS.Zip
import HandS.Defaults
import HandS.TryOnly
import HandS.Zip0
import KE.KDictZip
import KE.KItemsList
import HandS.ListItems
import HandS.TupAny
import HandS.ExcOwn
import HandS.Lambda
import PySem.Challenge.RW_rubberroutes_k03_pieces_touch
set_option Elab.async false
set_option linter.all false
set_option maxRecDepth 100000
set_option maxHeartbeats 4000000
namespace Z
open PySem L2
inductive D where
  | non | bl (b : Bool) | int (i : Int) | str (s : Str) | ty (n : String) | tup (ds : List D) | rol (ds : List D) | ref (a : Addr)
inductive MO where
  | lst (ds : List D) | dK (kvs : List (Key × D)) | dT (kvs : List (List Key × D)) | ins (C dx : Addr) (fs : List (Str × D)) | xd (fs : List (Str × D)) | fT (od : Obj) (vs : List (List Key × V)) (kvs : List (List Key × D)) | fK (od : Obj) (vs : List (Key × V)) (kvs : List (Key × D)) | fTp (od : Obj) (ds : List D) | xo (od : Obj) (C : Addr) | tab (q : Str)
abbrev M := Addr → Option MO
def M.set (μ : M) (a : Addr) (m : MO) : M := fun b => if b = a then some m else μ b
theorem set_same {μ : M} {a : Addr} {m : MO} : μ.set a m a = some m := by unfold M.set; rw [if_pos rfl]
theorem set_ne {μ : M} {a b : Addr} {m : MO} (h : b ≠ a) : μ.set a m b = μ b := by unfold M.set; rw [if_neg h]
theorem set_set {μ : M} {a : Addr} {m m' : MO} : (μ.set a m).set a m' = μ.set a m' := by
  funext b; unfold M.set; split <;> rfl
inductive TupAt (K : PySem.W.Frag) (H : Hp) (a : Addr) (xs : List V) : Prop
  | inl (h : H a = some (.tup xs)) : TupAt K H a xs
def RolAt (K : PySem.W.Frag) (H : Hp) (a : Addr) (xs : List V) : Prop :=
  (∃ o, H a = some (.frz o (.lst xs))) ∨ ∃ (o : Obj) (its : Array Value) (n : Nat), K.lookup a = some o ∧ o.cls = .type "list" ∧ o.dict = none ∧ o.data = .seq its n ∧ its.size ≤ sizeLine ∧ Vals xs its.toList
theorem TupAt.sq {K : PySem.W.Frag} {H : Hp} {a : Addr} {xs : List V} (h : TupAt K H a xs) : SqT K H a xs := by
  cases h with
  | inl h => exact .inl (.inl h)
theorem RolAt.sq {K : PySem.W.Frag} {H : Hp} {a : Addr} {xs : List V} (h : RolAt K H a xs) : SqL K H a xs := by
  rcases h with ⟨o, h⟩ | h
  · exact .inl (.inr ⟨o, h⟩)
  · exact .inr h
mutual
inductive Rel (K : PySem.W.Frag) (H : Hp) : V → D → Prop
  | non : Rel K H .non .non
  | bl (b : Bool) : Rel K H (.bl b) (.bl b)
  | int (i : Int) : Rel K H (.int i) (.int i)
  | str (s : Str) : Rel K H (.str s) (.str s)
  | ty (n : String) : Rel K H (.ty n) (.ty n)
  | ref (a : Addr) : Rel K H (.ref a) (.ref a)
  | tup {a : Addr} {xs : List V} {ds : List D} : TupAt K H a xs → Rels K H xs ds → Rel K H (.ref a) (.tup ds)
  | rol {a : Addr} {xs : List V} {ds : List D} : RolAt K H a xs → Rels K H xs ds → Rel K H (.ref a) (.rol ds)
inductive Rels (K : PySem.W.Frag) (H : Hp) : List V → List D → Prop
  | nil : Rels K H [] []
  | cons {v : V} {vs : List V} {d : D} {ds : List D} : Rel K H v d → Rels K H vs ds → Rels K H (v :: vs) (d :: ds)
end
/-- field lists, pair lists -/
def RelKV {κ : Type} (K : PySem.W.Frag) (H : Hp) : List (κ × V) → List (κ × D) → Prop := Paired fun p q => p.1 = q.1 ∧ Rel K H p.2 q.2
def MRel (K : PySem.W.Frag) (H : Hp) (a : Addr) : MO → Prop
  | .lst ds => ∃ vs, H a = some (.lst vs) ∧ Rels K H vs ds
  | .dK kvs => ∃ vs, H a = some (.dK vs) ∧ RelKV K H vs kvs
  | .dT kvs => ∃ vs, H a = some (.dT vs) ∧ RelKV K H vs kvs
  | .ins C dx fs => ∃ vs, H a = some (.ins C dx vs) ∧ RelKV K H vs fs
  | .xd fs => ∃ vs, H a = some (.xd vs) ∧ RelKV K H vs fs
  | .fT od us kvs => ∃ vs, H a = some (.frz od (.dT vs)) ∧ RelKV K H vs kvs ∧ vs = us
  | .fK od us kvs => ∃ vs, H a = some (.frz od (.dK vs)) ∧ RelKV K H vs kvs ∧ vs = us
  | .fTp od ds => ∃ vs, H a = some (.frz od (.tup vs)) ∧ Rels K H vs ds ∧ od.dict = none
  | .xo od C => ∃ z : Addr, H a = some (.frz od (.own z)) ∧ od.cls = .ref C ∧ ∃ vs, od.data = .fields vs
  | .tab q => ∃ ps : Array Value, H a = some (.tbl ps) ∧ TriplesOk ps.toList ∧ ∀ (pos : Pos) (cv : Value), codeAmong pos ps.toList = some cv → ∃ c, cv = .ref c ∧ H c = some (LamX.CodeO c q)
def Con (K : PySem.W.Frag) (H : Hp) (μ : M) : Prop := ∀ a m, μ a = some m → MRel K H a m
abbrev T := List (Option D)
def Slots (K : PySem.W.Frag) (H : Hp) (τ : T) (σ : St) : Prop := τ.length = σ.length ∧ ∀ (i : Nat) (d : D), τ[i]? = some (some d) → ∃ v, σ[i]? = some (some v) ∧ Rel K H v d
/-- what is tracked outside of the store stays, and stays outside -/
def Fr (μ μ' : M) (H H' : Hp) : Prop := ∀ a o, μ a = none → H a = some o → H' a = some o ∧ μ' a = none
section
variable {K : PySem.W.Frag} {H H' H1 H2 : Hp} {μ μ' μ1 μ2 : M} {τ : T} {σ : St}
theorem Fr.refl : Fr μ μ H H := fun _ _ h e => ⟨e, h⟩
theorem Fr.trans (a : Fr μ μ1 H H1) (b : Fr μ1 μ2 H1 H2) : Fr μ μ2 H H2 := fun x o h e => let ⟨e1, h1⟩ := a x o h e; b x o h1 e1
theorem Con.tn (c : Con K H μ) {a : Addr} {xs : List V} (e : H a = some (.tup xs)) : μ a = none := by
  cases q : μ a with
  | none => rfl
  | some m =>
    have r := c a m q
    cases m <;> (obtain ⟨vs, h, _⟩ := r; rw [e] at h; cases h)
theorem Con.fn (c : Con K H μ) {a : Addr} {o : Obj} {u : List V} (e : H a = some (.frz o (.lst u))) : μ a = none := by
  cases q : μ a with
  | none => rfl
  | some m =>
    have r := c a m q
    cases m <;> (obtain ⟨vs, h, _⟩ := r; rw [e] at h; cases h)
theorem Con.free (c : Con K H μ) {a : Addr} (e : H a = none) : μ a = none := by
  cases q : μ a with
  | none => rfl
  | some m =>
    have r := c a m q
    cases m <;> (obtain ⟨vs, h, _⟩ := r; rw [e] at h; cases h)
/-- tuples and read-only lists stay -/
structure Tx (H H' : Hp) : Prop where
  t : ∀ a xs, H a = some (.tup xs) → H' a = some (.tup xs)
  l : ∀ a o xs, H a = some (.frz o (.lst xs)) → H' a = some (.frz o (.lst xs))
  c : ∀ a q, H a = some (LamX.CodeO a q) → H' a = some (LamX.CodeO a q)
theorem Con.cn (c : Con K H μ) {a : Addr} {q : Str} (e : H a = some (LamX.CodeO a q)) : μ a = none := by
  cases h : μ a with
  | none => rfl
  | some m =>
    have r := c a m h
    unfold LamX.CodeO at e
    cases m <;> (obtain ⟨vs, h, _⟩ := r; rw [e] at h; cases h)
theorem Tx.trans (a : Tx H H1) (b : Tx H1 H2) : Tx H H2 := ⟨fun x xs h => b.t x xs (a.t x xs h), fun x o xs h => b.l x o xs (a.l x o xs h), fun x q h => b.c x q (a.c x q h)⟩
theorem Fr.tx (f : Fr μ μ' H H') (c : Con K H μ) : Tx H H' := ⟨fun a xs e => (f a _ (c.tn e) e).1, fun a o xs e => (f a _ (c.fn e) e).1, fun a q e => (f a _ (c.cn e) e).1⟩
theorem TupAt.mono {a : Addr} {xs : List V} (t : Tx H H') (h : TupAt K H a xs) : TupAt K H' a xs := by
  cases h with
  | inl h => exact .inl (t.t _ _ h)
theorem RolAt.mono {a : Addr} {xs : List V} (t : Tx H H') (h : RolAt K H a xs) : RolAt K H' a xs := by
  rcases h with ⟨o, h⟩ | h
  · exact .inl ⟨o, t.l _ _ _ h⟩
  · exact .inr h
mutual
theorem Rel.mono (t : Tx H H') : ∀ (d : D) (v : V), Rel K H v d → Rel K H' v d
  | .non, _, .non => .non
  | .bl _, _, .bl b => .bl b
  | .int _, _, .int b => .int b
  | .str _, _, .str b => .str b
  | .ty _, _, .ty b => .ty b
  | .ref _, _, .ref b => .ref b
  | .tup ds, _, .tup h r => .tup (h.mono t) (Rels.mono t ds _ r)
  | .rol ds, _, .rol h r => .rol (h.mono t) (Rels.mono t ds _ r)
theorem Rels.mono (t : Tx H H') : ∀ (ds : List D) (vs : List V), Rels K H vs ds → Rels K H' vs ds
  | [], _, .nil => .nil
  | d :: ds, _, .cons a b => .cons (Rel.mono t d _ a) (Rels.mono t ds _ b)
end
theorem RelKV.mono {κ : Type} (t : Tx H H') : ∀ {xs : List (κ × V)} {ys : List (κ × D)}, RelKV K H xs ys → RelKV K H' xs ys
  | _, _, .nil => .nil
  | _, _, .cons a b => .cons ⟨a.1, Rel.mono t _ _ a.2⟩ (RelKV.mono t b)
theorem Slots.mono (t : Tx H H') (s : Slots K H τ σ) : Slots K H' τ σ := ⟨s.1, fun i d e => let ⟨v, h, r⟩ := s.2 i d e; ⟨v, h, Rel.mono t d v r⟩⟩
theorem Rels.length : ∀ {vs : List V} {ds : List D}, Rels K H vs ds → vs.length = ds.length
  | _, _, .nil => rfl
  | _, _, .cons _ b => by rw [List.length_cons, List.length_cons, Rels.length b]
theorem Rels.append : ∀ {vs ws : List V} {ds es : List D}, Rels K H vs ds → Rels K H ws es → Rels K H (vs ++ ws) (ds ++ es)
  | _, _, _, _, .nil, h => h
  | _, _, _, _, .cons a b, h => .cons a (Rels.append b h)
theorem Rels.get : ∀ {vs : List V} {ds : List D} {i : Nat} {d : D}, Rels K H vs ds → ds[i]? = some d → ∃ v, vs[i]? = some v ∧ Rel K H v d
  | _, _, i, d, .nil, e => by simp at e
  | _, _, 0, d, .cons a _, e => ⟨_, rfl, by simp at e; subst e; exact a⟩
  | _, _, i + 1, d, .cons _ b, e => by
    obtain ⟨v, h1, h2⟩ := Rels.get (i := i) (d := d) b (by simpa using e)
    exact ⟨v, by simpa using h1, h2⟩
theorem Rels.getV : ∀ {vs : List V} {ds : List D} {i : Nat} {v : V}, Rels K H vs ds → vs[i]? = some v → ∃ d, ds[i]? = some d ∧ Rel K H v d
  | _, _, i, d, .nil, e => by simp at e
  | _, _, 0, d, .cons a _, e => ⟨_, rfl, by simp at e; subst e; exact a⟩
  | _, _, i + 1, d, .cons _ b, e => by
    obtain ⟨v, h1, h2⟩ := Rels.getV (i := i) (v := d) b (by simpa using e)
    exact ⟨v, by simpa using h1, h2⟩
theorem Rels.set {v : V} {d : D} (r : Rel K H v d) : ∀ {vs : List V} {ds : List D} (i : Nat), Rels K H vs ds → Rels K H (vs.set i v) (ds.set i d)
  | _, _, _, .nil => .nil
  | _, _, 0, .cons _ b => .cons r b
  | _, _, i + 1, .cons a b => .cons a (Rels.set r i b)
theorem Rels.take : ∀ {vs : List V} {ds : List D} (n : Nat), Rels K H vs ds → Rels K H (vs.take n) (ds.take n)
  | _, _, 0, _ => .nil
  | _, _, _ + 1, .nil => .nil
  | _, _, n + 1, .cons a b => .cons a (Rels.take n b)
theorem Rels.drop : ∀ {vs : List V} {ds : List D} (n : Nat), Rels K H vs ds → Rels K H (vs.drop n) (ds.drop n)
  | _, _, 0, h => h
  | _, _, _ + 1, .nil => .nil
  | _, _, n + 1, .cons _ b => Rels.drop n b
theorem Slots.set {v : V} {d : D} (s : Slots K H τ σ) (r : Rel K H v d) (i : Nat) : Slots K H (τ.set i (some d)) (σ.set i (some v)) := by
  refine ⟨by rw [List.length_set, List.length_set]; exact s.1, fun j e h => ?_⟩
  by_cases hj : i = j
  · subst hj
    by_cases hi : i < τ.length
    · rw [List.getElem?_set_self hi] at h
      cases h
      exact ⟨v, by rw [List.getElem?_set_self (by rw [← s.1]; exact hi)], r⟩
    · rw [List.getElem?_eq_none (by rw [List.length_set]; omega)] at h; cases h
  · rw [List.getElem?_set_ne hj] at h
    obtain ⟨v', e', r'⟩ := s.2 j e h
    exact ⟨v', by rw [List.getElem?_set_ne hj]; exact e', r'⟩
/-- objects other than p are as they were: the store but p is borne again -/
theorem MRel.mono (t : Tx H H') {a : Addr} (e : H' a = H a) : ∀ {m : MO}, MRel K H a m → MRel K H' a m
  | .lst _, ⟨vs, h, r⟩ => ⟨vs, e.trans h, Rels.mono t _ _ r⟩
  | .dK _, ⟨vs, h, r⟩ => ⟨vs, e.trans h, RelKV.mono t r⟩
  | .dT _, ⟨vs, h, r⟩ => ⟨vs, e.trans h, RelKV.mono t r⟩
  | .ins _ _ _, ⟨vs, h, r⟩ => ⟨vs, e.trans h, RelKV.mono t r⟩
  | .xd _, ⟨vs, h, r⟩ => ⟨vs, e.trans h, RelKV.mono t r⟩
  | .fT _ _ _, ⟨vs, h, r, z⟩ => ⟨vs, e.trans h, RelKV.mono t r, z⟩
  | .fK _ _ _, ⟨vs, h, r, z⟩ => ⟨vs, e.trans h, RelKV.mono t r, z⟩
  | .fTp _ _, ⟨vs, h, r, z⟩ => ⟨vs, e.trans h, Rels.mono t _ _ r, z⟩
  | .xo _ _, ⟨u, h, r⟩ => ⟨u, e.trans h, r⟩
  | .tab _, ⟨ps, h, z, r⟩ => ⟨ps, e.trans h, z, fun pos cv q => let ⟨c, e1, e2⟩ := r pos cv q; ⟨c, e1, t.c _ _ e2⟩⟩
/-- a new untracked-by-the-store object -/
theorem tx_new {p : Addr} {o : HO} (n : H p = none) : Tx H (upd H p o) := ⟨fun a xs e => by rw [upd_ne (ne_of_none e n)]; exact e, fun a ob xs e => by rw [upd_ne (ne_of_none e n)]; exact e, fun a q e => by rw [upd_ne (ne_of_none e n)]; exact e⟩
theorem con_new {p : Addr} {o : HO} (n : H p = none) (c : Con K H μ) : Con K (upd H p o) μ := fun a m e => by
  have ha : a ≠ p := fun z => by subst z; rw [c.free n] at e; cases e
  exact (c a m e).mono (tx_new n) (upd_ne ha)
theorem fr_new {p : Addr} {o : HO} (n : H p = none) : Fr μ μ H (upd H p o) := fun a u h e => ⟨by rw [upd_ne (ne_of_none e n)]; exact e, h⟩
/-- .. and in the store -/
theorem con_put {p : Addr} {o : HO} {m : MO} (n : H p = none) (c : Con K H μ) (r : MRel K (upd H p o) p m) : Con K (upd H p o) (μ.set p m) := fun a m' e => by
  by_cases ha : a = p
  · subst ha; rw [set_same] at e; cases e; exact r
  · rw [set_ne ha] at e
    exact (c a m' e).mono (tx_new n) (upd_ne ha)
theorem fr_put {p : Addr} {o : HO} {m : MO} (n : H p = none) : Fr μ (μ.set p m) H (upd H p o) := fun a u h e => by
  have ha : a ≠ p := ne_of_none e n
  exact ⟨by rw [upd_ne ha]; exact e, by rw [set_ne ha]; exact h⟩
/-- an object of the store is changed -/
theorem tx_mut {p : Addr} {o : HO} {m : MO} (c : Con K H μ) (h : μ p = some m) : Tx H (upd H p o) :=
  ⟨fun a xs e => by rw [upd_ne (fun z => by subst z; rw [c.tn e] at h; cases h)]; exact e, fun a ob xs e => by rw [upd_ne (fun z => by subst z; rw [c.fn e] at h; cases h)]; exact e, fun a q e => by rw [upd_ne (fun z => by subst z; rw [c.cn e] at h; cases h)]; exact e⟩
theorem con_mut {p : Addr} {o : HO} {m m' : MO} (c : Con K H μ) (h : μ p = some m) (r : MRel K (upd H p o) p m') : Con K (upd H p o) (μ.set p m') := fun a u e => by
  by_cases ha : a = p
  · subst ha; rw [set_same] at e; cases e; exact r
  · rw [set_ne ha] at e
    exact (c a u e).mono (tx_mut c h) (upd_ne ha)
theorem fr_mut {p : Addr} {o : HO} {m m' : MO} (h : μ p = some m) : Fr μ (μ.set p m') H (upd H p o) := fun a u n e => by
  have ha : a ≠ p := fun z => by subst z; rw [n] at h; cases h
  exact ⟨by rw [upd_ne ha]; exact e, by rw [set_ne ha]; exact n⟩
/-- the store forgotten in part -/
def Sub (μ μ' : M) : Prop := ∀ a m, μ a = some m → μ' a = some m
theorem Sub.refl : Sub μ μ := fun _ _ h => h
theorem Sub.trans (a : Sub μ μ1) (b : Sub μ1 μ2) : Sub μ μ2 := fun x m h => b x m (a x m h)
theorem Sub.set {p : Addr} {m : MO} (h : μ p = none) : Sub μ (μ.set p m) := fun a m' e => by rw [set_ne (fun z => by subst z; rw [h] at e; cases e)]; exact e
theorem Con.sub (s : Sub μ μ') (c : Con K H μ') : Con K H μ := fun a m e => c a m (s a m e)
theorem Sub.none (s : Sub μ μ') {a : Addr} (h : μ' a = Option.none) : μ a = Option.none := by
  cases q : μ a with
  | none => rfl
  | some m => rw [s a m q] at h; cases h
theorem Fr.sub (f : Fr μ μ1 H H1) (s : Sub μ2 μ1) : Fr μ μ2 H H1 := fun a o n e => let ⟨e1, h1⟩ := f a o n e; ⟨e1, s.none h1⟩
end
def AE (K : PySem.W.Frag) (t : TE) (τ : T) (μ : M) (Φ : D → M → Prop) : Prop :=
  ∀ σ H, Slots K H τ σ → Con K H μ → ∀ Q : VK, (∀ d μ' v H', Fr μ μ' H H' → Con K H' μ' → Rel K H' v d → Φ d μ' → Q v H') → t σ H Q
def AA (K : PySem.W.Frag) (t : TA) (τ : T) (μ : M) (Φ : List D → M → Prop) : Prop :=
  ∀ σ H, Slots K H τ σ → Con K H μ → ∀ Q : List V → Hp → Prop, (∀ d μ' v H', Fr μ μ' H H' → Con K H' μ' → Rels K H' v d → Φ d μ' → Q v H') → t σ H Q
def AT (K : PySem.W.Frag) (t : TT) (τ : T) (μ : M) (Φ : Bool → M → Prop) : Prop :=
  ∀ σ H, Slots K H τ σ → Con K H μ → ∀ Q : Bool → Hp → Prop, (∀ b μ' H', Fr μ μ' H H' → Con K H' μ' → Φ b μ' → Q b H') → t σ H Q
structure AEnds where
  nx : T → M → Prop
  rt : D → M → Prop
  bk : T → M → Prop := fun _ _ => False
  ct : T → M → Prop := fun _ _ => False
  /-- what is wished of an exception; what the names of classes stand for; what holds where one is raised -/
  W : WX := fun _ _ _ _ => False
  cn : Str → Option Value := fun _ => none
  xs : Str → Option Addr → T → M → Prop := fun _ _ _ _ => False
/-- the concrete ends that follow from the abstract ones -/
structure EndsOk (K : PySem.W.Frag) (N : AEnds) (μ : M) (H : Hp) (E : Ends) : Prop where
  nx : ∀ τ' μ' σ' H', Fr μ μ' H H' → Con K H' μ' → Slots K H' τ' σ' → N.nx τ' μ' → E.nx σ' H'
  rt : ∀ d μ' v H', Fr μ μ' H H' → Con K H' μ' → Rel K H' v d → N.rt d μ' → E.rt v H'
  bk : ∀ τ' μ' σ' H', Fr μ μ' H H' → Con K H' μ' → Slots K H' τ' σ' → N.bk τ' μ' → E.bk σ' H'
  ct : ∀ τ' μ' σ' H', Fr μ μ' H H' → Con K H' μ' → Slots K H' τ' σ' → N.ct τ' μ' → E.ct σ' H'
  wx : ∀ x dx τ' μ' cls σ' H', N.cn x = some cls → Fr μ μ' H H' → Con K H' μ' → Slots K H' τ' σ' → N.xs x dx τ' μ' → N.W cls dx σ' H'
def AS (K : PySem.W.Frag) (t : TS) (τ : T) (μ : M) (N : AEnds) : Prop :=
  ∀ σ H, Slots K H τ σ → Con K H μ → ∀ E : Ends, EndsOk K N μ H E → t E σ H
/-- a target -/
def AG (K : PySem.W.Frag) (g : TG) (d : D) (τ : T) (μ : M) (Φ : T → M → Prop) : Prop :=
  ∀ σ H v, Slots K H τ σ → Con K H μ → Rel K H v d → ∀ Q : St → Hp → Prop, (∀ τ' μ' σ' H', Fr μ μ' H H' → Con K H' μ' → Slots K H' τ' σ' → Φ τ' μ' → Q σ' H') → g v σ H Q
def AGs (K : PySem.W.Frag) (g : TGs) (ds : List D) (τ : T) (μ : M) (Φ : T → M → Prop) : Prop :=
  ∀ σ H vs, Slots K H τ σ → Con K H μ → Rels K H vs ds → ∀ Q : St → Hp → Prop, (∀ τ' μ' σ' H', Fr μ μ' H H' → Con K H' μ' → Slots K H' τ' σ' → Φ τ' μ' → Q σ' H') → g vs σ H Q
/-- an operation on values -/
def RO (K : PySem.W.Frag) (r : R2) (d e : D) (μ : M) (Φ : D → M → Prop) : Prop :=
  ∀ H x y, Con K H μ → Rel K H x d → Rel K H y e → ∀ Q : VK, (∀ z μ' v H', Fr μ μ' H H' → Con K H' μ' → Rel K H' v z → Φ z μ' → Q v H') → r x y H Q
def RU (K : PySem.W.Frag) (r : V → Hp → VK → Prop) (d : D) (μ : M) (Φ : D → M → Prop) : Prop :=
  ∀ H x, Con K H μ → Rel K H x d → ∀ Q : VK, (∀ z μ' v H', Fr μ μ' H H' → Con K H' μ' → Rel K H' v z → Φ z μ' → Q v H') → r x H Q
def RC (K : PySem.W.Frag) (r : List V → Hp → VK → Prop) (ds : List D) (μ : M) (Φ : D → M → Prop) : Prop :=
  ∀ H xs, Con K H μ → Rels K H xs ds → ∀ Q : VK, (∀ z μ' v H', Fr μ μ' H H' → Con K H' μ' → Rel K H' v z → Φ z μ' → Q v H') → r xs H Q
section
variable {K : PySem.W.Frag} {τ : T} {μ : M} {Φ Ψ : D → M → Prop} {ta tb te : TE} {r : R2} {t u : TT} {x y z d e : D}
theorem AE.imp (h : AE K te τ μ Φ) (k : ∀ d μ', Φ d μ' → Ψ d μ') : AE K te τ μ Ψ := fun σ H s c Q q => h σ H s c Q fun d μ' v H' f c' r p => q d μ' v H' f c' r (k d μ' p)
theorem AT.imp {Φ Ψ : Bool → M → Prop} (h : AT K t τ μ Φ) (k : ∀ d μ', Φ d μ' → Ψ d μ') : AT K t τ μ Ψ := fun σ H s c Q q => h σ H s c Q fun d μ' H' f c' p => q d μ' H' f c' (k d μ' p)
theorem a_var {i : Nat} (h : τ[i]? = some (some d)) (q : Φ d μ) : AE K (tVar i) τ μ Φ := fun σ H s c Q k => by
  obtain ⟨v, e, r⟩ := s.2 i d h
  exact ⟨v, e, k d μ v H Fr.refl c r q⟩
theorem a_int {n : Int} (q : Φ (.int n) μ) : AE K (tC (.int n)) τ μ Φ := fun σ H s c Q k => k _ μ _ H Fr.refl c (.int n) q
theorem a_bl {n : Bool} (q : Φ (.bl n) μ) : AE K (tC (.bl n)) τ μ Φ := fun σ H s c Q k => k _ μ _ H Fr.refl c (.bl n) q
theorem a_str {n : Str} (q : Φ (.str n) μ) : AE K (tC (.str n)) τ μ Φ := fun σ H s c Q k => k _ μ _ H Fr.refl c (.str n) q
theorem a_non (q : Φ .non μ) : AE K (tC .non) τ μ Φ := fun σ H s c Q k => k _ μ _ H Fr.refl c .non q
theorem a_ty {n : String} (q : Φ (.ty n) μ) : AE K (tC (.ty n)) τ μ Φ := fun σ H s c Q k => k _ μ _ H Fr.refl c (.ty n) q
theorem a_op (h : AE K ta τ μ fun d μ1 => AE K tb τ μ1 fun e μ2 => RO K r d e μ2 Φ) : AE K (tOp r ta tb) τ μ Φ := fun σ H s c Q k =>
  h σ H s c _ fun d μ1 v H1 f1 c1 r1 p1 => p1 σ H1 (s.mono (f1.tx c)) c1 _ fun e μ2 u H2 f2 c2 r2 p2 =>
    p2 H2 v u c2 (Rel.mono (f2.tx c1) _ _ r1) r2 Q fun z μ' w H' f c' rz pz => k z μ' w H' ((f1.trans f2).trans f) c' rz pz
theorem a_un {r : V → Hp → VK → Prop} (h : AE K ta τ μ fun d μ1 => RU K r d μ1 Φ) : AE K (tUn r ta) τ μ Φ := fun σ H s c Q k =>
  h σ H s c _ fun d μ1 v H1 f1 c1 r1 p1 => p1 H1 v c1 r1 Q fun z μ' w H' f c' rz pz => k z μ' w H' (f1.trans f) c' rz pz
theorem aa_nil {Φ : List D → M → Prop} (q : Φ [] μ) : AA K tNil τ μ Φ := fun σ H s c Q k => k _ μ _ H Fr.refl c .nil q
theorem aa_cons {Φ : List D → M → Prop} {tr : TA} (h : AE K ta τ μ fun d μ1 => AA K tr τ μ1 fun ds μ2 => Φ (d :: ds) μ2) : AA K (tCons ta tr) τ μ Φ := fun σ H s c Q k =>
  h σ H s c _ fun d μ1 v H1 f1 c1 r1 p1 => p1 σ H1 (s.mono (f1.tx c)) c1 _ fun ds μ2 us H2 f2 c2 r2 p2 => k _ μ2 _ H2 (f1.trans f2) c2 (.cons (Rel.mono (f2.tx c1) _ _ r1) r2) p2
theorem a_tup {ta : TA} (h : AA K ta τ μ fun ds μ1 => ds.length ≤ sizeLine ∧ Φ (.tup ds) μ1) : AE K (tTup ta) τ μ Φ := fun σ H s c Q k =>
  h σ H s c _ fun ds μ1 vs H1 f1 c1 r1 ⟨hz, p1⟩ => ⟨by rw [r1.length]; exact hz, fun p hp => k _ μ1 _ _ (f1.trans (fr_new hp)) (con_new hp c1) (.tup (.inl upd_same) (Rels.mono (tx_new hp) _ _ r1)) p1⟩
theorem a_lst {ta : TA} (h : AA K ta τ μ fun ds μ1 => ds.length ≤ sizeLine ∧ ∀ p, μ1 p = none → Φ (.ref p) (μ1.set p (.lst ds))) : AE K (tLst ta) τ μ Φ := fun σ H s c Q k =>
  h σ H s c _ fun ds μ1 vs H1 f1 c1 r1 ⟨hz, p1⟩ => ⟨by rw [r1.length]; exact hz, fun p hp => k _ _ _ _ (f1.trans (fr_put hp)) (con_put (m := .lst ds) hp c1 ⟨vs, upd_same, Rels.mono (tx_new hp) _ _ r1⟩) (.ref p) (p1 p (c1.free hp))⟩
theorem a_cb {r : List V → Hp → VK → Prop} {ta : TA} (h : AA K ta τ μ fun ds μ1 => RC K r ds μ1 Φ) : AE K (tCB r ta) τ μ Φ := fun σ H s c Q k =>
  h σ H s c _ fun ds μ1 vs H1 f1 c1 r1 p1 => p1 H1 vs c1 r1 Q fun z μ' w H' f c' rz pz => k z μ' w H' (f1.trans f) c' rz pz
theorem a_if (h : AT K t τ μ fun b μ1 => if b = true then AE K ta τ μ1 Φ else AE K tb τ μ1 Φ) : AE K (tIf t ta tb) τ μ Φ := fun σ H s c Q k =>
  h σ H s c _ fun b μ1 H1 f1 c1 p1 => by
    cases b with
    | true => exact (show AE K ta τ μ1 Φ from p1) σ H1 (s.mono (f1.tx c)) c1 Q fun z μ' w H' f c' rz pz => k z μ' w H' (f1.trans f) c' rz pz
    | false => exact (show AE K tb τ μ1 Φ from p1) σ H1 (s.mono (f1.tx c)) c1 Q fun z μ' w H' f c' rz pz => k z μ' w H' (f1.trans f) c' rz pz
theorem a_andV (h : AE K ta τ μ fun d μ1 => ∃ b, d = .bl b ∧ if b = true then AE K tb τ μ1 Φ else Φ (.bl false) μ1) : AE K (tAndV ta tb) τ μ Φ := fun σ H s c Q k =>
  h σ H s c _ fun d μ1 v H1 f1 c1 r1 ⟨b, e, p1⟩ => by
    subst e
    cases r1
    refine ⟨b, rfl, ?_⟩
    cases b with
    | true => exact (show AE K tb τ μ1 Φ from p1) σ H1 (s.mono (f1.tx c)) c1 Q fun z μ' w H' f c' rz pz => k z μ' w H' (f1.trans f) c' rz pz
    | false => exact k _ μ1 _ H1 f1 c1 (.bl false) (show Φ (.bl false) μ1 from p1)
theorem a_orV (h : AE K ta τ μ fun d μ1 => ∃ b, d = .bl b ∧ if b = true then Φ (.bl true) μ1 else AE K tb τ μ1 Φ) : AE K (tOrV ta tb) τ μ Φ := fun σ H s c Q k =>
  h σ H s c _ fun d μ1 v H1 f1 c1 r1 ⟨b, e, p1⟩ => by
    subst e
    cases r1
    refine ⟨b, rfl, ?_⟩
    cases b with
    | true => exact k _ μ1 _ H1 f1 c1 (.bl true) (show Φ (.bl true) μ1 from p1)
    | false => exact (show AE K tb τ μ1 Φ from p1) σ H1 (s.mono (f1.tx c)) c1 Q fun z μ' w H' f c' rz pz => k z μ' w H' (f1.trans f) c' rz pz
theorem a_notV (h : AE K ta τ μ fun d μ1 => ∃ b, d = .bl b ∧ Φ (.bl (!b)) μ1) : AE K (tNotV ta) τ μ Φ := fun σ H s c Q k =>
  h σ H s c _ fun d μ1 v H1 f1 c1 r1 ⟨b, e, p1⟩ => by
    subst e
    cases r1
    exact ⟨b, rfl, k _ μ1 _ H1 f1 c1 (.bl _) p1⟩
variable {Θ : Bool → M → Prop}
theorem at_test (h : AE K te τ μ fun d μ1 => ∃ b, d = .bl b ∧ Θ b μ1) : AT K (tTest te) τ μ Θ := fun σ H s c Q k =>
  h σ H s c _ fun d μ1 v H1 f1 c1 r1 ⟨b, e, p1⟩ => by
    subst e
    cases r1
    exact ⟨b, rfl, k b μ1 H1 f1 c1 p1⟩
theorem at_B (h : AE K te τ μ fun d μ1 => ∃ b, d = .bl b ∧ Θ b μ1) : AT K (tB te) τ μ Θ := fun σ H s c Q k =>
  h σ H s c _ fun d μ1 v H1 f1 c1 r1 ⟨b, e, p1⟩ => by
    subst e
    cases r1
    exact ⟨b, rfl, k b μ1 H1 f1 c1 p1⟩
theorem at_and (h : AT K t τ μ fun b μ1 => if b = true then AT K u τ μ1 Θ else Θ false μ1) : AT K (tAnd t u) τ μ Θ := fun σ H s c Q k =>
  h σ H s c _ fun b μ1 H1 f1 c1 p1 => by
    cases b with
    | true => exact (show AT K u τ μ1 Θ from p1) σ H1 (s.mono (f1.tx c)) c1 Q fun z μ' H' f c' pz => k z μ' H' (f1.trans f) c' pz
    | false => exact k false μ1 H1 f1 c1 (show Θ false μ1 from p1)
theorem at_or (h : AT K t τ μ fun b μ1 => if b = true then Θ true μ1 else AT K u τ μ1 Θ) : AT K (tOr t u) τ μ Θ := fun σ H s c Q k =>
  h σ H s c _ fun b μ1 H1 f1 c1 p1 => by
    cases b with
    | true => exact k true μ1 H1 f1 c1 (show Θ true μ1 from p1)
    | false => exact (show AT K u τ μ1 Θ from p1) σ H1 (s.mono (f1.tx c)) c1 Q fun z μ' H' f c' pz => k z μ' H' (f1.trans f) c' pz
theorem at_not (h : AT K t τ μ fun b μ1 => Θ (!b) μ1) : AT K (tNot t) τ μ Θ := fun σ H s c Q k => h σ H s c _ fun b μ1 H1 f1 c1 p1 => k (!b) μ1 H1 f1 c1 p1
end
end Z
namespace Z
open PySem L2
section
variable {K : PySem.W.Frag} {τ : T} {μ μ1 μ2 : M} {H H1 H2 : Hp} {σ : L2.St} {Φ Ψ : D → M → Prop} {ta tb tc te : TE} {r r' : R2} {t u : TT} {x y z d e : D} {N : AEnds} {ts us : TS} {g : TG} {D0 E : Ends}
theorem EndsOk.step {μ' : M} {H' : Hp} (k : EndsOk K N μ H E) (f : Fr μ μ' H H') : EndsOk K N μ' H' E :=
  ⟨fun a b c d' f' => k.nx a b c d' (f.trans f'), fun a b c d' f' => k.rt a b c d' (f.trans f'), fun a b c d' f' => k.bk a b c d' (f.trans f'), fun a b c d' f' => k.ct a b c d' (f.trans f'), fun x1 x2 x3 x4 x5 x6 x7 x8 f' => k.wx x1 x2 x3 x4 x5 x6 x7 x8 (f.trans f')⟩
theorem s_seq (h : AS K ts τ μ { N with nx := fun τ' μ' => AS K us τ' μ' N }) : AS K (tSeq ts us) τ μ N := fun σ H s c E k =>
  h σ H s c _ ⟨fun τ' μ' σ' H' f c' s' p => p σ' H' s' c' E (k.step f), k.rt, k.bk, k.ct, k.wx⟩
theorem s_next (h : N.nx τ μ) : AS K tNext τ μ N := fun σ H s c E k => k.nx τ μ σ H Fr.refl c s h
theorem s_drop (h : AE K te τ μ fun _ μ' => N.nx τ μ') : AS K (tDrop te) τ μ N := fun σ H s c E k =>
  h σ H s c _ fun d μ' v H' f c' r p => k.nx τ μ' σ H' f c' (s.mono (f.tx c)) p
theorem s_ret (h : AE K te τ μ N.rt) : AS K (tRet te) τ μ N := fun σ H s c E k => h σ H s c _ fun d μ' v H' f c' r p => k.rt d μ' v H' f c' r p
theorem s_retN (h : N.rt .non μ) : AS K tRetN τ μ N := fun σ H s c E k => k.rt .non μ .non H Fr.refl c .non h
theorem s_if (h : AT K t τ μ fun b μ' => if b = true then AS K ts τ μ' N else AS K us τ μ' N) : AS K (tIfS t ts us) τ μ N := fun σ H s c E k =>
  h σ H s c _ fun b μ' H' f c' p => by
    cases b with
    | true => exact (show AS K ts τ μ' N from p) σ H' (s.mono (f.tx c)) c' E (k.step f)
    | false => exact (show AS K us τ μ' N from p) σ H' (s.mono (f.tx c)) c' E (k.step f)
theorem s_asg (h : AE K te τ μ fun d μ' => AG K g d τ μ' N.nx) : AS K (tAsg te g) τ μ N := fun σ H s c E k =>
  h σ H s c _ fun d μ' v H' f c' r p => p σ H' v (s.mono (f.tx c)) c' r _ fun τ2 μ2 σ2 H2 f2 c2 s2 q => k.nx τ2 μ2 σ2 H2 (f.trans f2) c2 s2 q
theorem g_name {i : Nat} {Θ : T → M → Prop} (h : Θ (τ.set i (some d)) μ) : AG K (gName i) d τ μ Θ := fun σ H v s c r Q k => k _ μ _ H Fr.refl c (s.set r i) h
theorem gs_nil {Θ : T → M → Prop} (h : Θ τ μ) : AGs K gNil [] τ μ Θ := fun σ H vs s c r Q k => by
  cases r
  exact ⟨rfl, k τ μ σ H Fr.refl c s h⟩
theorem gs_cons {gs : TGs} {ds : List D} {Θ : T → M → Prop} (h : AG K g d τ μ fun τ' μ' => AGs K gs ds τ' μ' Θ) : AGs K (gCons g gs) (d :: ds) τ μ Θ := fun σ H vs s c r Q k => by
  cases r with
  | cons r1 r2 =>
    rename_i v vs'
    exact ⟨v, vs', rfl, h σ H v s c r1 _ fun τ' μ' σ' H' f c' s' p => p σ' H' vs' s' c' (Rels.mono (f.tx c) _ _ r2) Q fun τ2 μ2 σ2 H2 f2 c2 s2 q => k τ2 μ2 σ2 H2 (f.trans f2) c2 s2 q⟩
theorem g_tup {n : Nat} {gs : TGs} {ds : List D} {Θ : T → M → Prop} (hn : ds.length = n) (h : AGs K gs ds τ μ Θ) : AG K (gTup K n gs) (.tup ds) τ μ Θ := fun σ H v s c r Q k => by
  cases r with
  | tup ht hr => exact ⟨_, _, rfl, ht.sq, by rw [hr.length]; exact hn, h σ H _ s c hr Q k⟩
/-- o[i] = v -/
def ASet (K : PySem.W.Frag) (t : TSet) (o i d : D) (μ : M) (Θ : M → Prop) : Prop :=
  ∀ H a b v, Con K H μ → Rel K H a o → Rel K H b i → Rel K H v d → ∀ Q : Hp → Prop, (∀ μ' H', Fr μ μ' H H' → Con K H' μ' → Θ μ' → Q H') → t a b v H Q
theorem g_sub {to ti : TE} {tset : TSet} {Θ : T → M → Prop} (h : AE K to τ μ fun o μ1 => AE K ti τ μ1 fun i μ2 => ASet K tset o i d μ2 fun μ3 => Θ τ μ3) : AG K (gSub to ti tset) d τ μ Θ := fun σ H v s c r Q k =>
  h σ H s c _ fun o μ1 a H1 f1 c1 r1 p1 => p1 σ H1 (s.mono (f1.tx c)) c1 _ fun i μ2 b H2 f2 c2 r2 p2 =>
    p2 H2 a b v c2 (Rel.mono (f2.tx c1) _ _ r1) r2 (Rel.mono ((f1.trans f2).tx c) _ _ r) _ fun μ3 H3 f3 c3 p3 => k τ μ3 σ H3 ((f1.trans f2).trans f3) c3 (s.mono (((f1.trans f2).trans f3).tx c)) p3
theorem s_par {i j : Nat} {ta : TA} (h : AA K ta τ μ fun ds μ' => ∃ d e, ds = [d, e] ∧ N.nx ((τ.set i (some d)).set j (some e)) μ') : AS K (tPar i j ta) τ μ N := fun σ H s c E k =>
  h σ H s c _ fun ds μ' vs H' f c' r ⟨d, e, q, p⟩ => by
    subst q
    cases r with
    | cons r1 r2 =>
      cases r2 with
      | cons r2 r3 =>
        cases r3
        exact ⟨_, _, rfl, k.nx _ μ' _ H' f c' (((s.mono (f.tx c)).set r1 i).set r2 j) p⟩
/-- a op= b, by values -/
theorem s_aug {i : Nat} {ti : TIp} (hx : τ[i]? = some (some d)) (h : AE K te τ μ fun e μ1 => RO K ti d e μ1 fun z μ2 => N.nx (τ.set i (some z)) μ2) : AS K (tAug i te ti) τ μ N := fun σ H s c E k => by
  obtain ⟨v, e1, r1⟩ := s.2 i d hx
  exact ⟨v, e1, h σ H s c _ fun e μ1 u H1 f1 c1 r2 p1 => p1 H1 v u c1 (Rel.mono (f1.tx c) _ _ r1) r2 _ fun z μ2 w H2 f2 c2 rz p2 =>
    k.nx _ μ2 _ H2 (f1.trans f2) c2 ((s.mono ((f1.trans f2).tx c)).set rz i) p2⟩
theorem AS.imp {nx' bk' ct' : T → M → Prop} {rt' : D → M → Prop} (h : AS K ts τ μ N) (h1 : ∀ a b, N.nx a b → nx' a b) (h2 : ∀ a b, N.rt a b → rt' a b) (h3 : ∀ a b, N.bk a b → bk' a b) (h4 : ∀ a b, N.ct a b → ct' a b) : AS K ts τ μ { N with nx := nx', rt := rt', bk := bk', ct := ct' } := fun σ H s c E q =>
  h σ H s c E ⟨fun a b c' d' f x y p => q.nx a b c' d' f x y (h1 _ _ p), fun a b c' d' f x y p => q.rt a b c' d' f x y (h2 _ _ p), fun a b c' d' f x y p => q.bk a b c' d' f x y (h3 _ _ p), fun a b c' d' f x y p => q.ct a b c' d' f x y (h4 _ _ p), q.wx⟩
theorem s_while {tt : TT} {tb : TS} (W : Nat → T → M → Prop) (m0 : Nat) (h0 : W m0 τ μ)
    (hs : ∀ m τ' μ', W m τ' μ' → AT K tt τ' μ' fun b μ1 => if b = true then AS K tb τ' μ1 { N with nx := fun τ2 μ2 => ∃ m', m' < m ∧ W m' τ2 μ2, ct := fun τ2 μ2 => ∃ m', m' < m ∧ W m' τ2 μ2, bk := N.nx } else N.nx τ' μ1) :
    AS K (tWhile tt tb) τ μ N := fun σ H s c E k =>
  ⟨fun m σ' H' => ∃ τ' μ', Fr μ μ' H H' ∧ Con K H' μ' ∧ Slots K H' τ' σ' ∧ W m τ' μ', ⟨m0, τ, μ, Fr.refl, c, s, h0⟩, fun m σ' H' ⟨τ', μ', f, c', s', w⟩ =>
    hs m τ' μ' w σ' H' s' c' _ fun b μ1 H1 f1 c1 p => by
      cases b with
      | true =>
        refine ⟨fun σ2 H2 => ∃ m', m' < m ∧ ∃ τ' μ', Fr μ μ' H H2 ∧ Con K H2 μ' ∧ Slots K H2 τ' σ2 ∧ W m' τ' μ', fun σ2 H2 q => q, ?_⟩
        refine (show AS K tb τ' μ1 _ from p) σ' H1 (s'.mono (f1.tx c')) c1 _ ⟨fun τ2 μ2 σ2 H2 f2 c2 s2 ⟨m', hm, w'⟩ => ⟨m', hm, τ2, μ2, (f.trans f1).trans f2, c2, s2, w'⟩, fun d' μ2 v H2 f2 => k.rt d' μ2 v H2 ((f.trans f1).trans f2), fun τ2 μ2 σ2 H2 f2 c2 s2 q => k.nx τ2 μ2 σ2 H2 ((f.trans f1).trans f2) c2 s2 q, fun τ2 μ2 σ2 H2 f2 c2 s2 ⟨m', hm, w'⟩ => ⟨m', hm, τ2, μ2, (f.trans f1).trans f2, c2, s2, w'⟩, fun x1 x2 x3 x4 x5 x6 x7 x8 f' => k.wx x1 x2 x3 x4 x5 x6 x7 x8 ((f.trans f1).trans f')⟩
      | false => exact k.nx τ' μ1 σ' H1 (f.trans f1) c1 (s'.mono (f1.tx c')) (show N.nx τ' μ1 from p)⟩
/-- the ends of a turn -/
def turnE (N : AEnds) (P : T → M → Prop) : AEnds := { N with nx := P, ct := P, bk := N.nx }
theorem turn_ok {μ0 : M} {H0 : Hp} {P : T → M → Prop} {Pc : L2.St → Hp → Prop} (k : EndsOk K N μ0 H0 E) (f : Fr μ0 μ H0 H) (hp : ∀ τ' μ' σ' H', Fr μ0 μ' H0 H' → Con K H' μ' → Slots K H' τ' σ' → P τ' μ' → Pc σ' H') :
    EndsOk K (turnE N P) μ H { E with nx := Pc, ct := Pc, bk := E.nx } :=
  ⟨fun τ' μ' σ' H' f' c s p => hp τ' μ' σ' H' (f.trans f') c s p, fun d' μ' v H' f' => k.rt d' μ' v H' (f.trans f'), fun τ' μ' σ' H' f' => k.nx τ' μ' σ' H' (f.trans f'), fun τ' μ' σ' H' f' c s p => hp τ' μ' σ' H' (f.trans f') c s p, fun x1 x2 x3 x4 x5 x6 x7 x8 f' => k.wx x1 x2 x3 x4 x5 x6 x7 x8 (f.trans f')⟩
/-- the list a is set aside while it is walked -/
def M.del (μ : M) (a : Addr) : M := fun b => if b = a then none else μ b
theorem del_same {a : Addr} : μ.del a a = none := by unfold M.del; rw [if_pos rfl]
theorem del_ne {a b : Addr} (h : b ≠ a) : μ.del a b = μ b := by unfold M.del; rw [if_neg h]
theorem del_sub {a : Addr} : Sub (μ.del a) μ := fun b m e => by
  by_cases h : b = a
  · subst h; rw [del_same] at e; cases e
  · rw [del_ne h] at e; exact e
theorem del_set {a : Addr} {m : MO} (h : μ a = some m) : (μ.del a).set a m = μ := by
  funext b
  by_cases hb : b = a
  · subst hb; rw [set_same, h]
  · rw [set_ne hb, del_ne hb]
theorem fr_back {μ0 μ' : M} {H0 H' : Hp} {a : Addr} {m m' : MO} (ha : μ1 a = some m) (f1 : Fr μ0 μ1 H0 H1) (f : Fr (μ1.del a) μ' H1 H') : Fr μ0 (μ'.set a m') H0 H' := fun x o n e => by
  obtain ⟨e1, n1⟩ := f1 x o n e
  have hx : x ≠ a := fun z => by subst z; rw [n1] at ha; cases ha
  obtain ⟨e2, n2⟩ := f x o (by rw [del_ne hx]; exact n1) e1
  exact ⟨e2, by rw [set_ne hx]; exact n2⟩
theorem con_back {μ' : M} {a : Addr} {m : MO} (c : Con K H μ') (r : MRel K H a m) : Con K H (μ'.set a m) := fun x u e => by
  by_cases hx : x = a
  · subst hx; rw [set_same] at e; cases e; exact r
  · rw [set_ne hx] at e; exact c x u e
/-- for over a range -/
theorem s_forN {wi : TI} {lo : Int} {n : Nat} {tb : TS} (P : Nat → T → M → Prop) (hw : ∀ σ H, Slots K H τ σ → Con K H μ → ∀ R : It → Hp → Prop, (∀ μ1 H1, Fr μ μ1 H H1 → Con K H1 μ1 → P 0 τ μ1 → R (Itr lo n) H1) → wi σ H R)
    (hs : ∀ (i : Nat) τ' μ', i < n → P i τ' μ' → AG K g (.int (lo + i)) τ' μ' fun τ2 μ2 => AS K tb τ2 μ2 (turnE N (P (i + 1)))) (hd : ∀ τ' μ', P n τ' μ' → N.nx τ' μ') : AS K (tFor wi g tb) τ μ N := fun σ H s c E k =>
  hw σ H s c _ fun μ1 H1 f1 c1 p0 => by
    refine for_range (lo := lo) (n := n) (fun i σ' H' => ∃ τ' μ', Fr μ μ' H H' ∧ Con K H' μ' ∧ Slots K H' τ' σ' ∧ P i τ' μ') ⟨τ, μ1, f1, c1, s.mono (f1.tx c), p0⟩ ?_ ?_
    · rintro i σ' H' hi ⟨τ', μ', f, c', s', p⟩
      refine hs i τ' μ' hi p σ' H' _ s' c' (.int _) _ fun τ2 μ2 σ2 H2 f2 c2 s2 q => ?_
      exact q σ2 H2 s2 c2 _ (turn_ok (k.step f) f2 fun τ3 μ3 σ3 H3 f3 c3 s3 p3 => ⟨τ3, μ3, f.trans f3, c3, s3, p3⟩)
    · rintro σ' H' ⟨τ', μ', f, c', s', p⟩
      exact k.nx τ' μ' σ' H' f c' s' (hd τ' μ' p)
theorem s_for1 {ta : TA} {tb : TS} (n : Int) (P : Nat → T → M → Prop) (h : AA K ta τ μ fun ds μ1 => ds = [.int n] ∧ -(2 ^ 62) ≤ n ∧ n < 2 ^ 62 ∧ P 0 τ μ1)
    (hs : ∀ (i : Nat) τ' μ', (i : Int) < n → P i τ' μ' → AG K g (.int i) τ' μ' fun τ2 μ2 => AS K tb τ2 μ2 (turnE N (P (i + 1)))) (hd : ∀ τ' μ', P n.toNat τ' μ' → N.nx τ' μ') : AS K (tFor (iRng1 ta) g tb) τ μ N := by
  refine s_forN (lo := 0) (n := n.toNat) P (fun σ H s c R k => h σ H s c _ fun ds μ1 vs H1 f1 c1 r1 ⟨e, h1, h2, p⟩ => ?_) (fun i τ' μ' hi p => ?_) hd
  · subst e
    cases r1 with
    | cons r rr =>
      cases r
      cases rr
      exact ⟨n, rfl, h1, h2, k μ1 H1 f1 c1 p⟩
  · rw [Int.zero_add]
    exact hs i τ' μ' (by omega) p
end
end Z
namespace Z
open PySem L2
def seqD (μ : M) : D → Option (List D)
  | .tup ds => some ds
  | .rol ds => some ds
  | .ref a => match μ a with
    | some (.lst ds) => some ds
    | _ => none
  | _ => none
section
variable {K : PySem.W.Frag} {τ : T} {μ μ1 μ2 : M} {H H1 H2 : Hp} {σ : L2.St} {Φ Ψ : D → M → Prop} {ta tb tc te : TE} {r r' : R2} {t u : TT} {x y z d e : D} {N : AEnds} {ts us : TS}
theorem seq_of {v : V} {ds : List D} (c : Con K H μ) (r : Rel K H v d) (h : seqD μ d = some ds) : ∃ a xs, v = .ref a ∧ (SqL K H a xs ∨ SqT K H a xs) ∧ Rels K H xs ds := by
  cases r with
  | tup ht hr => cases h; exact ⟨_, _, rfl, .inr ht.sq, hr⟩
  | rol ht hr => cases h; exact ⟨_, _, rfl, .inl ht.sq, hr⟩
  | ref a =>
    unfold seqD at h
    simp only at h
    split at h
    · rename_i ds' e
      cases h
      obtain ⟨xs, h1, h2⟩ := c _ _ e
      exact ⟨_, xs, rfl, .inl (SqL.of h1), h2⟩
    · cases h
  | non => cases h
  | bl => cases h
  | int => cases h
  | str => cases h
  | ty => cases h
theorem ro_i {f : Int → Int → Int} {i j : Int} (q : Φ (.int (f i j)) μ) : RO K (rI0 fun i j => V.int (f i j)) (.int i) (.int j) μ Φ := fun H x y c r1 r2 Q k => by
  cases r1; cases r2
  exact ⟨i, j, rfl, rfl, k _ μ _ H Fr.refl c (.int _) q⟩
theorem ro_b {f : Int → Int → Bool} {i j : Int} (q : Φ (.bl (f i j)) μ) : RO K (rI0 fun i j => V.bl (f i j)) (.int i) (.int j) μ Φ := fun H x y c r1 r2 Q k => by
  cases r1; cases r2
  exact ⟨i, j, rfl, rfl, k _ μ _ H Fr.refl c (.bl _) q⟩
theorem ro_c {C : Int → Int → Prop} {f : Int → Int → Int} {i j : Int} (hc : C i j) (q : Φ (.int (f i j)) μ) : RO K (rI C fun i j => V.int (f i j)) (.int i) (.int j) μ Φ := fun H x y c r1 r2 Q k => by
  cases r1; cases r2
  exact ⟨i, j, rfl, rfl, hc, k _ μ _ H Fr.refl c (.int _) q⟩
theorem ru_i {f : Int → Int} {i : Int} (q : Φ (.int (f i)) μ) : RU K (rU fun i => V.int (f i)) (.int i) μ Φ := fun H x c r1 Q k => by
  cases r1
  exact ⟨i, rfl, k _ μ _ H Fr.refl c (.int _) q⟩
theorem at_len {xs : List V} {ds : List D} {i : Int} {d : D} (r : Rels K H xs ds) (h : atI ds i = some d) : ∃ v, atI xs i = some v ∧ Rel K H v d := by
  unfold atI at h ⊢
  rw [r.length]
  cases e : ixN ds.length i with
  | none => rw [e] at h; cases h
  | some j =>
    rw [e] at h
    exact r.get h
theorem ro_ix {ds : List D} {i : Int} (hs : seqD μ d = some ds) (hi : atI ds i = some e) (q : Φ e μ) : RO K (rIx K) d (.int i) μ Φ := fun H x y c r1 r2 Q k => by
  cases r2
  obtain ⟨a, xs, rfl, hq, hr⟩ := seq_of c r1 hs
  obtain ⟨v, hv, rv⟩ := at_len hr hi
  rcases hq with hq | hq
  · exact .inl ⟨a, xs, i, v, rfl, rfl, hq, hv, k e μ v H Fr.refl c rv q⟩
  · exact .inr (.inl ⟨a, xs, i, v, rfl, rfl, hq, hv, k e μ v H Fr.refl c rv q⟩)
theorem set_lst {a : Addr} {ds : List D} {i : Int} {j : Nat} {Θ : M → Prop} (h : μ a = some (.lst ds)) (hi : ixN ds.length i = some j) (q : Θ (μ.set a (.lst (ds.set j d)))) : ASet K rSetL (.ref a) (.int i) d μ Θ := fun H x y v c r1 r2 r3 Q k => by
  cases r1; cases r2
  obtain ⟨xs, hx, hr⟩ := c a _ h
  exact ⟨a, xs, i, j, rfl, rfl, hx, by rw [hr.length]; exact hi, k _ _ (fr_mut h) (con_mut (m' := .lst (ds.set j d)) c h ⟨_, upd_same, Rels.mono (tx_mut c h) _ _ (Rels.set r3 j hr)⟩) q⟩
mutual
def D.py : D → PyData
  | .bl b => .bool b
  | .int i => .int i
  | .str s => .str s
  | .tup ds => .tuple (D.pys ds)
  | _ => .none
def D.pys : List D → List PyData
  | [] => []
  | d :: ds => D.py d :: D.pys ds
end
mutual
/-- None, truths, ints, texts and tuples of them -/
def D.plain : D → Bool
  | .non => true
  | .bl _ => true
  | .int _ => true
  | .str _ => true
  | .tup ds => D.plains ds
  | _ => false
def D.plains : List D → Bool
  | [] => true
  | d :: ds => D.plain d && D.plains ds
end
mutual
theorem Rel.dp : ∀ (d : D) (v : V), Rel K H v d → D.plain d = true → Dp K H v (D.py d)
  | .non, _, .non, _ => by simp only [D.py]; exact .non
  | .bl _, _, .bl b, _ => by simp only [D.py]; exact .bl b
  | .int _, _, .int b, _ => by simp only [D.py]; exact .int b
  | .str _, _, .str b, _ => by simp only [D.py]; exact .str b
  | .tup ds, _, .tup h r, p => by simp only [D.py]; exact .tup h.sq (Rels.dp ds _ r (by simpa only [D.plain] using p))
  | .ty _, _, _, p => by simp [D.plain] at p
  | .ref _, _, _, p => by simp [D.plain] at p
  | .rol _, _, _, p => by simp [D.plain] at p
theorem Rels.dp : ∀ (ds : List D) (vs : List V), Rels K H vs ds → D.plains ds = true → DpAll K H vs (D.pys ds)
  | [], _, .nil, _ => by simp only [D.pys]; exact .nil
  | d :: ds, _, .cons a b, p => by
    simp only [D.plains, Bool.and_eq_true] at p
    simp only [D.pys]
    exact .cons (Rel.dp d _ a p.1) (Rels.dp ds _ b p.2)
end
/-- plain and not too deep -/
def D.ok (d : D) : Bool := D.plain d && SeqAt.shaped (D.py d)
def D.eqv (d e : D) : Bool := PyData.eqv (D.py d) (D.py e)
theorem ro_eqD (h1 : D.ok d = true) (h2 : D.ok e = true) (q : Φ (.bl (D.eqv d e)) μ) : RO K (rEqD K) d e μ Φ := fun H x y c r1 r2 Q k => by
  unfold D.ok at h1 h2
  rw [Bool.and_eq_true] at h1 h2
  exact ⟨_, _, Rel.dp _ _ r1 h1.1, Rel.dp _ _ r2 h2.1, h1.2, h2.2, k _ μ _ H Fr.refl c (.bl _) q⟩
theorem ro_neD (h1 : D.ok d = true) (h2 : D.ok e = true) (q : Φ (.bl (!D.eqv d e)) μ) : RO K (rNeD K) d e μ Φ := fun H x y c r1 r2 Q k => by
  unfold D.ok at h1 h2
  rw [Bool.and_eq_true] at h1 h2
  exact ⟨_, _, Rel.dp _ _ r1 h1.1, Rel.dp _ _ r2 h2.1, h1.2, h2.2, k _ μ _ H Fr.refl c (.bl _) q⟩
theorem ro_eqI {i j : Int} (q : Φ (.bl (decide (i = j))) μ) : RO K rEq (.int i) (.int j) μ Φ := fun H x y c r1 r2 Q k => by
  cases r1; cases r2
  refine ⟨rfl, ?_⟩
  have e : decide (V.int i = V.int j) = decide (i = j) := by simp
  rw [e]
  exact k _ μ _ H Fr.refl c (.bl _) q
theorem ro_neI {i j : Int} (q : Φ (.bl (!decide (i = j))) μ) : RO K rNe (.int i) (.int j) μ Φ := fun H x y c r1 r2 Q k => by
  cases r1; cases r2
  refine ⟨rfl, ?_⟩
  have e : decide (V.int i = V.int j) = decide (i = j) := by simp
  rw [e]
  exact k _ μ _ H Fr.refl c (.bl _) q
theorem ro_eqB {i j : Bool} (q : Φ (.bl (decide (i = j))) μ) : RO K rEq (.bl i) (.bl j) μ Φ := fun H x y c r1 r2 Q k => by
  cases r1; cases r2
  refine ⟨rfl, ?_⟩
  have e : decide (V.bl i = V.bl j) = decide (i = j) := by simp
  rw [e]
  exact k _ μ _ H Fr.refl c (.bl _) q
theorem ro_neB {i j : Bool} (q : Φ (.bl (!decide (i = j))) μ) : RO K rNe (.bl i) (.bl j) μ Φ := fun H x y c r1 r2 Q k => by
  cases r1; cases r2
  refine ⟨rfl, ?_⟩
  have e : decide (V.bl i = V.bl j) = decide (i = j) := by simp
  rw [e]
  exact k _ μ _ H Fr.refl c (.bl _) q
theorem rc_abs {i : Int} (q : Φ (.int (if i < 0 then -i else i)) μ) : RC K (fun xs H Q => ∃ i, xs = [V.int i] ∧ Q (.int (if i < 0 then -i else i)) H) [.int i] μ Φ := fun H xs c r1 Q k => by
  cases r1 with
  | cons a b => cases a; cases b; exact ⟨i, rfl, k _ μ _ H Fr.refl c (.int _) q⟩
theorem rc_max {i j : Int} (q : Φ (.int (if j > i then j else i)) μ) : RC K (fun xs H Q => ∃ i j, xs = [V.int i, V.int j] ∧ Q (.int (if j > i then j else i)) H) [.int i, .int j] μ Φ := fun H xs c r1 Q k => by
  cases r1 with
  | cons a b => cases a; cases b with
    | cons a b => cases a; cases b; exact ⟨i, j, rfl, k _ μ _ H Fr.refl c (.int _) q⟩
theorem rc_min {i j : Int} (q : Φ (.int (if j < i then j else i)) μ) : RC K (fun xs H Q => ∃ i j, xs = [V.int i, V.int j] ∧ Q (.int (if j < i then j else i)) H) [.int i, .int j] μ Φ := fun H xs c r1 Q k => by
  cases r1 with
  | cons a b => cases a; cases b with
    | cons a b => cases a; cases b; exact ⟨i, j, rfl, k _ μ _ H Fr.refl c (.int _) q⟩
theorem rc_intB {b : Bool} (q : Φ (.int (if b then 1 else 0)) μ) : RC K (fun xs H Q => (∃ i, xs = [V.int i] ∧ Q (.int i) H) ∨ ∃ k, xs = [V.bl k] ∧ Q (.int (if k then 1 else 0)) H) [.bl b] μ Φ := fun H xs c r1 Q k => by
  cases r1 with
  | cons a b => cases a; cases b; exact .inr ⟨_, rfl, k _ μ _ H Fr.refl c (.int _) q⟩
theorem rc_intI {b : Int} (q : Φ (.int b) μ) : RC K (fun xs H Q => (∃ i, xs = [V.int i] ∧ Q (.int i) H) ∨ ∃ k, xs = [V.bl k] ∧ Q (.int (if k then 1 else 0)) H) [.int b] μ Φ := fun H xs c r1 Q k => by
  cases r1 with
  | cons a b => cases a; cases b; exact .inl ⟨_, rfl, k _ μ _ H Fr.refl c (.int _) q⟩
theorem rc_len {ds : List D} (h : seqD μ d = some ds) (q : Φ (.int ds.length) μ) : RC K (fun xs H Q => ∃ x n, xs = [x] ∧ LenV K x H n ∧ Q (.int n) H) [d] μ Φ := fun H xs c r1 Q k => by
  cases r1 with
  | cons a b =>
    cases b
    obtain ⟨p, xs, rfl, hq, hr⟩ := seq_of c a h
    refine ⟨_, ds.length, rfl, ?_, k _ μ _ H Fr.refl c (.int _) q⟩
    rcases hq with hq | hq
    · exact .inl ⟨xs, hq, hr.length.symm⟩
    · exact .inr ⟨xs, hq, hr.length.symm⟩
theorem m_append {to : TE} {a : Addr} {ds : List D} (h : AE K to τ μ fun o μ1 => o = .ref a ∧ (∃ es, μ1 a = some (.lst es)) ∧ AE K te τ μ1 fun d μ2 => μ2 a = some (.lst ds) ∧ ds.length < sizeLine ∧ Φ .non (μ2.set a (.lst (ds ++ [d])))) :
    AE K (tBM K "list" rAppend to (tCons te tNil)) τ μ Φ := fun σ H s c Q k =>
  h σ H s c _ fun o μ1 v H1 f1 c1 r1 ⟨e, ⟨es, he⟩, p1⟩ => by
    subst e
    cases r1
    obtain ⟨xs, hx, hr⟩ := c1 a _ he
    refine ⟨.inl ⟨rfl, xs, SqL.of hx⟩, p1 σ H1 (s.mono (f1.tx c)) c1 _ fun d μ2 u H2 f2 c2 r2 ⟨h2, hz, q⟩ => ?_⟩
    obtain ⟨ys, hy, hr2⟩ := c2 a _ h2
    exact ⟨a, ys, u, rfl, rfl, hy, by rw [hr2.length]; exact hz, k _ _ _ _ ((f1.trans f2).trans (fr_mut h2)) (con_mut (m' := .lst (ds ++ [d])) c2 h2 ⟨_, upd_same, Rels.mono (tx_mut c2 h2) _ _ (hr2.append (.cons r2 .nil))⟩) .non q⟩
end
end Z
namespace Z
open PySem L2
/-- a promise by what it asks and gives over the store: P args store wish -/
abbrev PT3 := List D → M → (D → M → Prop) → Prop
def spI (K : PySem.W.Frag) (P : PT3) : Sp := fun vs H Q _ => ∃ ds μ Φ, Rels K H vs ds ∧ Z.Con K H μ ∧ P ds μ Φ ∧ ∀ d μ' v H', Fr μ μ' H H' → Z.Con K H' μ' → Rel K H' v d → Φ d μ' → Q v H'
def startD (n : Nat) (ds : List D) : T := ds.map some ++ List.replicate (n - ds.length) none
section
variable {K : PySem.W.Frag} {τ : T} {μ μ1 μ2 : M} {H H1 H2 : Hp} {σ : L2.St} {Φ Ψ : D → M → Prop} {ta tb tc te : TE} {r r' : R2} {t u : TT} {x y z d e : D} {N : AEnds} {ts us : TS} {P : PT3} {E : XK}
theorem slots_start {Ns : List Str} : ∀ {vs : List V} {ds : List D}, Rels K H vs ds → Slots K H (startD Ns.length ds) (L2.start Ns vs) := by
  intro vs ds r
  have hl := r.length
  refine ⟨by unfold startD L2.start; simp only [List.length_append, List.length_map, List.length_replicate]; omega, fun i d e => ?_⟩
  unfold startD at e
  by_cases hi : i < ds.length
  · rw [List.getElem?_append_left (by rw [List.length_map]; exact hi), List.getElem?_map] at e
    cases q : ds[i]? with
    | none => rw [q] at e; cases e
    | some d' =>
      rw [q] at e
      have e2 : d' = d := Option.some.inj (Option.some.inj e)
      subst e2
      obtain ⟨v, h1, h2⟩ := r.get q
      refine ⟨v, ?_, h2⟩
      unfold L2.start
      rw [List.getElem?_append_left (by rw [List.length_map]; omega), List.getElem?_map, h1]
      rfl
  · rw [List.getElem?_append_right (by rw [List.length_map]; omega), List.getElem?_replicate] at e
    split at e <;> cases e
theorem spI_len {vs : List V} {Q : VK} {n : Nat} (h : spI K P vs H Q E) (hn : ∀ ds μ Φ, P ds μ Φ → ds.length = n) : vs.length = n := by
  obtain ⟨ds, μ, Φ, r, _, p, _⟩ := h
  rw [r.length]; exact hn _ _ _ p
/-- a body keeps its promise -/
theorem body_ok {Ns : List Str} {vs : List V} {Q : VK} (h : spI K P vs H Q E) (hb : ∀ ds μ Φ, P ds μ Φ → AS K ts (startD Ns.length ds) μ { nx := fun _ μ' => Φ .non μ', rt := Φ }) :
    ts { nx := fun _ H' => Q .non H', rt := Q } (L2.start Ns vs) H := by
  obtain ⟨ds, μ, Φ, r, c, p, k⟩ := h
  exact hb ds μ Φ p _ H (slots_start r) c _ ⟨fun _ μ' _ H' f c' _ q => k .non μ' .non H' f c' .non q, fun d μ' v H' f c' r' q => k d μ' v H' f c' r' q, fun _ _ _ _ _ _ _ q => q.elim, fun _ _ _ _ _ _ _ q => q.elim, fun _ _ _ _ _ _ _ _ _ _ _ q => q.elim⟩
/-- a call -/
theorem a_call {ta : TA} (h : AA K ta τ μ fun ds μ1 => P ds μ1 Φ) : AE K (tCall (spI K P) [] E ta) τ μ Φ := fun σ H s c Q k =>
  h σ H s c _ fun ds μ1 vs H1 f1 c1 r1 p => by
    show spI K P (vs ++ []) H1 Q E
    rw [List.append_nil]
    exact ⟨ds, μ1, Φ, r1, c1, p, fun d μ' v H' f c' r q => k d μ' v H' (f1.trans f) c' r q⟩
end
end Z
namespace Z
open PySem L2
def sets {α : Type} : List (Option α) → List Nat → List α → List (Option α)
  | l, j :: js, d :: ds => sets (l.set j (some d)) js ds
  | l, _, _ => l
theorem wipe_at (σ : L2.St) (i : Nat) : ∀ vs : List Nat, (wipe σ vs)[i]? = if i ∈ vs then (σ[i]?).map fun _ => none else σ[i]?
  | [] => by simp [wipe]
  | v :: vs => by
    have ih := wipe_at σ i vs
    unfold wipe
    by_cases h : v = i
    · subst h
      rw [if_pos (List.mem_cons_self)]
      by_cases hl : v < (wipe σ vs).length
      · rw [List.getElem?_set_self hl]
        rw [wipe_length] at hl
        rw [List.getElem?_eq_getElem hl]
        rfl
      · rw [List.getElem?_eq_none (by rw [List.length_set]; omega)]
        rw [wipe_length] at hl
        rw [List.getElem?_eq_none (by omega)]
        rfl
    · rw [List.getElem?_set_ne h, ih]
      have e : (i ∈ v :: vs) = (i ∈ vs) := by
        rw [List.mem_cons]
        exact propext ⟨fun q => q.elim (fun z => absurd z.symm h) id, .inr⟩
      simp only [e]
theorem wipe_set {σ : L2.St} {j : Nat} {x : Option V} {vs : List Nat} (h : j ∈ vs) : wipe (σ.set j x) vs = wipe σ vs := by
  apply List.ext_getElem?
  intro i
  rw [wipe_at, wipe_at]
  by_cases hi : i ∈ vs
  · rw [if_pos hi, if_pos hi]
    by_cases e : j = i
    · subst e
      by_cases hl : j < σ.length
      · rw [List.getElem?_set_self hl, List.getElem?_eq_getElem hl]; rfl
      · rw [List.getElem?_eq_none (by rw [List.length_set]; omega), List.getElem?_eq_none (by omega)]
    · rw [List.getElem?_set_ne e]
  · rw [if_neg hi, if_neg hi, List.getElem?_set_ne (fun z => hi (by rw [← z]; exact h))]
theorem wipe_wipe {σ : L2.St} {vs : List Nat} : wipe (wipe σ vs) vs = wipe σ vs := by
  apply List.ext_getElem?
  intro i
  rw [wipe_at]
  by_cases hi : i ∈ vs
  · rw [if_pos hi, wipe_at, if_pos hi]
    cases σ[i]? <;> rfl
  · rw [if_neg hi]
theorem wipe_sets {vs : List Nat} : ∀ {σ : L2.St} {js : List Nat} {xs : List V}, (∀ j ∈ js, j ∈ vs) → wipe (sets σ js xs) vs = wipe σ vs
  | σ, [], xs, _ => by unfold sets; rfl
  | σ, j :: js, [], _ => by unfold sets; rfl
  | σ, j :: js, x :: xs, h => by
    unfold sets
    rw [wipe_sets (fun k hk => h k (List.mem_cons_of_mem _ hk)), wipe_set (h j List.mem_cons_self)]
section
variable {K : PySem.W.Frag} {τ : T} {μ μ1 μ2 : M} {H H1 H2 H' : Hp} {σ : L2.St} {Φ Ψ : D → M → Prop} {ta tb tc te : TE} {r r' : R2} {tt : TT} {x y z d e : D} {N : AEnds} {ts us : TS}
theorem slots_sets : ∀ {js : List Nat} {ds : List D} {vs : List V} {τ : T} {σ : L2.St}, Rels K H vs ds → Slots K H τ σ → Slots K H (sets τ js ds) (sets σ js vs)
  | [], _, _, _, _, _, s => by unfold sets; exact s
  | j :: js, _, _, _, _, .nil, s => by unfold sets; exact s
  | j :: js, _, _, _, _, .cons a b, s => by unfold sets; exact slots_sets b (s.set a j)
/-- the slots of a block: all of vs are stored by the target -/
theorem slots_block {js : List Nat} {ds : List D} {vs : List V} (s : Slots K H τ σ) (r : Rels K H vs ds) (hl : ds.length = js.length) : Slots K H (sets τ js ds) (sets (wipe σ js) js vs) := by
  -- a slot that js stores does not hang on what stood there
  have same : ∀ (js0 : List Nat) (js : List Nat) (vs : List V) (σ σ' : L2.St), σ.length = σ'.length → js.length = vs.length → (∀ i, i ∉ js → i ∉ js0 → σ[i]? = σ'[i]?) → (∀ i, i ∈ js0 → i ∉ js → σ[i]? = σ'[i]?) → sets σ js vs = sets σ' js vs := by
    intro js0 js
    induction js with
    | nil =>
      intro vs σ σ' hL _ h1 h2
      unfold sets
      apply List.ext_getElem?
      intro i
      by_cases hi : i ∈ js0
      · exact h2 i hi (by simp)
      · exact h1 i (by simp) hi
    | cons j js ih =>
      intro vs σ σ' hL hV h1 h2
      cases vs with
      | nil => simp at hV
      | cons v vs =>
        unfold sets
        refine ih vs _ _ (by simp [hL]) (by simpa using hV) (fun i hi hi0 => ?_) (fun i hi0 hi => ?_)
        · by_cases e : j = i
          · subst e
            by_cases hl : j < σ.length
            · rw [List.getElem?_set_self hl, List.getElem?_set_self (by omega)]
            · rw [List.getElem?_eq_none (by simp; omega), List.getElem?_eq_none (by simp; omega)]
          · rw [List.getElem?_set_ne e, List.getElem?_set_ne e]
            exact h1 i (by simp [hi]; exact fun z => e z.symm) hi0
        · by_cases e : j = i
          · subst e
            by_cases hl : j < σ.length
            · rw [List.getElem?_set_self hl, List.getElem?_set_self (by omega)]
            · rw [List.getElem?_eq_none (by simp; omega), List.getElem?_eq_none (by simp; omega)]
          · rw [List.getElem?_set_ne e, List.getElem?_set_ne e]
            exact h2 i hi0 (by simp [hi]; exact fun z => e z.symm)
  have e : sets (wipe σ js) js vs = sets σ js vs := by
    refine same [] js vs _ _ (by rw [wipe_length]) (by rw [r.length, hl]) (fun i hi _ => ?_) (fun i hi _ => by simp at hi)
    rw [wipe_at, if_neg hi]
  rw [e]
  exact slots_sets r s
/-- how a target takes an item apart -/
def TgOk (K : PySem.W.Frag) (g : TG) (js : List Nat) (dec : D → List D → Prop) : Prop :=
  ∀ d ds v σ H, dec d ds → Rel K H v d → ∀ Q : L2.St → Hp → Prop, (∀ vs, Rels K H vs ds → Q (sets σ js vs) H) → g v σ H Q
theorem tg_name {j : Nat} : TgOk K (gName j) [j] fun d ds => ds = [d] := fun d ds v σ H h r Q q => by
  subst h
  exact q [v] (.cons r .nil)
theorem tg_2 {i j : Nat} : TgOk K (gTup K 2 (gCons (gName i) (gCons (gName j) gNil))) [i, j] fun d ds => d = .tup ds ∧ ds.length = 2 := fun d ds v σ H h r Q q => by
  obtain ⟨e, hl⟩ := h
  subst e
  cases r with
  | @tup a xs _ ht hr =>
    have hx := hr.length
    match xs, hx.trans hl with
    | [x, y], _ => exact ⟨a, _, rfl, ht.sq, rfl, x, _, rfl, y, _, rfl, rfl, q _ hr⟩
theorem tg_3 {i j k : Nat} : TgOk K (gTup K 3 (gCons (gName i) (gCons (gName j) (gCons (gName k) gNil)))) [i, j, k] fun d ds => d = .tup ds ∧ ds.length = 3 := fun d ds v σ H h r Q q => by
  obtain ⟨e, hl⟩ := h
  subst e
  cases r with
  | @tup a xs _ ht hr =>
    have hx := hr.length
    match xs, hx.trans hl with
    | [x, y, z], _ => exact ⟨a, _, rfl, ht.sq, rfl, x, _, rfl, y, _, rfl, z, _, rfl, rfl, q _ hr⟩
theorem tg_4 {i j k l : Nat} : TgOk K (gTup K 4 (gCons (gName i) (gCons (gName j) (gCons (gName k) (gCons (gName l) gNil))))) [i, j, k, l] fun d ds => d = .tup ds ∧ ds.length = 4 := fun d ds v σ H h r Q q => by
  obtain ⟨e, hl⟩ := h
  subst e
  cases r with
  | @tup a xs _ ht hr =>
    have hx := hr.length
    match xs, hx.trans hl with
    | [x, y, z, w], _ => exact ⟨a, _, rfl, ht.sq, rfl, x, _, rfl, y, _, rfl, z, _, rfl, w, _, rfl, rfl, q _ hr⟩
/-- what a turn of a comprehension must show -/
def LcTurn (K : PySem.W.Frag) (τ : T) (tt : TT) (te : TE) (js : List Nat) (dec : D → List D → Prop) (x : D) (acc : List D) (μ : M) (P : List D → M → Prop) : Prop :=
  ∃ xs, dec x xs ∧ xs.length = js.length ∧ AT K tt (sets τ js xs) μ fun b μ1 => if b = true then AE K te (sets τ js xs) μ1 fun y μ2 => acc.length < sizeLine ∧ P (acc ++ [y]) μ2 else P acc μ1
/-- the list that is made is at Dl, outside of the store -/
structure LcAt (K : PySem.W.Frag) (Dl : Addr) (μ0 : M) (H0 : Hp) (acc : List D) (μ' : M) (H' : Hp) : Prop where
  fr : Fr μ0 μ' H0 H'
  con : Z.Con K H' μ'
  no : μ' Dl = none
  at_ : ∃ vs, H' Dl = some (.lst vs) ∧ Rels K H' vs acc
theorem upd_out {Dl : Addr} {vs : List V} {o : HO} (c : Z.Con K H μ) (no : μ Dl = none) (h : H Dl = some (.lst vs)) (ho : ∀ xs, o ≠ .tup xs) : Tx H (upd H Dl o) ∧ Z.Con K (upd H Dl o) μ := by
  have t : Tx H (upd H Dl o) := ⟨fun a xs e => by rw [upd_ne (fun z => by subst z; rw [h] at e; cases e)]; exact e, fun a ob xs e => by rw [upd_ne (fun z => by subst z; rw [h] at e; cases e)]; exact e,
    fun a q e => by rw [upd_ne (fun z => by subst z; rw [h] at e; unfold LamX.CodeO at e; cases e)]; exact e⟩
  exact ⟨t, fun a m e => (c a m e).mono t (upd_ne (fun z => by subst z; rw [no] at e; cases e))⟩
theorem lc_step {g : TG} {js : List Nat} {dec : D → List D → Prop} {Dl : Addr} {μ0 μ' : M} {H0 : Hp} {acc : List D} {P : List D → M → Prop} {Nx : Hp → Prop} {v : V} (hD : H0 Dl = none) (hg : TgOk K g js dec) (s : Slots K H0 τ σ) (c0 : Z.Con K H0 μ0) (L : LcAt K Dl μ0 H0 acc μ' H') (rx : Rel K H' v x) (ht : LcTurn K τ tt te js dec x acc μ' P)
    (hn : ∀ acc2 μ2 H2, LcAt K Dl μ0 H0 acc2 μ2 H2 → P acc2 μ2 → Nx H2) :
    g v (wipe σ js) H' fun σ2 H2 => wipe σ2 js = wipe σ js ∧ tt σ2 H2 fun b H3 => if b = true then te σ2 H3 fun y H4 => ∃ acc, H4 Dl = some (.lst acc) ∧ acc.length < sizeLine ∧ Nx (upd H4 Dl (.lst (acc ++ [y]))) else Nx H3 := by
  obtain ⟨xs, hd, hl, ht⟩ := ht
  obtain ⟨vs0, hv0, hr0⟩ := L.at_
  refine hg x xs v _ H' hd rx _ fun vs hvs => ⟨by rw [wipe_sets (fun _ h => h), wipe_wipe], ?_⟩
  have s' : Slots K H' (sets τ js xs) (sets (wipe σ js) js vs) := slots_block (s.mono (L.fr.tx c0)) hvs hl
  refine ht _ H' s' L.con _ fun b μ1 H1 f1 c1 p => ?_
  have n1 : μ1 Dl = none := (f1 Dl _ L.no hv0).2
  have h1 : H1 Dl = some (.lst vs0) := (f1 Dl _ L.no hv0).1
  cases b with
  | false => exact hn acc μ1 H1 ⟨L.fr.trans f1, c1, n1, vs0, h1, Rels.mono (f1.tx L.con) _ _ hr0⟩ p
  | true =>
    refine (show AE K te _ μ1 _ from p) _ H1 (s'.mono (f1.tx L.con)) c1 _ fun y μ2 w H2 f2 c2 r2 ⟨hz, p2⟩ => ?_
    have n2 : μ2 Dl = none := (f2 Dl _ n1 h1).2
    have h2 : H2 Dl = some (.lst vs0) := (f2 Dl _ n1 h1).1
    have hr2 : Rels K H2 vs0 acc := Rels.mono ((f1.trans f2).tx L.con) _ _ hr0
    obtain ⟨t3, c3⟩ := upd_out (o := .lst (vs0 ++ [w])) c2 n2 h2 (fun _ z => by cases z)
    refine ⟨vs0, h2, by rw [hr0.length]; exact hz, hn _ μ2 _ ⟨fun a o n e => ?_, c3, n2, _, upd_same, Rels.mono t3 _ _ (hr2.append (.cons r2 .nil))⟩ p2⟩
    have f := (L.fr.trans f1).trans f2
    obtain ⟨e2, m2⟩ := f a o n e
    exact ⟨by rw [upd_ne (ne_of_none e hD)]; exact e2, m2⟩
theorem lc_start {Dl : Addr} (c : Z.Con K H μ) (hD : H Dl = none) : LcAt K Dl μ H [] μ (upd H Dl (.lst [])) :=
  ⟨fr_new hD, con_new hD c, c.free hD, [], upd_same, .nil⟩
/-- pure elements: a filter and a map -/
theorem at_yes {Θ : Bool → M → Prop} (h : Θ true μ) : AT K tYes τ μ Θ := fun σ H s c Q k => k true μ H Fr.refl c h
end
end Z
namespace Z
open PySem L2
section
variable {K : PySem.W.Frag} {τ : T} {μ μ1 μ2 : M} {H H1 H2 H' : Hp} {σ : L2.St} {Φ Ψ : D → M → Prop} {ta tb tc te : TE} {r r' : R2} {tt : TT} {x y z d e : D} {N : AEnds} {ts us : TS}
theorem s_par3 {i j l : Nat} {ta : TA} (h : AA K ta τ μ fun ds μ' => ∃ d e w, ds = [d, e, w] ∧ N.nx (((τ.set i (some d)).set j (some e)).set l (some w)) μ') : AS K (tPar3 i j l ta) τ μ N := fun σ H s c E k =>
  h σ H s c _ fun ds μ' vs H' f c' r ⟨d, e, w, q, p⟩ => by
    subst q
    cases r with
    | cons r1 r2 =>
      cases r2 with
      | cons r2 r3 =>
        cases r3 with
        | cons r3 r4 =>
          cases r4
          exact ⟨_, _, _, rfl, k.nx _ μ' _ H' f c' ((((s.mono (f.tx c)).set r1 i).set r2 j).set r3 l) p⟩
def tyn (μ : M) : D → Option String
  | .non => some "NoneType"
  | .bl _ => some "bool"
  | .int _ => some "int"
  | .str _ => some "str"
  | .tup _ => some "tuple"
  | .rol _ => some "list"
  | .ref a => match μ a with
    | some (.lst _) => some "list"
    | some (.dK _) => some "dict"
    | some (.dT _) => some "dict"
    | _ => none
  | .ty _ => none
theorem tyx_of {v : V} {n : String} (c : Z.Con K H μ) (r : Rel K H v d) (h : tyn μ d = some n) : TyX K H v (.type n) := by
  cases r with
  | non => cases h; exact .base .non
  | bl => cases h; exact .base (.bl _)
  | int => cases h; exact .base (.int _)
  | str => cases h; exact .base (.str _)
  | ty => cases h
  | tup ht hr =>
    cases h
    cases ht with
    | inl ht => exact .base (.tup ht)
  | rol ht hr =>
    cases h
    rcases ht with ⟨o, ht⟩ | ⟨o, its, m, h1, h2, _⟩
    · exact .base (.frz ht)
    · exact .kList h1 h2
  | ref a =>
    unfold tyn at h
    simp only at h
    split at h
    · rename_i e; cases h; obtain ⟨xs, hx, _⟩ := c _ _ e; exact .base (.lst hx)
    · rename_i e; cases h; obtain ⟨xs, hx, _⟩ := c _ _ e; exact .base (.dK hx)
    · rename_i e; cases h; obtain ⟨xs, hx, _⟩ := c _ _ e; exact .base (.dT hx)
    · cases h
theorem rc_isi {n m : String} {b : Bool} (h : tyn μ d = some n) (hk : kitB n m = some b) (q : Φ (.bl b) μ) : RC K (rIsi K) [d, .ty m] μ Φ := fun H xs c r1 Q k => by
  cases r1 with
  | cons a r2 =>
    cases r2 with
    | cons a2 r3 =>
      cases a2; cases r3
      exact ⟨_, _, .type n, .type m, b, rfl, .ty m, tyx_of c a h, kit_ty hk, k _ μ _ H Fr.refl c (.bl _) q⟩
theorem a_chain (h : AE K ta τ μ fun d μ1 => AE K tb τ μ1 fun e μ2 => RO K r d e μ2 fun z μ3 => ∃ b, z = .bl b ∧ if b = true then AE K tc τ μ3 fun w μ4 => RO K r' e w μ4 Φ else Φ (.bl false) μ3) : AE K (tChain r r' ta tb tc) τ μ Φ := fun σ H s c Q k =>
  h σ H s c _ fun d μ1 v H1 f1 c1 r1 p1 => p1 σ H1 (s.mono (f1.tx c)) c1 _ fun e μ2 u H2 f2 c2 r2 p2 =>
    p2 H2 v u c2 (Rel.mono (f2.tx c1) _ _ r1) r2 _ fun z μ3 w H3 f3 c3 rz ⟨b, ez, p3⟩ => by
      subst ez
      cases rz
      refine ⟨b, rfl, ?_⟩
      cases b with
      | false => exact k _ μ3 _ H3 ((f1.trans f2).trans f3) c3 (.bl false) (show Φ (.bl false) μ3 from p3)
      | true =>
        exact (show AE K tc τ μ3 _ from p3) σ H3 (s.mono (((f1.trans f2).trans f3).tx c)) c3 _ fun w μ4 w' H4 f4 c4 r4 p4 =>
          p4 H4 u w' c4 (Rel.mono ((f3.trans f4).tx c2) _ _ r2) r4 Q fun z μ5 o H5 f5 c5 rz pz => k z μ5 o H5 ((((f1.trans f2).trans f3).trans f4).trans f5) c5 rz pz
def rInS (K : PySem.W.Frag) (neg : Bool) : R2 := fun x y H Q => ∃ d ds, Dp K H x d ∧ (Dp K H y (.list ds) ∨ Dp K H y (.tuple ds)) ∧ SeqAt.shaped d = true ∧ SeqAt.shaped (.list ds) = true ∧ Q (.bl (if neg then !ds.any fun z => PyData.eqv z d else ds.any fun z => PyData.eqv z d)) H
theorem seq_dp {v : V} {ds : List D} (c : Z.Con K H μ) (r : Rel K H v d) (h : seqD μ d = some ds) (hp : D.plains ds = true) : Dp K H v (.list (D.pys ds)) ∨ Dp K H v (.tuple (D.pys ds)) := by
  cases r with
  | tup ht hr => cases h; exact .inr (.tup ht.sq (Rels.dp _ _ hr hp))
  | rol ht hr => cases h; exact .inl (.lst ht.sq (Rels.dp _ _ hr hp))
  | ref a =>
    unfold seqD at h
    simp only at h
    split at h
    · rename_i ds' e
      cases h
      obtain ⟨xs, h1, h2⟩ := c _ _ e
      exact .inl (.lst (SqL.of h1) (Rels.dp _ _ h2 hp))
    · cases h
  | non => cases h
  | bl => cases h
  | int => cases h
  | str => cases h
  | ty => cases h
def inD (d : D) (ds : List D) : Bool := ds.any fun z => D.eqv z d
theorem inD_pys (d : D) : ∀ ds : List D, (D.pys ds).any (fun z => PyData.eqv z (D.py d)) = inD d ds
  | [] => by simp [D.pys, inD]
  | x :: ds => by
    have ih := inD_pys d ds
    unfold inD at ih ⊢
    simp only [D.pys, List.any_cons, ih]
    rfl
theorem ro_inS {neg : Bool} {ds : List D} (hs : seqD μ e = some ds) (h1 : D.ok d = true) (h2 : D.ok (.tup ds) = true) (q : Φ (.bl (if neg then !inD d ds else inD d ds)) μ) : RO K (rInS K neg) d e μ Φ := fun H x y c r1 r2 Q k => by
  unfold D.ok at h1 h2
  rw [Bool.and_eq_true] at h1 h2
  have p2 : D.plains ds = true := by simpa only [D.plain] using h2.1
  refine ⟨_, D.pys ds, Rel.dp _ _ r1 h1.1, seq_dp c r2 hs p2, h1.2, ?_, ?_⟩
  · have h3 := h2.2
    simp only [D.py] at h3
    exact h3
  · rw [inD_pys]
    exact k _ μ _ H Fr.refl c (.bl _) q
end
/-- a def of the text with its promise -/
structure Def (P : Program) (w : World) (K : PySem.W.Frag) (mg : Str → Option Value) (base : Heap) (x : Str) (ps : List Str) (k : Nat) (sp : Sp) : Prop where
  ex : ∃ f fd, FnOk P w K mg base CX0 k f fd ps sp ∧ mg x = some (.ref f) ∧ PySem.W.keepIn K (.ref f) = true ∧ Binds K fd ps []
section
variable {X : Cx} {k : Nat} {ps : List Str} {sp : Sp} {x : Str} {p pos : Pos} {e : Expr} {es : List Expr} {t : TA}
theorem pe_def (G : Def X.prog X.w X.K X.mg X.base x ps k sp) (hr : Room k X.A) (hg : Gl X x)
    (ha : PA X (e :: es) t) (hdb : (x == ("__debug__" : Str)) = false := by decide) (he : starEach (e :: es) X.env = (false, eval e X.env) :: starEach es X.env := by rfl) (hpl : (backTo pos (starEach es X.env)).any (·.1) = false := by rfl) :
    PE X (.Call (.Name x p) (e :: es) [] pos) (tCall sp [] E0 t) := by
  obtain ⟨f, fd, F, hm, hk, hb⟩ := G.ex
  exact pe_call F hr hg hm hk hb .nil pass0 ha hdb he hpl
end
end Z
namespace Z
open PySem L2
theorem seq_ref {μ : M} {a : Addr} {ds : List D} (h : μ a = some (.lst ds)) : seqD μ (.ref a) = some ds := by
  show (match μ a with | some (.lst ds) => some ds | _ => none) = some ds
  rw [h]
def Sz (n : Nat) (x : Int) : Prop := x.natAbs < 2 ^ n
instance {n : Nat} {x : Int} : Decidable (Sz n x) := inferInstanceAs (Decidable (x.natAbs < 2 ^ n))
theorem sz_mono {a b : Nat} {x : Int} (h : Sz a x) (l : a ≤ b) : Sz b x := Nat.lt_of_lt_of_le h (Nat.pow_le_pow_right (by decide) l)
theorem sz_add {a b : Nat} {x y : Int} (h : Sz a x) (k : Sz b y) : Sz (max a b + 1) (x + y) := by
  have h1 : x.natAbs < 2 ^ (max a b) := Nat.lt_of_lt_of_le h (Nat.pow_le_pow_right (by decide) (Nat.le_max_left _ _))
  have h2 : y.natAbs < 2 ^ (max a b) := Nat.lt_of_lt_of_le k (Nat.pow_le_pow_right (by decide) (Nat.le_max_right _ _))
  have h3 := Int.natAbs_add_le x y
  unfold Sz
  rw [Nat.pow_succ]
  omega
theorem sz_neg {a : Nat} {x : Int} (h : Sz a x) : Sz a (-x) := by
  unfold Sz
  rw [Int.natAbs_neg]
  exact h
theorem sz_sub {a b : Nat} {x y : Int} (h : Sz a x) (k : Sz b y) : Sz (max a b + 1) (x - y) := by
  rw [Int.sub_eq_add_neg]
  exact sz_add h (sz_neg k)
theorem sz_mul {a b : Nat} {x y : Int} (h : Sz a x) (k : Sz b y) : Sz (a + b) (x * y) := wide_lt h k
theorem sz_mod {a : Nat} {x y : Int} (hy : 0 < y) (k : Sz a y) : Sz a (x % y) := by
  have h1 := Int.emod_nonneg x (by omega : y ≠ 0)
  have h2 := Int.emod_lt_of_pos x hy
  have k' : y.natAbs < 2 ^ a := k
  unfold Sz
  omega
theorem sz_lt {a : Nat} {x y : Int} (h0 : 0 ≤ x) (h1 : x < y) (k : Sz a y) : Sz a x := by
  have k' : y.natAbs < 2 ^ a := k
  unfold Sz
  omega
theorem sz_b {b : Bool} : Sz 1 (if b then 1 else 0) := by cases b <;> decide
theorem sz_128 {x : Int} (h : decide (x.natAbs < 2 ^ 128) = true) : Sz 128 x := of_decide_eq_true h
theorem sz_2 {x : Int} (h : decide (x.natAbs < 2 ^ 2) = true) : Sz 2 x := of_decide_eq_true h
theorem sz_8 {x : Int} (h : decide (x.natAbs < 2 ^ 8) = true) : Sz 8 x := of_decide_eq_true h
theorem sz_32 {x : Int} (h : decide (x.natAbs < 2 ^ 32) = true) : Sz 32 x := of_decide_eq_true h
theorem hu65_of {k : Nat} {A : Around} (hr : Room k A) : A.units + 65 < cLine := by have := hr.un; omega
theorem mulw_of {a b : Nat} {x y : Int} (h : Sz a x) (k : Sz b y) (l : (a + 1) + (b + 1) ≤ 1000000) : CMulW x y :=
  wide_mul (a := a + 1) (b := b + 1) (sz_mono h (Nat.le_succ a)) (sz_mono k (Nat.le_succ b)) (Nat.succ_pos _) (Nat.succ_pos _) l
theorem divw_of {b : Nat} {x y : Int} (h : 0 < y) (k : Sz b y) (l : b + 1 ≤ 9000) : CDivW x y := wide_div (b := b + 1) h (sz_mono k (Nat.le_succ b)) (Nat.succ_pos _) l
abbrev pt (x y : Int) : D := .tup [.int x, .int y]
def sgn (n : Int) : Int := if 0 < n then 1 else if n < 0 then -1 else 0
section
variable {X : Cx} {K : PySem.W.Frag}
theorem ix_seqK (h : X.K = K) : IxR X (rIx K) := by subst h; exact ix_seq
theorem call_isiK1 (h : X.K = K) : CallR X (.builtin "isinstance") (rIsi K) := by subst h; exact call_isi
theorem call_lenK (h : X.K = K) : CallR X (.builtin "len") (fun xs H Q => ∃ x n, xs = [x] ∧ LenV K x H n ∧ Q (.int n) H) := by subst h; exact call_len
theorem pi_listK {tg l : Expr} {tl : TE} (h : X.K = K) (hl : PE X l tl) : PI X tg l (iList K tl) := by subst h; exact pi_list hl
end
end Z
namespace Z
open PySem L2
def P_law : PT3 := fun ds μ Φ => ∃ ns : List Int, ds = [.rol (ns.map D.int)] ∧ ns.length ≤ 63 ∧ ∀ μ', Φ (.bl true) μ'
theorem rels_map {K : PySem.W.Frag} {H : Hp} : ∀ ns : List Int, Rels K H (ns.map V.int) (ns.map D.int)
  | [] => .nil
  | n :: ns => .cons (.int n) (rels_map ns)
theorem law_start {K : PySem.W.Frag} {H : Hp} {a : Addr} {ns : List Int} (hl : ns.length ≤ 63) (hO : Only H) (hS : SqL K H a (ns.map V.int)) : spI K P_law [.ref a] H (fun v _ => v = .bl true) fun _ _ _ => False := by
  have hr : RolAt K H a (ns.map V.int) := by
    rcases hS with (h | ⟨o, h⟩) | h
    · rcases hO a with e | ⟨o, xs, e⟩
      · rw [e] at h; cases h
      · rw [e] at h; cases h
    · exact .inl ⟨o, h⟩
    · exact .inr h
  refine ⟨[.rol (ns.map D.int)], fun _ => none, fun d _ => d = .bl true, .cons (.rol hr (rels_map ns)) .nil, fun a m e => (by cases e), ⟨ns, rfl, hl, fun _ => rfl⟩, fun d μ' v H' f c r e => ?_⟩
  subst e
  cases r
  rfl
theorem len_law (ds : List D) (μ : M) (Φ : D → M → Prop) (h : P_law ds μ Φ) : ds.length = 1 := by
  obtain ⟨ns, rfl, _⟩ := h
  rfl
def P_l_cell_at : PT3 := fun ds μ Φ => ∃ (ns : List Int) (k : Int), ds = [.rol (ns.map D.int), .int k] ∧ 0 ≤ k ∧ ∀ z, Φ (.int z) μ
theorem len_l_cell_at (ds : List D) (μ : M) (Φ : D → M → Prop) (h : P_l_cell_at ds μ Φ) : ds.length = 2 := by
  obtain ⟨_, _, rfl, _⟩ := h
  rfl
/-- a bag: what its second number is -/
def BgOk (m : Int) : Prop := 0 ≤ m ∧ m < 2147483648
def P_l_bag : PT3 := fun ds μ Φ => ∃ (ns : List Int) (k : Int), ds = [.rol (ns.map D.int), .int k] ∧ 0 ≤ k ∧ k ≤ 1000 ∧ ∀ p c m, μ p = none → BgOk m → Φ (.ref p) (μ.set p (.lst [.int c, .int m]))
theorem len_l_bag (ds : List D) (μ : M) (Φ : D → M → Prop) (h : P_l_bag ds μ Φ) : ds.length = 2 := by
  obtain ⟨_, _, rfl, _⟩ := h
  rfl
def P_l_take : PT3 := fun ds μ Φ => ∃ (b : Addr) (n c m : Int), ds = [.ref b, .int n] ∧ μ b = some (.lst [.int c, .int m]) ∧ BgOk m ∧ 0 < n ∧ Sz 4000 n ∧ ∀ d c' m', 0 ≤ d → d < n → Sz 4000 d → BgOk m' → Φ (.int d) (μ.set b (.lst [.int c', .int m']))
theorem len_l_take (ds : List D) (μ : M) (Φ : D → M → Prop) (h : P_l_take ds μ Φ) : ds.length = 2 := by
  obtain ⟨_, _, _, _, rfl, _⟩ := h
  rfl
theorem cast_int {Φ : D → M → Prop} {μ : M} {a b : Int} (e : a = b) (h : Φ (.int b) μ) : Φ (.int a) μ := by rw [e]; exact h
theorem cast_bl {Φ : D → M → Prop} {μ : M} {a b : Bool} (e : a = b) (h : Φ (.bl b) μ) : Φ (.bl a) μ := by rw [e]; exact h
theorem iteNT {A B : Prop} (h : B) : if (!true) = true then A else B := h
theorem iteNF {A B : Prop} (h : A) : if (!false) = true then A else B := h
/-- an if whose test is a comparison -/
theorem ite_d {p : Prop} [Decidable p] {A B : Prop} (h1 : p → A) (h2 : ¬ p → B) : if decide p = true then A else B := by
  by_cases h : p
  · rw [if_pos (decide_eq_true h)]; exact h1 h
  · rw [if_neg (by simpa using h)]; exact h2 h
theorem ite_nd {p : Prop} [Decidable p] {A B : Prop} (h1 : ¬ p → A) (h2 : p → B) : if (!decide p) = true then A else B := by
  by_cases h : p
  · rw [if_neg (by simpa using h)]; exact h2 h
  · rw [if_pos (by simpa using h)]; exact h1 h
theorem ite_b {b : Bool} {A B : Prop} (h1 : b = true → A) (h2 : b = false → B) : if b = true then A else B := by
  cases b with
  | true => exact h1 rfl
  | false => exact h2 rfl
theorem map_get {ns : List Int} {k : Int} (h0 : 0 ≤ k) (h1 : k < ns.length) : ∃ z, atI (ns.map D.int) k = some (.int z) := by
  obtain ⟨j, rfl⟩ := Int.eq_ofNat_of_zero_le h0
  have hj : j < ns.length := by omega
  exact ⟨ns[j], atI_nat (by rw [List.getElem?_map, List.getElem?_eq_getElem hj]; rfl)⟩
/-- an if, then a word of what holds behind it -/
theorem if_cut {K : PySem.W.Frag} {τ : T} {μ : M} {N : AEnds} {t1 t2 : TS} {b : Bool} (M0 : T → M → Prop) (h1 : b = true → AS K t1 τ μ { N with nx := M0 }) (h2 : b = false → AS K t2 τ μ { N with nx := M0 }) (k : ∀ τ' μ', M0 τ' μ' → N.nx τ' μ') :
    if b = true then AS K t1 τ μ N else AS K t2 τ μ N := by
  cases b with
  | true => rw [if_pos rfl]; exact (h1 rfl).imp k (fun _ _ h => h) (fun _ _ h => h) fun _ _ h => h
  | false => rw [if_neg Bool.false_ne_true]; exact (h2 rfl).imp k (fun _ _ h => h) (fun _ _ h => h) fun _ _ h => h
end Z
namespace Z
open PySem L2
/-- J yields xs in turn while G stands; what is at out is not in the store meanwhile -/
structure WalkD (K : PySem.W.Frag) (J : It) (xs : List D) (out : Addr → Prop) (G : Hp → Prop) : Prop where
  keep : ∀ H H' μ μ', Z.Con K H μ → (∀ a, out a → μ a = none) → G H → Fr μ μ' H H' → G H'
  oo : ∀ H a, G H → out a → ∃ o, H a = some o
  go : ∀ i H, i < xs.length → G H → J.go i H
  stop : ∀ i H, xs.length ≤ i → G H → J.stop i H
  yld : ∀ i H v H', i < xs.length → G H → J.yld i H v H' → ∃ x, xs[i]? = some x ∧ Rel K H' v x ∧ (H' = H ∨ ∃ T vs, H T = none ∧ H' = upd H T (.tup vs))
/-- how the store is put together again -/
structure Back (K : PySem.W.Frag) (μ μw : M) (H H1 : Hp) (back : M → M) : Prop where
  fr : ∀ μ' H', Fr μw μ' H1 H' → Fr μ (back μ') H H'
  con : ∀ μ' H', Fr μw μ' H1 H' → Z.Con K H' μ' → Z.Con K H' (back μ')
  nw : ∀ μ' p, H1 p = none → μ' p = none → back μ' p = none
  old : ∀ b o, μ b = none → H b = some o → H1 b = some o
/-- a source: what follows is told of the items, the store while it is walked, the way back -/
def AI (K : PySem.W.Frag) (wi : TI) (τ : T) (μ : M) (Ψ : List D → M → (M → M) → Prop) : Prop :=
  ∀ σ H, Slots K H τ σ → Z.Con K H μ → ∀ R : It → Hp → Prop,
    (∀ J xs out G H1 μw back, Tx H H1 → Z.Con K H1 μw → WalkD K J xs out G → G H1 → (∀ a, out a → μw a = none) → Back K μ μw H H1 back → Ψ xs μw back → R J H1) → wi σ H R
section
variable {K : PySem.W.Frag} {τ : T} {μ μ1 μ2 : M} {H H1 H2 H' : Hp} {σ : L2.St} {Φ : D → M → Prop} {ta tl te : TE} {tt : TT} {N : AEnds} {ts tb : TS} {g : TG} {wi : TI}
def turnB (N : AEnds) (back : M → M) (P : T → M → Prop) : AEnds := { nx := P, ct := P, rt := fun d μ' => N.rt d (back μ'), bk := fun τ' μ' => N.nx τ' (back μ'), W := N.W, cn := N.cn, xs := fun x dx τ' μ' => N.xs x dx τ' (back μ') }
/-- behind one yield -/
theorem yld_ok {T0 : Addr} {vs : List V} (c : Z.Con K H μ) (h : H T0 = none) : Fr μ μ H (upd H T0 (.tup vs)) ∧ Z.Con K (upd H T0 (.tup vs)) μ := ⟨fr_new h, con_new h c⟩
theorem s_for (h : AI K wi τ μ fun xs μw back => ∃ P : Nat → T → M → Prop, P 0 τ μw ∧ (∀ (i : Nat) x τ' μ', xs[i]? = some x → P i τ' μ' → AG K g x τ' μ' fun τ2 μ2 => AS K tb τ2 μ2 (turnB N back (P (i + 1)))) ∧ ∀ τ' μ', P xs.length τ' μ' → N.nx τ' (back μ')) :
    AS K (tFor wi g tb) τ μ N := fun σ H s c E k => by
  refine h σ H s c _ fun J xs out G H1 μw back tx c1 W g1 o1 B ⟨P, p0, hs, hd⟩ => ?_
  refine ⟨fun i m σ' H' => m = xs.length - i ∧ i ≤ xs.length ∧ ∃ τ' μ', Fr μw μ' H1 H' ∧ Z.Con K H' μ' ∧ Slots K H' τ' σ' ∧ P i τ' μ', ⟨xs.length, by omega, Nat.zero_le _, τ, μw, Fr.refl, c1, s.mono tx, p0⟩, ?_⟩
  rintro i m σ' H' ⟨rfl, hi, τ', μ', f, c', s', p⟩
  have gH : G H' := W.keep _ _ _ _ c1 o1 g1 f
  by_cases hlt : i < xs.length
  · refine .inr ⟨W.go i H' hlt gH, fun σ2 H2 => ∃ τ2 μ2, Fr μw μ2 H1 H2 ∧ Z.Con K H2 μ2 ∧ Slots K H2 τ2 σ2 ∧ P (i + 1) τ2 μ2, fun σ2 H2 ⟨τ2, μ2, f2, c2, s2, p2⟩ => ⟨xs.length - (i + 1), by omega, rfl, hlt, τ2, μ2, f2, c2, s2, p2⟩, fun v H2 y => ?_⟩
    obtain ⟨x, hx, rx, hH⟩ := W.yld i H' v H2 hlt gH y
    have fy : Fr μ' μ' H' H2 ∧ Z.Con K H2 μ' := by
      rcases hH with e | ⟨T0, vs, hT, e⟩
      · rw [e]; exact ⟨Fr.refl, c'⟩
      · rw [e]; exact yld_ok c' hT
    refine hs i x τ' μ' hx p σ' H2 v (s'.mono (fy.1.tx c')) fy.2 rx _ fun τ3 μ3 σ3 H3 f3 c3 s3 q => ?_
    have fa := (f.trans fy.1).trans f3
    refine q σ3 H3 s3 c3 _ ⟨fun τ4 μ4 σ4 H4 f4 c4 s4 p4 => ⟨τ4, μ4, fa.trans f4, c4, s4, p4⟩, fun d4 μ4 v4 H4 f4 c4 r4 p4 => ?_, fun τ4 μ4 σ4 H4 f4 c4 s4 p4 => ?_, fun τ4 μ4 σ4 H4 f4 c4 s4 p4 => ⟨τ4, μ4, fa.trans f4, c4, s4, p4⟩, fun x1 x2 x3 x4 x5 x6 x7 x8 f' c' s' p' => k.wx x1 x2 x3 _ x5 x6 x7 x8 (B.fr _ _ (fa.trans f')) (B.con _ _ (fa.trans f') c') s' p'⟩
    · exact k.rt d4 (back μ4) v4 H4 (B.fr _ _ (fa.trans f4)) (B.con _ _ (fa.trans f4) c4) r4 p4
    · exact k.nx τ4 (back μ4) σ4 H4 (B.fr _ _ (fa.trans f4)) (B.con _ _ (fa.trans f4) c4) s4 p4
  · have e : i = xs.length := by omega
    subst e
    exact .inl ⟨W.stop _ H' (Nat.le_refl _) gH, k.nx τ' (back μ') σ' H' (B.fr _ _ f) (B.con _ _ f c') s' (hd τ' μ' p)⟩
theorem a_lc {js : List Nat} {dec : D → List D → Prop} (hg : TgOk K g js dec)
    (h : AI K wi τ μ fun xs μw back => ∃ P : Nat → List D → M → Prop, P 0 [] μw ∧ (∀ (i : Nat) x acc μ', xs[i]? = some x → P i acc μ' → LcTurn K τ tt te js dec x acc μ' (P (i + 1))) ∧ ∀ acc μ', P xs.length acc μ' → ∀ p, back μ' p = none → Φ (.ref p) ((back μ').set p (.lst acc))) :
    AE K (tLc wi g tt te js) τ μ Φ := fun σ H s c Q k => by
  refine h σ H s c _ fun J xs out G H1 μw back tx c1 W g1 o1 B ⟨P, p0, hs, hd⟩ Dl hD => ?_
  have s1 := s.mono tx
  refine ⟨fun i m H' => m = xs.length - i ∧ i ≤ xs.length ∧ ∃ acc μ', LcAt K Dl μw H1 acc μ' H' ∧ P i acc μ', ⟨xs.length, by omega, Nat.zero_le _, [], μw, lc_start c1 hD, p0⟩, ?_⟩
  rintro i m H' ⟨rfl, hi, acc, μ', L, p⟩
  have gH : G H' := W.keep _ _ _ _ c1 o1 g1 L.fr
  by_cases hlt : i < xs.length
  · refine .inr ⟨W.go i H' hlt gH, fun H2 => ∃ acc2 μ2, LcAt K Dl μw H1 acc2 μ2 H2 ∧ P (i + 1) acc2 μ2, fun H2 ⟨acc2, μ2, L2, p2⟩ => ⟨xs.length - (i + 1), by omega, rfl, hlt, acc2, μ2, L2, p2⟩, fun v H2 y => ?_⟩
    obtain ⟨x, hx, rx, hH⟩ := W.yld i H' v H2 hlt gH y
    have L2 : LcAt K Dl μw H1 acc μ' H2 := by
      rcases hH with e | ⟨T0, vs, hT, e⟩
      · rw [e]; exact L
      · obtain ⟨f2, c2⟩ := yld_ok (vs := vs) L.con hT
        obtain ⟨ws, hw, hr⟩ := L.at_
        rw [e]
        exact ⟨L.fr.trans f2, c2, L.no, ws, by rw [upd_ne (fun z => by rw [z, hT] at hw; cases hw)]; exact hw, Rels.mono (tx_new hT) _ _ hr⟩
    exact lc_step hD hg s1 c1 L2 rx (hs i x acc μ' hx p) fun acc2 μ2 H3 L3 p3 => ⟨acc2, μ2, L3, p3⟩
  · have e : i = xs.length := by omega
    subst e
    obtain ⟨vs, hv, hr⟩ := L.at_
    refine .inl ⟨W.stop _ H' (Nat.le_refl _) gH, ?_⟩
    have hbn : back μ' Dl = none := B.nw _ _ hD L.no
    have fb := B.fr _ _ L.fr
    have cb := B.con _ _ L.fr L.con
    refine k _ _ _ H' (fun b o n e => ?_) (con_back (m := .lst acc) cb ⟨vs, hv, hr⟩) (.ref Dl) (hd acc μ' p Dl hbn)
    obtain ⟨e2, n2⟩ := fb b o n e
    have hb : b ≠ Dl := fun z => by
      have e3 := B.old b o n e
      rw [z, hD] at e3; cases e3
    exact ⟨e2, by rw [set_ne hb]; exact n2⟩
theorem back_id (f : Fr μ μ1 H H1) : Back K μ μ1 H H1 id := ⟨fun _ _ g => f.trans g, fun _ _ _ c => c, fun _ _ _ h => h, fun b o n e => (f b o n e).1⟩
/-- a list set aside -/
theorem back_set {a : Addr} {vs : List V} {ds : List D} (c1 : Z.Con K H1 μ1) (hl : μ1 a = some (.lst ds)) (hx : H1 a = some (.lst vs)) (hr : Rels K H1 vs ds) (f : Fr μ μ1 H H1) : Back K μ (μ1.del a) H H1 (fun μ' => μ'.set a (.lst ds)) where
  fr := fun μ' H' g => fr_back hl f g
  con := fun μ' H' g c => con_back (m := .lst ds) c ⟨vs, (g a _ del_same hx).1, Rels.mono (g.tx (c1.sub del_sub)) _ _ hr⟩
  nw := fun μ' p hp n => by
    rw [set_ne (fun z => by rw [z, hx] at hp; cases hp)]
    exact n
  old := fun b o n e => (f b o n e).1
theorem walk_L {a : Addr} {vs : List V} {ds : List D} (hr : Rels K H1 vs ds) : WalkD K (Itl K a) ds (fun b => b = a) (fun H' => H' a = some (.lst vs) ∧ Rels K H' vs ds) where
  keep := fun H H' μ μ' c o g f => ⟨(f a _ (o a rfl) g.1).1, Rels.mono (f.tx c) _ _ g.2⟩
  oo := fun _ b g h => by subst h; exact ⟨_, g.1⟩
  go := fun i H' hi g => by
    have hv : i < vs.length := by rw [hr.length]; exact hi
    exact ⟨vs, vs[i], SqL.of g.1, List.getElem?_eq_getElem hv⟩
  stop := fun i H' hi g => ⟨vs, SqL.of g.1, by rw [hr.length]; exact hi⟩
  yld := fun i H' v H2 hi g y => by
    obtain ⟨e, q⟩ := y
    obtain ⟨x, h1, h2⟩ := g.2.getV (q vs (SqL.of g.1))
    subst e
    exact ⟨x, h1, h2, .inl rfl⟩
theorem walk_N {lo : Int} {n : Nat} : WalkD K (Itr lo n) ((List.range n).map fun (i : Nat) => D.int (lo + i)) (fun _ => False) (fun _ => True) where
  keep := fun _ _ _ _ _ _ _ _ => trivial
  oo := fun _ _ _ h => h.elim
  go := fun i H' hi _ => by
    have h : i < n := by simpa using hi
    exact h
  stop := fun i H' hi _ => by
    have h : n ≤ i := by simpa using hi
    exact h
  yld := fun i H' v H2 hi _ y => by
    obtain ⟨e, e2⟩ := y
    have h : i < n := by simpa using hi
    subst e e2
    exact ⟨.int (lo + i), by simp [h], .int _, .inl rfl⟩
variable {Ψ : List D → M → (M → M) → Prop}
theorem ai_L (h : AE K tl τ μ fun d μ1 => ∃ a ds, d = .ref a ∧ μ1 a = some (.lst ds) ∧ Ψ ds (μ1.del a) (fun μ' => μ'.set a (.lst ds))) : AI K (iList K tl) τ μ Ψ := fun σ H s c R k => h σ H s c _ fun d μ1 v H1 f1 c1 r1 ⟨a, ds, e, hl, q⟩ => by
  subst e
  cases r1
  obtain ⟨xs, hx, hr⟩ := c1 a _ hl
  exact ⟨a, rfl, ⟨xs, SqL.of hx⟩, k _ ds _ _ H1 (μ1.del a) _ (f1.tx c) (c1.sub del_sub) (walk_L hr) ⟨hx, hr⟩ (fun b z => by rw [z]; exact del_same) (back_set c1 hl hx hr f1) q⟩
theorem ai_1 {ta : TA} (h : AA K ta τ μ fun ds μ1 => ∃ n : Int, ds = [.int n] ∧ -(2 ^ 62) ≤ n ∧ n < 2 ^ 62 ∧ Ψ ((List.range n.toNat).map fun (i : Nat) => D.int (0 + i)) μ1 id) : AI K (iRng1 ta) τ μ Ψ := fun σ H s c R k => h σ H s c _ fun ds μ1 vs H1 f1 c1 r1 ⟨n, e, h1, h2, q⟩ => by
  subst e
  cases r1 with
  | cons r rr =>
    cases r
    cases rr
    exact ⟨n, rfl, h1, h2, k _ _ _ _ H1 μ1 id (f1.tx c) c1 walk_N trivial (fun _ z => z.elim) (back_id f1) q⟩
def zipD : List D → List D → List D
  | x :: xs, y :: ys => .tup [x, y] :: zipD xs ys
  | _, _ => []
theorem zipD_get : ∀ {xs ys : List D} {i : Nat}, i < (zipD xs ys).length → ∃ x y, xs[i]? = some x ∧ ys[i]? = some y ∧ (zipD xs ys)[i]? = some (.tup [x, y])
  | [], _, i, h => by simp [zipD] at h
  | _ :: _, [], i, h => by simp [zipD] at h
  | x :: xs, y :: ys, 0, _ => ⟨x, y, rfl, rfl, rfl⟩
  | x :: xs, y :: ys, i + 1, h => by
    obtain ⟨a, b, h1, h2, h3⟩ := zipD_get (xs := xs) (ys := ys) (i := i) (by simpa [zipD] using h)
    exact ⟨a, b, by simpa using h1, by simpa using h2, by simpa [zipD] using h3⟩
theorem zipD_len : ∀ (xs ys : List D), (zipD xs ys).length = min xs.length ys.length
  | [], _ => by simp [zipD]
  | _ :: _, [] => by simp [zipD]
  | x :: xs, y :: ys => by
    have h := zipD_len xs ys
    simp only [zipD, List.length_cons, h]
    omega
theorem walk_Z {a b : Addr} {vs ws : List V} {ds es : List D} (hr : Rels K H1 vs ds) (hr2 : Rels K H1 ws es) : WalkD K (RZ.ItzT K a b) (zipD ds es) (fun _ => False) (fun H' => (TupAt K H' a vs ∧ Rels K H' vs ds) ∧ TupAt K H' b ws ∧ Rels K H' ws es) where
  keep := fun H H' μ μ' c _ g f => ⟨⟨g.1.1.mono (f.tx c), Rels.mono (f.tx c) _ _ g.1.2⟩, g.2.1.mono (f.tx c), Rels.mono (f.tx c) _ _ g.2.2⟩
  oo := fun _ _ _ h => h.elim
  go := fun i H' hi g => by
    rw [zipD_len] at hi
    have hv : i < vs.length := by rw [hr.length]; omega
    have hw : i < ws.length := by rw [hr2.length]; omega
    exact ⟨vs, ws, vs[i], ws[i], g.1.1.sq, g.2.1.sq, List.getElem?_eq_getElem hv, List.getElem?_eq_getElem hw⟩
  stop := fun i H' hi g => by
    rw [zipD_len] at hi
    refine ⟨vs, ws, g.1.1.sq, g.2.1.sq, ?_⟩
    rw [hr.length, hr2.length]
    omega
  yld := fun i H' v H2 hi g y => by
    obtain ⟨T0, x, y, e, hT, e2, q1, q2⟩ := y
    obtain ⟨x', y', h1, h2, h3⟩ := zipD_get hi
    obtain ⟨d1, k1, r1⟩ := g.1.2.getV (q1 vs g.1.1.sq)
    obtain ⟨d2, k2, r2⟩ := g.2.2.getV (q2 ws g.2.1.sq)
    rw [h1] at k1; cases k1
    rw [h2] at k2; cases k2
    refine ⟨_, h3, ?_, .inr ⟨T0, _, hT, e2⟩⟩
    subst e e2
    exact .tup (.inl upd_same) (.cons (Rel.mono (tx_new hT) _ _ r1) (.cons (Rel.mono (tx_new hT) _ _ r2) .nil))
theorem ai_Z {ta : TA} (h : AA K ta τ μ fun ds μ1 => ∃ xs ys, ds = [.tup xs, .tup ys] ∧ Ψ (zipD xs ys) μ1 id) : AI K (RZ.iZipA K ta) τ μ Ψ := fun σ H s c R k => h σ H s c _ fun ds μ1 vs H1 f1 c1 r1 ⟨xs, ys, e, q⟩ => by
  subst e
  cases r1 with
  | cons r rr =>
    cases rr with
    | cons r' rr =>
      cases rr
      cases r with
      | @tup a us _ ha hr =>
        cases r' with
        | @tup b ws _ hb hr2 => exact ⟨a, b, us, ws, rfl, .inr ⟨ha.sq, hb.sq, k _ _ _ _ H1 μ1 id (f1.tx c) c1 (walk_Z hr hr2) ⟨⟨ha, hr⟩, hb, hr2⟩ (fun _ z => z.elim) (back_id f1) q⟩⟩
/-- a, b, .. = a list of the store, or a read-only one -/
theorem g_lst {n : Nat} {gs : TGs} {ds : List D} {d : D} {Θ : T → M → Prop} (hs : seqD μ d = some ds) (hd : ∀ es, d ≠ .tup es) (hn : ds.length = n) (h : AGs K gs ds τ μ Θ) : AG K (gLst K n gs) d τ μ Θ := fun σ H v s c r Q k => by
  obtain ⟨a, xs, e, hq, hr⟩ := seq_of c r hs
  subst e
  rcases hq with hq | hq
  · exact ⟨a, xs, rfl, hq, by rw [hr.length]; exact hn, h σ H _ s c hr Q k⟩
  · cases r with
    | tup ht hr' => exact absurd rfl (hd _)
    | rol ht hr' => cases hs; exact ⟨_, _, rfl, ht.sq, by rw [hr'.length]; exact hn, h σ H _ s c hr' Q k⟩
    | ref a =>
      unfold seqD at hs
      simp only at hs
      split at hs
      · rename_i ds' e
        cases hs
        obtain ⟨ys, h1, h2⟩ := c _ _ e
        exact ⟨_, ys, rfl, SqL.of h1, by rw [h2.length]; exact hn, h σ H _ s c h2 Q k⟩
      · cases hs
end
theorem pi_zipK {X : Cx} {K : PySem.W.Frag} {e e2 : Expr} {ta : TA} {p pos tpos : Pos} {elts : List Expr} {kk : Nat} (h : X.K = K) (hg : Gl X "zip") (hm : X.mg "zip" = none) (ha : PA X [e, e2] ta)
    (hs : starEach [e, e2] X.env = (false, eval e X.env) :: starEach [e2] X.env := by rfl) (hpl : (backTo pos (starEach [e2] X.env)).any (·.1) = false := by rfl) :
    PI X (.Tuple elts kk tpos) (.Call (.Name "zip" p) [e, e2] [] pos) (RZ.iZipA K ta) := by
  subst h
  exact RZ.pi_zipA hg hm ha hs hpl
end Z
namespace Z
open PySem L2
def Up (Φ : D → M → Prop) : D → M → Prop := fun d μ' => ∃ μ2, Sub μ2 μ' ∧ Φ d μ2
theorem up_of {Φ : D → M → Prop} {d : D} {μ2 μ' : M} (s : Sub μ2 μ') (h : Φ d μ2) : Up Φ d μ' := ⟨μ2, s, h⟩
theorem body_okU {K : PySem.W.Frag} {H : Hp} {ts : TS} {P : PT3} {E : XK} {Ns : List Str} {vs : List V} {Q : VK} (h : spI K P vs H Q E) (hb : ∀ ds μ Φ, P ds μ Φ → AS K ts (startD Ns.length ds) μ { nx := fun _ μ' => Up Φ .non μ', rt := Up Φ }) :
    ts { nx := fun _ H' => Q .non H', rt := Q } (L2.start Ns vs) H := by
  obtain ⟨ds, μ, Φ, r, c, p, k⟩ := h
  refine hb ds μ Φ p _ H (slots_start r) c _ ⟨fun _ μ' _ H' f c' _ q => ?_, fun d μ' v H' f c' r' q => ?_, fun _ _ _ _ _ _ _ q => q.elim, fun _ _ _ _ _ _ _ q => q.elim, fun _ _ _ _ _ _ _ _ _ _ _ q => q.elim⟩
  · obtain ⟨μ2, sb, q⟩ := q
    exact k .non μ2 .non H' (f.sub sb) (c'.sub sb) .non q
  · obtain ⟨μ2, sb, q⟩ := q
    exact k d μ2 v H' (f.sub sb) (c'.sub sb) r' q
def SubB (b : Addr) (μ μ' : M) : Prop := ∀ a m, a ≠ b → μ a = some m → μ' a = some m
section
variable {μ μ' : M} {b l : Addr} {X Y : MO}
theorem sb_refl : SubB b μ μ := fun _ _ _ h => h
theorem sb_self (h : SubB b μ μ') : SubB b μ (μ'.set b Y) := fun a m n e => by rw [set_ne n]; exact h a m n e
theorem sb_new (h : SubB b μ μ') (hn : μ' l = none) : SubB b μ (μ'.set l Y) := fun a m n e => by
  have h2 := h a m n e
  rw [set_ne (fun z => by rw [z, hn] at h2; cases h2)]
  exact h2
theorem sb_sub (h : SubB b μ μ') : Sub (μ.set b X) (μ'.set b X) := fun a m e => by
  by_cases ha : a = b
  · subst ha; rw [set_same] at e ⊢; exact e
  · rw [set_ne ha] at e ⊢; exact h a m ha e
theorem sub_new (h : Sub μ μ') (hn : μ' l = none) : Sub μ (μ'.set l Y) := fun a m e => by
  have h2 := h a m e
  rw [set_ne (fun z => by rw [z, hn] at h2; cases h2)]
  exact h2
theorem ne_of_some {m : MO} (h : μ l = none) (k : μ b = some m) : l ≠ b := fun z => by subst z; rw [h] at k; cases k
end
abbrev Fq := Int × Int
abbrev Pl := Fq × Fq
abbrev encF (p : Fq) : D := pt p.1 p.2
abbrev encP (p : Pl) : D := .tup [pt p.1.1 p.1.2, pt p.2.1 p.2.2]
/-- a number as law helpers make it, in lowest terms or not: the bottom above 0 -/
structure Good (p : Fq) : Prop where
  pos : 0 < p.2
  s1 : Sz 2000 p.1
  s2 : Sz 2000 p.2
structure GoodP (p : Pl) : Prop where
  x : Good p.1
  y : Good p.2
theorem absn (i : Int) : (if i < 0 then -i else i) = (i.natAbs : Int) := by split <;> omega
/-- one turn of Euclid's -/
theorem gcd_turn (l b : Nat) : Nat.gcd (b % l) l = Nat.gcd l b := (Nat.gcd_rec l b).symm
theorem div_fact {x y : Int} {g : Nat} (hy : 0 < y) (h : Nat.gcd x.natAbs y.natAbs = g) : 0 < g ∧ (x / g) * g = x ∧ (y / g) * g = y ∧ 0 < y / (g : Int) := by
  have hg : 0 < g := by
    rw [← h]
    exact Nat.gcd_pos_of_pos_right _ (by omega)
  have d1 : (g : Int) ∣ x := by
    rw [← h]
    exact Int.ofNat_dvd_left.mpr (Nat.gcd_dvd_left _ _)
  have d2 : (g : Int) ∣ y := by
    rw [← h]
    exact Int.ofNat_dvd_left.mpr (Nat.gcd_dvd_right _ _)
  have e1 := Int.ediv_mul_cancel d1
  have e2 := Int.ediv_mul_cancel d2
  refine ⟨hg, e1, e2, ?_⟩
  rcases Int.lt_or_le 0 (y / (g : Int)) with k | k
  · exact k
  · have : y / (g : Int) * g ≤ 0 := Int.mul_nonpos_of_nonpos_of_nonneg k (by omega)
    omega
theorem div_size {x : Int} {g : Nat} {a : Nat} (hg : 0 < g) (h : (x / g) * g = x) (s : Sz a x) : Sz a (x / (g : Int)) := by
  have s' : x.natAbs < 2 ^ a := s
  unfold Sz
  have e : (x / (g : Int)).natAbs * g = x.natAbs := by
    have := congrArg Int.natAbs h
    rw [Int.natAbs_mul, Int.natAbs_natCast] at this
    exact this
  have : (x / (g : Int)).natAbs ≤ (x / (g : Int)).natAbs * g := Nat.le_mul_of_pos_right _ hg
  omega
end Z
namespace Z
open PySem L2
section
variable {K : PySem.W.Frag} {μ μ' : M} {Φ : D → M → Prop} {b l : Addr} {X : MO}
theorem ro_isB {a b : Bool} (q : Φ (.bl (decide (a = b))) μ) : RO K rIsB (.bl a) (.bl b) μ Φ := fun H x y c r1 r2 Q k => by
  cases r1; cases r2
  exact ⟨a, b, rfl, rfl, k _ μ _ H Fr.refl c (.bl _) q⟩
theorem ro_notB {a b : Bool} (q : Φ (.bl (!decide (a = b))) μ) : RO K rNotB (.bl a) (.bl b) μ Φ := fun H x y c r1 r2 Q k => by
  cases r1; cases r2
  exact ⟨a, b, rfl, rfl, k _ μ _ H Fr.refl c (.bl _) q⟩
theorem sb_end (h : SubB b μ μ') (e : μ' b = some X) : Sub (μ.set b X) μ' := fun a m q => by
  by_cases ha : a = b
  · subst ha; rw [set_same] at q; rw [e]; exact q
  · rw [set_ne ha] at q; exact h a m ha q
end
structure Gd (n : Nat) (p : Fq) : Prop where
  pos : 0 < p.2
  s1 : Sz n p.1
  s2 : Sz n p.2
structure GdP (n : Nat) (p : Pl) : Prop where
  x : Gd n p.1
  y : Gd n p.2
theorem Gd.mono {n m : Nat} {p : Fq} (h : Gd n p) (l : n ≤ m) : Gd m p := ⟨h.pos, sz_mono h.s1 l, sz_mono h.s2 l⟩
theorem GdP.mono {n m : Nat} {p : Pl} (h : GdP n p) (l : n ≤ m) : GdP m p := ⟨h.x.mono l, h.y.mono l⟩
theorem GdP.good {n : Nat} {p : Pl} (h : GdP n p) (l : n ≤ 2000) : GoodP p := ⟨⟨h.x.pos, sz_mono h.x.s1 l, sz_mono h.x.s2 l⟩, ⟨h.y.pos, sz_mono h.y.s1 l, sz_mono h.y.s2 l⟩⟩
theorem sz_dvd {n : Nat} {x y : Int} (hy : 0 < y) (hx : 0 < x) (s : Sz n x) : Sz n (x / y) := by
  have h0 : 0 ≤ x / y := Int.ediv_nonneg (by omega) (by omega)
  have h1 : x / y ≤ x := Int.ediv_le_self y (by omega)
  have s' : x.natAbs < 2 ^ n := s
  unfold Sz
  omega
end Z
namespace Z
open PySem L2
def AO (K : PySem.W.Frag) (to : TO) (τ : T) (μ : M) (Θ : Option Int → M → Prop) : Prop :=
  ∀ σ H, Slots K H τ σ → Z.Con K H μ → ∀ R : Option Int → Hp → Prop, (∀ o μ' H', Fr μ μ' H H' → Z.Con K H' μ' → Θ o μ' → R o H') → to σ H R
/-- what a slice of d answers -/
def RS (K : PySem.W.Frag) (r : V → Option Int → Option Int → Hp → VK → Prop) (d : D) (lo hi : Option Int) (μ : M) (Φ : D → M → Prop) : Prop :=
  ∀ H x, Z.Con K H μ → Rel K H x d → ∀ Q : VK, (∀ z μ' v H', Fr μ μ' H H' → Z.Con K H' μ' → Rel K H' v z → Φ z μ' → Q v H') → r x lo hi H Q
def cutD (ds : List D) (lo hi : Option Int) : List D := (ds.drop (HT.sIx ds.length 0 lo)).take (HT.sIx ds.length ds.length hi - HT.sIx ds.length 0 lo)
section
variable {K : PySem.W.Frag} {τ : T} {μ μ1 μ2 : M} {H H1 H2 H' : Hp} {σ : L2.St} {Φ : D → M → Prop} {ta tl te : TE} {to tp : TO} {Θ : Option Int → M → Prop} {d e : D}
theorem ao_no (h : Θ none μ) : AO K tNoPart τ μ Θ := fun σ H s c R k => k none μ H Fr.refl c h
theorem ao_pt (h : AE K te τ μ fun d μ1 => ∃ i, d = .int i ∧ Θ (some i) μ1) : AO K (tPart te) τ μ Θ := fun σ H s c R k => h σ H s c _ fun d μ1 v H1 f1 c1 r1 ⟨i, e, q⟩ => by
  subst e
  cases r1
  exact ⟨i, rfl, k (some i) μ1 H1 f1 c1 q⟩
theorem a_sl {r : V → Option Int → Option Int → Hp → VK → Prop} (h : AE K te τ μ fun d μ1 => AO K to τ μ1 fun lo μ2 => AO K tp τ μ2 fun hi μ3 => RS K r d lo hi μ3 Φ) : AE K (L2.tSl r te to tp) τ μ Φ := fun σ H s c Q k =>
  h σ H s c _ fun d μ1 v H1 f1 c1 r1 p1 => p1 σ H1 (s.mono (f1.tx c)) c1 _ fun lo μ2 H2 f2 c2 p2 => p2 σ H2 (s.mono ((f1.trans f2).tx c)) c2 _ fun hi μ3 H3 f3 c3 p3 =>
    p3 H3 v c3 (Rel.mono ((f2.trans f3).tx c1) _ _ r1) Q fun z μ' w H' f c' rz pz => k z μ' w H' (((f1.trans f2).trans f3).trans f) c' rz pz
theorem Rels.cut {vs : List V} {ds : List D} (lo hi : Option Int) (r : Rels K H vs ds) : Rels K H (cutV vs lo hi) (cutD ds lo hi) := by
  unfold cutV cutD
  rw [r.length]
  exact (r.drop _).take _
theorem rs_ref {a : Addr} {ds : List D} {lo hi : Option Int} (h : μ a = some (.lst ds)) (q : ∀ p, μ p = none → Φ (.ref p) (μ.set p (.lst (cutD ds lo hi)))) : RS K (rSlL K) (.ref a) lo hi μ Φ := fun H x c r Q k => by
  cases r
  obtain ⟨xs, hx, hr⟩ := c a _ h
  exact ⟨a, xs, rfl, SqL.of hx, fun p hp => k _ _ _ _ (fr_put hp) (con_put (m := .lst (cutD ds lo hi)) hp c ⟨_, upd_same, Rels.mono (tx_new hp) _ _ (hr.cut lo hi)⟩) (.ref p) (q p (c.free hp))⟩
theorem rs_rol {ds : List D} {lo hi : Option Int} (q : ∀ p, μ p = none → Φ (.ref p) (μ.set p (.lst (cutD ds lo hi)))) : RS K (rSlL K) (.rol ds) lo hi μ Φ := fun H x c r Q k => by
  cases r with
  | @rol a xs _ ht hr => exact ⟨a, xs, rfl, ht.sq, fun p hp => k _ _ _ _ (fr_put hp) (con_put (m := .lst (cutD ds lo hi)) hp c ⟨_, upd_same, Rels.mono (tx_new hp) _ _ (hr.cut lo hi)⟩) (.ref p) (q p (c.free hp))⟩
/-- two lists of the store, put together -/
theorem ro_cat {a b : Addr} {ds es : List D} (h1 : μ a = some (.lst ds)) (h2 : μ b = some (.lst es)) (hz : ds.length + es.length ≤ sizeLine) (q : ∀ p, μ p = none → Φ (.ref p) (μ.set p (.lst (ds ++ es)))) : RO K rCat (.ref a) (.ref b) μ Φ := fun H x y c r1 r2 Q k => by
  cases r1
  cases r2
  obtain ⟨xs, hx, hr⟩ := c a _ h1
  obtain ⟨ys, hy, hr2⟩ := c b _ h2
  exact ⟨a, b, xs, ys, rfl, rfl, hx, hy, by rw [hr.length, hr2.length]; exact hz, fun p hp => k _ _ _ _ (fr_put hp) (con_put (m := .lst (ds ++ es)) hp c ⟨_, upd_same, Rels.mono (tx_new hp) _ _ (hr.append hr2)⟩) (.ref p) (q p (c.free hp))⟩
end
end Z
namespace ZL
open PySem PySem.Spec PyProof.Rows PySem.Calls PySem.W
section
variable {prog : Program} {w : World} {A : Around} {E : Value → Shared → Prop} {s : Shared} {z TI TO T S i1 i2 l1 l2 : Addr} {xs ys : Array Value}
/-- how the zip stands ahead of turn k, while a list S takes its pairs -/
def ZSt (h : Heap) (z TI TO i1 i2 l1 l2 S : Addr) (xs ys : Array Value) (k : Nat) : Prop :=
  (IsPair h TI (.ref i1) (.ref i2) ∧ h.IsTupleIter i1 l1 k ∧ h.IsTupleIter i2 l2 k ∧ h.IsTuple l1 xs ∧ h.IsTuple l2 ys) ∧
  ((IsZip h z TI TO .none ∧ ∃ u v, IsPair h TO u v) ∨ ∃ T f oT, IsZipHeld h z TI TO T f ∧ h.get? T = some oT ∧ T ≠ z ∧ T ≠ i1 ∧ T ≠ i2 ∧ T ≠ S)
structure Off (S z TI TO i1 i2 l1 l2 : Addr) : Prop where
  sz : S ≠ z
  sTI : S ≠ TI
  sTO : S ≠ TO
  s1 : S ≠ i1
  s2 : S ≠ i2
  sl1 : S ≠ l1
  sl2 : S ≠ l2
theorem ZSt.keep {h h' : Heap} {k : Nat} (O : Off S z TI TO i1 i2 l1 l2) (st : ZSt h z TI TO i1 i2 l1 l2 S xs ys k) (hk : ∀ b o, b ≠ S → h.get? b = some o → h'.get? b = some o) : ZSt h' z TI TO i1 i2 l1 l2 S xs ys k := by
  obtain ⟨⟨a1, a2, a3, ⟨o4, a4, b4⟩, ⟨o5, a5, b5⟩⟩, q⟩ := st
  refine ⟨⟨hk _ _ O.sTI.symm a1, a2.at fun o e => hk _ _ O.s1.symm e, a3.at fun o e => hk _ _ O.s2.symm e, ⟨o4, hk _ _ O.sl1.symm a4, b4⟩, ⟨o5, hk _ _ O.sl2.symm a5, b5⟩⟩, ?_⟩
  rcases q with ⟨q1, u, v, q2⟩ | ⟨T, f, oT, q1, q2, n1, n2, n3, n4⟩
  · exact .inl ⟨hk _ _ O.sz.symm q1, u, v, hk _ _ O.sTO.symm q2⟩
  · exact .inr ⟨T, f, oT, hk _ _ O.sz.symm q1, hk _ _ n4 q2, n1, n2, n3, n4⟩
end
end ZL
namespace Z
open PySem L2
end Z
namespace Z
open PySem L2
section
variable {K : PySem.W.Frag} {τ : T} {μ μ1 μ2 : M} {H H1 H2 H' : Hp} {σ : L2.St} {Φ : D → M → Prop} {ta tl te : TE} {tt tt1 : TT} {g g1 : TG} {wi wi1 : TI} {d e : D}
theorem cutD_all {ds : List D} {lo hi : Option Int} (h : HT.sIx ds.length 0 lo = 0 ∧ HT.sIx ds.length ds.length hi = ds.length) : cutD ds lo hi = ds := by
  unfold cutD
  rw [h.1, h.2]
  simp
theorem rs_tupA {ds : List D} {lo hi : Option Int} (q : Φ (.tup (cutD ds lo hi)) μ) : RS K (rSlA K) (.tup ds) lo hi μ Φ := fun H x c r Q k => by
  cases r with
  | @tup a xs _ ht hr =>
    refine ⟨a, xs, rfl, ht.sq, fun hw => ?_, fun hw p hp => k _ μ _ _ (fr_new hp) (con_new hp c) (.tup (.inl upd_same) (Rels.mono (tx_new hp) _ _ (hr.cut lo hi))) q⟩
    rw [hr.length] at hw
    rw [cutD_all hw] at q
    exact k _ μ _ _ Fr.refl c (.tup ht hr) q
theorem ro_catA {ds es : List D} (hz : ds.length + es.length ≤ sizeLine) (q : Φ (.tup (ds ++ es)) μ) : RO K (rCatA K) (.tup ds) (.tup es) μ Φ := fun H x y c r1 r2 Q k => by
  cases r1 with
  | @tup a xs _ ht hr =>
    cases r2 with
    | @tup b ys _ ht2 hr2 =>
      refine ⟨a, b, xs, ys, rfl, rfl, ht.sq, ht2.sq, by rw [hr.length, hr2.length]; exact hz, fun z => ?_, fun _ z => ?_, fun _ _ p hp => ?_⟩
      · subst z; cases hr; exact k _ μ _ _ Fr.refl c (.tup ht2 hr2) q
      · subst z; cases hr2; rw [List.append_nil] at q; exact k _ μ _ _ Fr.refl c (.tup ht hr) q
      · exact k _ μ _ _ (fr_new hp) (con_new hp c) (.tup (.inl upd_same) (Rels.mono (tx_new hp) _ _ (hr.append hr2))) q
variable {Ψ : List D → M → (M → M) → Prop}
end
end Z
namespace Z
open PySem L2
/-- plain, and n deep at most -/
structure OkN (n : Nat) (d : D) : Prop where
  p : D.plain d = true
  l : (D.py d).canLay0 = true
  d : (D.py d).depth ≤ n
theorem OkN.mono {n m : Nat} {d : D} (h : OkN n d) (l : n ≤ m) : OkN m d := ⟨h.p, h.l, Nat.le_trans h.d l⟩
theorem OkN.ok {n : Nat} {d : D} (h : OkN n d) (l : n ≤ 64) : D.ok d = true := by
  unfold D.ok SeqAt.shaped
  rw [h.p, h.l, decide_eq_true (Nat.le_trans h.d l)]
  rfl
end Z
namespace Z
open PySem L2
end Z
namespace Tch
def ar (a b c : Int × Int) : Int := (b.1 - a.1) * (c.2 - a.2) - (b.2 - a.2) * (c.1 - a.1)
def Btw (x y z : Int) : Prop := (x ≤ z ∧ z ≤ y) ∨ (y ≤ z ∧ z ≤ x)
def Ovl (x y z w : Int) : Prop := (x ≤ z ∨ x ≤ w ∨ y ≤ z ∨ y ≤ w) ∧ (z ≤ x ∨ z ≤ y ∨ w ≤ x ∨ w ≤ y)
theorem btw_of {x y z : Int} (h : 0 ≤ (z - x) * (y - z)) : Btw x y z := by
  unfold Btw
  by_cases h1 : x ≤ z
  · by_cases h2 : z ≤ y
    · exact .inl ⟨h1, h2⟩
    · by_cases h3 : x = z
      · exact .inr ⟨by omega, by omega⟩
      · have : (z - x) * (y - z) < 0 := Int.mul_neg_of_pos_of_neg (by omega) (by omega)
        omega
  · by_cases h2 : y ≤ z
    · exact .inr ⟨h2, by omega⟩
    · have : (z - x) * (y - z) < 0 := Int.mul_neg_of_neg_of_pos (by omega) (by omega)
      omega
theorem of_btw {x y z : Int} (h : Btw x y z) : 0 ≤ (z - x) * (y - z) := by
  rcases h with ⟨h1, h2⟩ | ⟨h1, h2⟩
  · exact Int.mul_nonneg (by omega) (by omega)
  · exact Int.mul_nonneg_of_nonpos_of_nonpos (by omega) (by omega)
theorem sq_nn (x : Int) : 0 ≤ x * x := by
  rcases Int.le_total 0 x with h | h
  · exact Int.mul_nonneg h h
  · exact Int.mul_nonneg_of_nonpos_of_nonpos h h
theorem sq_pos {x : Int} (h : x ≠ 0) : 0 < x * x := by
  have h1 := sq_nn x
  have h2 : x * x ≠ 0 := fun z => h (by rcases Int.mul_eq_zero.mp z with h | h <;> exact h)
  omega
/-- from p * q ≥ 0 with p > 0 -/
theorem nn_of {p x : Int} (hp : 0 < p) (h : 0 ≤ x * p) : 0 ≤ x := by
  rcases Int.lt_or_le x 0 with hx | hx
  · have := Int.mul_neg_of_neg_of_pos hx hp
    omega
  · exact hx
theorem id1 (a b c d : Int × Int) : ar a b c - ar a b d = ar c d b - ar c d a := by unfold ar; grind
theorem id2 (a b c d : Int × Int) : a.1 * ar c d b - b.1 * ar c d a = d.1 * ar a b c - c.1 * ar a b d := by unfold ar; grind
theorem id3 (a b c d : Int × Int) : a.2 * ar c d b - b.2 * ar c d a = d.2 * ar a b c - c.2 * ar a b d := by unfold ar; grind
theorem id4 (a b c d : Int × Int) (h : ar a b c = 0) : (c.1 - a.1) * (ar c d b - ar c d a) = (b.1 - a.1) * (- ar c d a) := by unfold ar at *; grind
theorem id5 (a b c d : Int × Int) (h : ar a b c = 0) : (b.1 - c.1) * (ar c d b - ar c d a) = (b.1 - a.1) * ar c d b := by unfold ar at *; grind
theorem id6 (a b c d : Int × Int) (h : ar a b c = 0) : (c.2 - a.2) * (ar c d b - ar c d a) = (b.2 - a.2) * (- ar c d a) := by unfold ar at *; grind
theorem id7 (a b c d : Int × Int) (h : ar a b c = 0) : (b.2 - c.2) * (ar c d b - ar c d a) = (b.2 - a.2) * ar c d b := by unfold ar at *; grind
def Lies (a b c : Int × Int) : Prop := Btw a.1 b.1 c.1 ∧ Btw a.2 b.2 c.2 ∧ ar a b c = 0
/-- the two pieces as boxes overlap, and no piece parts the ends of the other -/
def TouchP (a b c d : Int × Int) : Prop := Ovl a.1 b.1 c.1 d.1 ∧ Ovl a.2 b.2 c.2 d.2 ∧ ar a b c * ar a b d ≤ 0 ∧ ar c d a * ar c d b ≤ 0
def MeetP (a b c d : Int × Int) : Prop := Lies a b c ∨ Lies a b d ∨ Lies c d a ∨ Lies c d b ∨ (ar a b c * ar a b d < 0 ∧ ar c d a * ar c d b < 0)
theorem sw1 (a b c : Int × Int) : ar b a c = - ar a b c := by unfold ar; grind
/-- an end on the other piece: the other piece's ends are not parted the same way -/
theorem lies_opp {a b c : Int × Int} (d : Int × Int) (h : Lies a b c) : ar c d a * ar c d b ≤ 0 := by
  obtain ⟨h1, h2, h3⟩ := h
  have k1 := of_btw h1
  have k2 := of_btw h2
  -- p = a - c, q = b - c
  have e1 : (c.1 - a.1) * (b.1 - c.1) = -((a.1 - c.1) * (b.1 - c.1)) := by grind
  have e2 : (c.2 - a.2) * (b.2 - c.2) = -((a.2 - c.2) * (b.2 - c.2)) := by grind
  have eC : (a.1 - c.1) * (b.2 - c.2) = (a.2 - c.2) * (b.1 - c.1) := by unfold ar at h3; grind
  by_cases hA : (a.1 - c.1) * (b.1 - c.1) = 0
  · -- then C = 0
    have hC : (a.1 - c.1) * (b.2 - c.2) = 0 := by
      rcases Int.mul_eq_zero.mp hA with h | h
      · rw [h, Int.zero_mul]
      · rw [eC, h, Int.mul_zero]
    have e : ar c d a * ar c d b = ((d.1 - c.1) * (d.1 - c.1)) * ((a.2 - c.2) * (b.2 - c.2)) := by unfold ar; grind
    rw [e]
    exact Int.mul_nonpos_of_nonneg_of_nonpos (sq_nn _) (by omega)
  · have hA' : 0 < -((a.1 - c.1) * (b.1 - c.1)) := by omega
    have e : (-(ar c d a * ar c d b)) * (-((a.1 - c.1) * (b.1 - c.1))) = ((d.1 - c.1) * ((a.1 - c.1) * (b.2 - c.2)) - (d.2 - c.2) * ((a.1 - c.1) * (b.1 - c.1))) * ((d.1 - c.1) * ((a.1 - c.1) * (b.2 - c.2)) - (d.2 - c.2) * ((a.1 - c.1) * (b.1 - c.1))) := by unfold ar; grind
    have := nn_of hA' (by rw [e]; exact sq_nn _)
    omega
theorem ovl_of_btw {x y z w : Int} (h : Btw x y z) : Ovl x y z w := by unfold Btw Ovl at *; omega
theorem ovl_sw {x y z w : Int} (h : Ovl x y z w) : Ovl z w x y := by unfold Ovl at *; omega
theorem ovl_sw2 {x y z w : Int} (h : Ovl x y z w) : Ovl x y w z := by unfold Ovl at *; omega
theorem touch_of_lies {a b c : Int × Int} (d : Int × Int) (h : Lies a b c) : TouchP a b c d :=
  ⟨ovl_of_btw h.1, ovl_of_btw h.2.1, by rw [h.2.2, Int.zero_mul]; exact Int.le_refl _, lies_opp d h⟩
theorem touch_sw {a b c d : Int × Int} (h : TouchP a b c d) : TouchP c d a b := ⟨ovl_sw h.1, ovl_sw h.2.1, h.2.2.2, h.2.2.1⟩
theorem touch_sw2 {a b c d : Int × Int} (h : TouchP a b c d) : TouchP a b d c :=
  ⟨ovl_sw2 h.1, ovl_sw2 h.2.1, by rw [Int.mul_comm]; exact h.2.2.1, by rw [sw1 c d a, sw1 c d b, Int.neg_mul_neg]; exact h.2.2.2⟩
/-- strictly parted both ways: the boxes overlap -/
theorem ovl_strict {x1 x2 y1 y2 p q r s : Int} (e : x1 * q - x2 * p = y2 * r - y1 * s) (ew : r - s = q - p) (h1 : r * s < 0) (h2 : p * q < 0) : Ovl x1 x2 y1 y2 := by
  -- signs
  have sg : (0 < r ∧ s < 0) ∨ (r < 0 ∧ 0 < s) := by
    rcases Int.lt_trichotomy r 0 with h | h | h
    · rcases Int.lt_trichotomy s 0 with k | k | k
      · have := Int.mul_pos_of_neg_of_neg h k; omega
      · rw [k, Int.mul_zero] at h1; omega
      · exact .inr ⟨h, k⟩
    · rw [h, Int.zero_mul] at h1; omega
    · rcases Int.lt_trichotomy s 0 with k | k | k
      · exact .inl ⟨h, k⟩
      · rw [k, Int.mul_zero] at h1; omega
      · have := Int.mul_pos h k; omega
  have sg2 : (0 < q ∧ p < 0) ∨ (q < 0 ∧ 0 < p) := by
    rcases Int.lt_trichotomy q 0 with h | h | h
    · rcases Int.lt_trichotomy p 0 with k | k | k
      · have := Int.mul_pos_of_neg_of_neg k h; omega
      · rw [k, Int.zero_mul] at h2; omega
      · exact .inr ⟨h, k⟩
    · rw [h, Int.mul_zero] at h2; omega
    · rcases Int.lt_trichotomy p 0 with k | k | k
      · exact .inl ⟨h, k⟩
      · rw [k, Int.zero_mul] at h2; omega
      · have := Int.mul_pos k h; omega
  -- if one box lies strictly ahead of the other
  have key : ∀ {p q r s : Int}, x1 * q - x2 * p = y2 * r - y1 * s → r - s = q - p → 0 < r → s < 0 → 0 < q → p < 0 → Ovl x1 x2 y1 y2 := by
    intro p q r s e ew hr hs hq hp
    unfold Ovl
    refine ⟨?_, ?_⟩
    · -- not both x above both y
      refine Classical.byContradiction fun n => ?_
      have a1 : y1 + 1 ≤ x1 := by omega
      have a2 : y2 + 1 ≤ x1 := by omega
      have a3 : y1 + 1 ≤ x2 := by omega
      have a4 : y2 + 1 ≤ x2 := by omega
      -- least x
      have m : ∃ m, y1 < m ∧ y2 < m ∧ m ≤ x1 ∧ m ≤ x2 := by
        by_cases h : x1 ≤ x2
        · exact ⟨x1, by omega, by omega, by omega, h⟩
        · exact ⟨x2, by omega, by omega, by omega, by omega⟩
      obtain ⟨m, b1, b2, b3, b4⟩ := m
      have c1 := Int.mul_le_mul_of_nonneg_right b3 (show 0 ≤ q by omega)
      have c2 := Int.mul_le_mul_of_nonneg_right b4 (show 0 ≤ -p by omega)
      have c3 := Int.mul_lt_mul_of_pos_right b2 hr
      have c4 := Int.mul_lt_mul_of_pos_right b1 (show 0 < -s by omega)
      have e2 : m * q + m * -p = m * r + m * -s := by
        have : m * (q - p) = m * (r - s) := by rw [ew]
        grind
      grind
    · refine Classical.byContradiction fun n => ?_
      have m : ∃ m, m < y1 ∧ m < y2 ∧ x1 ≤ m ∧ x2 ≤ m := by
        by_cases h : x1 ≤ x2
        · exact ⟨x2, by omega, by omega, h, by omega⟩
        · exact ⟨x1, by omega, by omega, by omega, by omega⟩
      obtain ⟨m, b1, b2, b3, b4⟩ := m
      have c1 := Int.mul_le_mul_of_nonneg_right b3 (show 0 ≤ q by omega)
      have c2 := Int.mul_le_mul_of_nonneg_right b4 (show 0 ≤ -p by omega)
      have c3 := Int.mul_lt_mul_of_pos_right b2 hr
      have c4 := Int.mul_lt_mul_of_pos_right b1 (show 0 < -s by omega)
      have e2 : m * q + m * -p = m * r + m * -s := by
        have : m * (q - p) = m * (r - s) := by rw [ew]
        grind
      grind
  rcases sg with ⟨hr, hs⟩ | ⟨hr, hs⟩
  · rcases sg2 with ⟨hq, hp⟩ | ⟨hq, hp⟩
    · exact key e ew hr hs hq hp
    · omega
  · rcases sg2 with ⟨hq, hp⟩ | ⟨hq, hp⟩
    · omega
    · exact key (p := -p) (q := -q) (r := -r) (s := -s) (by grind) (by omega) (by omega) (by omega) (by omega) (by omega)
theorem touch_of_meet {a b c d : Int × Int} (h : MeetP a b c d) : TouchP a b c d := by
  rcases h with h | h | h | h | ⟨h1, h2⟩
  · exact touch_of_lies d h
  · exact touch_sw2 (touch_of_lies c h)
  · exact touch_sw (touch_of_lies b h)
  · exact touch_sw (touch_sw2 (touch_of_lies a h))
  · refine ⟨ovl_strict (id2 a b c d) ?_ h1 h2, ovl_strict (id3 a b c d) ?_ h1 h2, by omega, by omega⟩
    · exact id1 a b c d
    · exact id1 a b c d
/-- c on the line of a and b, d beside it -/
theorem lies_of {a b c d : Int × Int} (h : TouchP a b c d) (h1 : ar a b c = 0) (h2 : ar a b d ≠ 0) : Lies a b c := by
  have hW : ar c d b - ar c d a ≠ 0 := by
    have := id1 a b c d
    omega
  have hp := sq_pos hW
  have h4 := h.2.2.2
  refine ⟨btw_of ?_, btw_of ?_, h1⟩
  · have i4 := id4 a b c d h1
    have i5 := id5 a b c d h1
    refine nn_of hp ?_
    have e : (c.1 - a.1) * (b.1 - c.1) * ((ar c d b - ar c d a) * (ar c d b - ar c d a)) = ((b.1 - a.1) * (b.1 - a.1)) * (-(ar c d a * ar c d b)) := by
      have : (c.1 - a.1) * (b.1 - c.1) * ((ar c d b - ar c d a) * (ar c d b - ar c d a)) = ((c.1 - a.1) * (ar c d b - ar c d a)) * ((b.1 - c.1) * (ar c d b - ar c d a)) := by grind
      rw [this, i4, i5]
      grind
    rw [e]
    exact Int.mul_nonneg (sq_nn _) (by omega)
  · have i4 := id6 a b c d h1
    have i5 := id7 a b c d h1
    refine nn_of hp ?_
    have e : (c.2 - a.2) * (b.2 - c.2) * ((ar c d b - ar c d a) * (ar c d b - ar c d a)) = ((b.2 - a.2) * (b.2 - a.2)) * (-(ar c d a * ar c d b)) := by
      have : (c.2 - a.2) * (b.2 - c.2) * ((ar c d b - ar c d a) * (ar c d b - ar c d a)) = ((c.2 - a.2) * (ar c d b - ar c d a)) * ((b.2 - c.2) * (ar c d b - ar c d a)) := by grind
      rw [this, i4, i5]
      grind
    rw [e]
    exact Int.mul_nonneg (sq_nn _) (by omega)
/-- on a line that is not upright: between by x is between by y -/
theorem btw_line {p q r p' q' r' dx dy : Int} (hx : dx ≠ 0) (h1 : (r' - p') * dx = dy * (r - p)) (h2 : (q' - r') * dx = dy * (q - r)) (h : Btw p q r) : Btw p' q' r' := by
  refine btw_of (nn_of (sq_pos hx) ?_)
  have e : (r' - p') * (q' - r') * (dx * dx) = (dy * dy) * ((r - p) * (q - r)) := by
    have : (r' - p') * (q' - r') * (dx * dx) = ((r' - p') * dx) * ((q' - r') * dx) := by grind
    rw [this, h1, h2]
    grind
  rw [e]
  exact Int.mul_nonneg (sq_nn _) (of_btw h)
theorem ovl_ends {x y z w : Int} (h : Ovl x y z w) : Btw x y z ∨ Btw x y w ∨ Btw z w x ∨ Btw z w y := by unfold Ovl Btw at *; omega
/-- all on one line, which is not upright -/
theorem flat_x {a b c d : Int × Int} (hx : b.1 - a.1 ≠ 0) (o : Ovl a.1 b.1 c.1 d.1) (h1 : ar a b c = 0) (h2 : ar a b d = 0) (h3 : ar c d a = 0) (h4 : ar c d b = 0) : Lies a b c ∨ Lies a b d ∨ Lies c d a ∨ Lies c d b := by
  have l1 : (c.2 - a.2) * (b.1 - a.1) = (b.2 - a.2) * (c.1 - a.1) := by unfold ar at h1; grind
  have l2 : (d.2 - a.2) * (b.1 - a.1) = (b.2 - a.2) * (d.1 - a.1) := by unfold ar at h2; grind
  rcases ovl_ends o with k | k | k | k
  · exact .inl ⟨k, btw_line (dy := b.2 - a.2) hx l1 (by grind) k, h1⟩
  · exact .inr (.inl ⟨k, btw_line (dy := b.2 - a.2) hx l2 (by grind) k, h2⟩)
  · exact .inr (.inr (.inl ⟨k, btw_line (dy := b.2 - a.2) hx (by grind) (by grind) k, h3⟩))
  · exact .inr (.inr (.inr ⟨k, btw_line (dy := b.2 - a.2) hx (by grind) (by grind) k, h4⟩))
theorem flat_y {a b c d : Int × Int} (hx : b.2 - a.2 ≠ 0) (o : Ovl a.2 b.2 c.2 d.2) (h1 : ar a b c = 0) (h2 : ar a b d = 0) (h3 : ar c d a = 0) (h4 : ar c d b = 0) : Lies a b c ∨ Lies a b d ∨ Lies c d a ∨ Lies c d b := by
  have l1 : (c.1 - a.1) * (b.2 - a.2) = (b.1 - a.1) * (c.2 - a.2) := by unfold ar at h1; grind
  have l2 : (d.1 - a.1) * (b.2 - a.2) = (b.1 - a.1) * (d.2 - a.2) := by unfold ar at h2; grind
  rcases ovl_ends o with k | k | k | k
  · exact .inl ⟨btw_line (dy := b.1 - a.1) hx l1 (by grind) k, k, h1⟩
  · exact .inr (.inl ⟨btw_line (dy := b.1 - a.1) hx l2 (by grind) k, k, h2⟩)
  · exact .inr (.inr (.inl ⟨btw_line (dy := b.1 - a.1) hx (by grind) (by grind) k, k, h3⟩))
  · exact .inr (.inr (.inr ⟨btw_line (dy := b.1 - a.1) hx (by grind) (by grind) k, k, h4⟩))
theorem meet_of_touch {a b c d : Int × Int} (h : TouchP a b c d) : MeetP a b c d := by
  unfold MeetP
  have i1 := id1 a b c d
  by_cases z1 : ar a b c = 0
  · by_cases z2 : ar a b d = 0
    · -- all four
      have h4 := h.2.2.2
      have e : ar c d b = ar c d a := by omega
      have z3 : ar c d a = 0 := by
        refine Classical.byContradiction fun n => ?_
        have := sq_pos n
        rw [e] at h4
        omega
      have z4 : ar c d b = 0 := by omega
      by_cases hx : b.1 - a.1 = 0
      · by_cases hy : b.2 - a.2 = 0
        · -- a = b
          by_cases kx : d.1 - c.1 = 0
          · by_cases ky : d.2 - c.2 = 0
            · -- all one place
              have o1 := h.1
              have o2 := h.2.1
              refine .inl ⟨?_, ?_, z1⟩
              · unfold Ovl at o1; unfold Btw; omega
              · unfold Ovl at o2; unfold Btw; omega
            · rcases flat_y ky (ovl_sw h.2.1) z3 z4 z1 z2 with k | k | k | k
              · exact .inr (.inr (.inl k))
              · exact .inr (.inr (.inr (.inl k)))
              · exact .inl k
              · exact .inr (.inl k)
          · rcases flat_x kx (ovl_sw h.1) z3 z4 z1 z2 with k | k | k | k
            · exact .inr (.inr (.inl k))
            · exact .inr (.inr (.inr (.inl k)))
            · exact .inl k
            · exact .inr (.inl k)
        · rcases flat_y hy h.2.1 z1 z2 z3 z4 with k | k | k | k
          · exact .inl k
          · exact .inr (.inl k)
          · exact .inr (.inr (.inl k))
          · exact .inr (.inr (.inr (.inl k)))
      · rcases flat_x hx h.1 z1 z2 z3 z4 with k | k | k | k
        · exact .inl k
        · exact .inr (.inl k)
        · exact .inr (.inr (.inl k))
        · exact .inr (.inr (.inr (.inl k)))
    · exact .inl (lies_of h z1 z2)
  · by_cases z2 : ar a b d = 0
    · exact .inr (.inl (lies_of (touch_sw2 h) z2 z1))
    · by_cases z3 : ar c d a = 0
      · by_cases z4 : ar c d b = 0
        · -- then the first two are alike, their product is not above 0
          have e : ar a b c = ar a b d := by omega
          have h3 := h.2.2.1
          rw [e] at h3
          have := sq_pos z2
          omega
        · exact .inr (.inr (.inl (lies_of (touch_sw h) z3 z4)))
      · by_cases z4 : ar c d b = 0
        · exact .inr (.inr (.inr (.inl (lies_of (touch_sw2 (touch_sw h)) z4 z3))))
        · have h3 := h.2.2.1
          have h4 := h.2.2.2
          have n1 : ar a b c * ar a b d ≠ 0 := fun z => by rcases Int.mul_eq_zero.mp z with k | k <;> omega
          have n2 : ar c d a * ar c d b ≠ 0 := fun z => by rcases Int.mul_eq_zero.mp z with k | k <;> omega
          exact .inr (.inr (.inr (.inr ⟨by omega, by omega⟩)))
theorem touch_iff (a b c d : Int × Int) : TouchP a b c d ↔ MeetP a b c d := ⟨meet_of_touch, touch_of_meet⟩
end Tch
namespace Fr2
open Z Tch
theorem sgn_mul_neg (x y : Int) : sgn x * sgn y < 0 ↔ x * y < 0 := by
  unfold sgn
  rcases Int.lt_trichotomy x 0 with h | h | h <;> rcases Int.lt_trichotomy y 0 with k | k | k
  · have := Int.mul_pos_of_neg_of_neg h k
    rw [if_neg (by omega), if_pos h, if_neg (by omega), if_pos k]; omega
  · subst k; simp
  · have := Int.mul_neg_of_neg_of_pos h k
    rw [if_neg (by omega), if_pos h, if_pos k]; omega
  · subst h; simp
  · subst h; simp
  · subst h; simp
  · have := Int.mul_neg_of_pos_of_neg h k
    rw [if_pos h, if_neg (by omega), if_pos k]; omega
  · subst k; simp
  · have := Int.mul_pos h k
    rw [if_pos h, if_pos k]; omega
theorem sgn_mul_pos (x y : Int) : 0 < sgn x * sgn y ↔ 0 < x * y := by
  unfold sgn
  rcases Int.lt_trichotomy x 0 with h | h | h <;> rcases Int.lt_trichotomy y 0 with k | k | k
  · have := Int.mul_pos_of_neg_of_neg h k
    rw [if_neg (by omega), if_pos h, if_neg (by omega), if_pos k]; omega
  · subst k; simp
  · have := Int.mul_neg_of_neg_of_pos h k
    rw [if_neg (by omega), if_pos h, if_pos k]; omega
  · subst h; simp
  · subst h; simp
  · subst h; simp
  · have := Int.mul_neg_of_pos_of_neg h k
    rw [if_pos h, if_neg (by omega), if_pos k]; omega
  · subst k; simp
  · have := Int.mul_pos h k
    rw [if_pos h, if_pos k]; omega
theorem sgn_zero (x : Int) : sgn x = 0 ↔ x = 0 := by
  unfold sgn
  split
  · omega
  · split <;> omega
theorem sz_sgn (x : Int) : Sz 1 (sgn x) := by
  unfold sgn
  split
  · decide
  · split <;> decide
/-- sgn is alike where both are stretched -/
theorem sgn_scale {x y u v : Int} (hu : 0 < u) (hv : 0 < v) (h : x * u = y * v) : sgn x = sgn y := by
  have a : 0 < x ↔ 0 < y := by
    constructor
    · intro hx
      have := Int.mul_pos hx hu
      rcases Int.lt_or_le 0 y with k | k
      · exact k
      · have := Int.mul_nonpos_of_nonpos_of_nonneg k (Int.le_of_lt hv); omega
    · intro hx
      have := Int.mul_pos hx hv
      rcases Int.lt_or_le 0 x with k | k
      · exact k
      · have := Int.mul_nonpos_of_nonpos_of_nonneg k (Int.le_of_lt hu); omega
  have b : x < 0 ↔ y < 0 := by
    constructor
    · intro hx
      have := Int.mul_neg_of_neg_of_pos hx hu
      rcases Int.lt_or_le y 0 with k | k
      · exact k
      · have := Int.mul_nonneg k (Int.le_of_lt hv); omega
    · intro hx
      have := Int.mul_neg_of_neg_of_pos hx hv
      rcases Int.lt_or_le x 0 with k | k
      · exact k
      · have := Int.mul_nonneg k (Int.le_of_lt hu); omega
  unfold sgn
  by_cases h1 : 0 < x
  · rw [if_pos h1, if_pos (a.mp h1)]
  · rw [if_neg h1, if_neg (fun z => h1 (a.mpr z))]
    by_cases h2 : x < 0
    · rw [if_pos h2, if_pos (b.mp h2)]
    · rw [if_neg h2, if_neg (fun z => h2 (b.mpr z))]
def lessF (p q : Fq) : Fq := (p.1 * q.2 - q.1 * p.2, p.2 * q.2)
def psd (a b c : Pl) : Int := sgn ((lessF b.1 a.1).1 * (lessF c.2 a.2).1 * (lessF b.2 a.2).2 * (lessF c.1 a.1).2 - (lessF b.2 a.2).1 * (lessF c.1 a.1).1 * (lessF b.1 a.1).2 * (lessF c.2 a.2).2)
def lst (p q : Fq) : Bool := decide (p.1 * q.2 ≤ q.1 * p.2)
def ovl (a b c d : Fq) : Bool := lst (if lst a b = true then a else b) (if lst c d = true then d else c) && lst (if lst c d = true then c else d) (if lst a b = true then b else a)
def tch (a b c d : Pl) : Bool := ovl a.1 b.1 c.1 d.1 && (ovl a.2 b.2 c.2 d.2 && (!decide (0 < psd a b c * psd a b d) && decide (psd c d a * psd c d b ≤ 0)))
/-- s is p times g -/
def Sc (g : Int) (p : Fq) (s : Int) : Prop := s * p.2 = p.1 * g
def ScP (g : Int) (p : Pl) (s : Int × Int) : Prop := Sc g p.1 s.1 ∧ Sc g p.2 s.2
section
variable {g : Int} {p q : Fq} {s t : Int}
theorem lst_iff (hg : 0 < g) (hp : 0 < p.2) (hq : 0 < q.2) (h : Sc g p s) (k : Sc g q t) : lst p q = true ↔ s ≤ t := by
  unfold lst
  rw [decide_eq_true_iff]
  have e1 : (p.1 * q.2) * g = s * (p.2 * q.2) := by unfold Sc at h; grind
  have e2 : (q.1 * p.2) * g = t * (p.2 * q.2) := by unfold Sc at k; grind
  have hpq : 0 < p.2 * q.2 := Int.mul_pos hp hq
  constructor
  · intro l
    have := Int.mul_le_mul_of_nonneg_right l (Int.le_of_lt hg)
    rw [e1, e2] at this
    exact Int.le_of_mul_le_mul_right this hpq
  · intro l
    have := Int.mul_le_mul_of_nonneg_right l (Int.le_of_lt hpq)
    rw [← e1, ← e2] at this
    exact Int.le_of_mul_le_mul_right this hg
theorem lst_false (hg : 0 < g) (hp : 0 < p.2) (hq : 0 < q.2) (h : Sc g p s) (k : Sc g q t) : lst p q = false ↔ t < s := by
  have := lst_iff hg hp hq h k
  cases e : lst p q with
  | true => rw [e] at this; have := this.mp rfl; constructor <;> intro z <;> first | cases z | omega
  | false => rw [e] at this; constructor <;> intro z <;> first | rfl | (rcases Int.lt_or_le t s with k | k; exact k; exact absurd (this.mpr k) (by decide))
theorem ovl_iff {a b c d : Fq} {sa sb sc sd : Int} (hg : 0 < g) (ha : 0 < a.2) (hb : 0 < b.2) (hc : 0 < c.2) (hd : 0 < d.2) (xa : Sc g a sa) (xb : Sc g b sb) (xc : Sc g c sc) (xd : Sc g d sd) : ovl a b c d = true ↔ Ovl sa sb sc sd := by
  unfold ovl
  cases e1 : lst a b <;> cases e2 : lst c d
  · have h1 := (lst_false hg ha hb xa xb).mp e1
    have h2 := (lst_false hg hc hd xc xd).mp e2
    simp only [Bool.false_eq_true, if_false, Bool.and_eq_true]
    rw [lst_iff hg hb hc xb xc, lst_iff hg hd ha xd xa]
    unfold Ovl; omega
  · have h1 := (lst_false hg ha hb xa xb).mp e1
    have h2 := (lst_iff hg hc hd xc xd).mp e2
    simp only [Bool.false_eq_true, if_false, if_true, Bool.and_eq_true]
    rw [lst_iff hg hb hd xb xd, lst_iff hg hc ha xc xa]
    unfold Ovl; omega
  · have h1 := (lst_iff hg ha hb xa xb).mp e1
    have h2 := (lst_false hg hc hd xc xd).mp e2
    simp only [Bool.false_eq_true, if_false, if_true, Bool.and_eq_true]
    rw [lst_iff hg ha hc xa xc, lst_iff hg hd hb xd xb]
    unfold Ovl; omega
  · have h1 := (lst_iff hg ha hb xa xb).mp e1
    have h2 := (lst_iff hg hc hd xc xd).mp e2
    simp only [if_true, Bool.and_eq_true]
    rw [lst_iff hg ha hd xa xd, lst_iff hg hc hb xc xb]
    unfold Ovl; omega
theorem psd_eq {a b c : Pl} {sa sb sc : Int × Int} (hg : 0 < g) (ha : GoodP a) (hb : GoodP b) (hc : GoodP c) (xa : ScP g a sa) (xb : ScP g b sb) (xc : ScP g c sc) : psd a b c = sgn (ar sa sb sc) := by
  obtain ⟨⟨a1, _, _⟩, ⟨a2, _, _⟩⟩ := ha
  obtain ⟨⟨b1, _, _⟩, ⟨b2, _, _⟩⟩ := hb
  obtain ⟨⟨c1, _, _⟩, ⟨c2, _, _⟩⟩ := hc
  obtain ⟨p1, p2⟩ := xa
  obtain ⟨q1, q2⟩ := xb
  obtain ⟨r1, r2⟩ := xc
  unfold psd
  refine sgn_scale (u := g * g) (v := (b.1.2 * a.1.2) * (c.2.2 * a.2.2) * ((b.2.2 * a.2.2) * (c.1.2 * a.1.2))) (Int.mul_pos hg hg) ?_ ?_
  · exact Int.mul_pos (Int.mul_pos (Int.mul_pos b1 a1) (Int.mul_pos c2 a2)) (Int.mul_pos (Int.mul_pos b2 a2) (Int.mul_pos c1 a1))
  · have x1 : (lessF b.1 a.1).1 * g = (sb.1 - sa.1) * (b.1.2 * a.1.2) := by unfold lessF Sc at *; grind
    have x2 : (lessF c.2 a.2).1 * g = (sc.2 - sa.2) * (c.2.2 * a.2.2) := by unfold lessF Sc at *; grind
    have x3 : (lessF b.2 a.2).1 * g = (sb.2 - sa.2) * (b.2.2 * a.2.2) := by unfold lessF Sc at *; grind
    have x4 : (lessF c.1 a.1).1 * g = (sc.1 - sa.1) * (c.1.2 * a.1.2) := by unfold lessF Sc at *; grind
    have y1 : (lessF b.2 a.2).2 = b.2.2 * a.2.2 := rfl
    have y2 : (lessF c.1 a.1).2 = c.1.2 * a.1.2 := rfl
    have y3 : (lessF b.1 a.1).2 = b.1.2 * a.1.2 := rfl
    have y4 : (lessF c.2 a.2).2 = c.2.2 * a.2.2 := rfl
    rw [y1, y2, y3, y4]
    generalize (lessF b.1 a.1).1 = l1 at *
    generalize (lessF c.2 a.2).1 = l2 at *
    generalize (lessF b.2 a.2).1 = l3 at *
    generalize (lessF c.1 a.1).1 = l4 at *
    have e : (l1 * l2 * (b.2.2 * a.2.2) * (c.1.2 * a.1.2) - l3 * l4 * (b.1.2 * a.1.2) * (c.2.2 * a.2.2)) * (g * g) = (l1 * g) * (l2 * g) * ((b.2.2 * a.2.2) * (c.1.2 * a.1.2)) - (l3 * g) * (l4 * g) * ((b.1.2 * a.1.2) * (c.2.2 * a.2.2)) := by grind
    rw [e, x1, x2, x3, x4]
    unfold ar
    generalize b.1.2 * a.1.2 = m1
    generalize c.2.2 * a.2.2 = m2
    generalize b.2.2 * a.2.2 = m3
    generalize c.1.2 * a.1.2 = m4
    grind
end
instance {x y z : Int} : Decidable (Btw x y z) := by unfold Btw; infer_instance
instance {x y z w : Int} : Decidable (Ovl x y z w) := by unfold Ovl; infer_instance
instance {a b c : Int × Int} : Decidable (Lies a b c) := by unfold Lies; infer_instance
instance {a b c d : Int × Int} : Decidable (MeetP a b c d) := by unfold MeetP; infer_instance
instance {a b c d : Int × Int} : Decidable (TouchP a b c d) := by unfold TouchP; infer_instance
/-- the program's touch is the pieces' meeting, of the places stretched to whole points -/
theorem tch_meet {g : Int} {a b c d : Pl} {sa sb sc sd : Int × Int} (hg : 0 < g) (ha : GoodP a) (hb : GoodP b) (hc : GoodP c) (hd : GoodP d) (xa : ScP g a sa) (xb : ScP g b sb) (xc : ScP g c sc) (xd : ScP g d sd) : tch a b c d = decide (MeetP sa sb sc sd) := by
  have e1 := ovl_iff hg ha.x.pos hb.x.pos hc.x.pos hd.x.pos xa.1 xb.1 xc.1 xd.1
  have e2 := ovl_iff hg ha.y.pos hb.y.pos hc.y.pos hd.y.pos xa.2 xb.2 xc.2 xd.2
  rw [Bool.eq_iff_iff, decide_eq_true_iff, ← touch_iff]
  unfold tch TouchP
  rw [psd_eq hg ha hb hc xa xb xc, psd_eq hg ha hb hd xa xb xd, psd_eq hg hc hd ha xc xd xa, psd_eq hg hc hd hb xc xd xb]
  simp only [Bool.and_eq_true, Bool.not_eq_true', decide_eq_false_iff_not, decide_eq_true_iff, e1, e2]
  have n1 := sgn_mul_pos (ar sa sb sc) (ar sa sb sd)
  have n2 := sgn_mul_pos (ar sc sd sa) (ar sc sd sb)
  constructor
  · rintro ⟨h1, h2, h3, h4⟩
    exact ⟨h1, h2, by omega, by omega⟩
  · rintro ⟨h1, h2, h3, h4⟩
    exact ⟨h1, h2, by omega, by omega⟩
theorem meet_sw (a b c d : Int × Int) : MeetP c d a b ↔ MeetP a b c d := by rw [← touch_iff, ← touch_iff]; exact ⟨touch_sw, touch_sw⟩
theorem meet_sw2 (a b c d : Int × Int) : MeetP a b d c ↔ MeetP a b c d := by rw [← touch_iff, ← touch_iff]; exact ⟨touch_sw2, touch_sw2⟩
theorem meet_sw1 (a b c d : Int × Int) : MeetP b a c d ↔ MeetP a b c d := by rw [← meet_sw, meet_sw2, meet_sw]
theorem lies_end (a b : Int × Int) : Lies a b a := ⟨by unfold Btw; omega, by unfold Btw; omega, by unfold ar; grind⟩
theorem lies_end2 (a b : Int × Int) : Lies a b b := ⟨by unfold Btw; omega, by unfold Btw; omega, by unfold ar; grind⟩
end Fr2
namespace W
open PySem L2 Z
local macro_rules | `(tactic| walk_at "mu") => `(tactic| first
  | assumption
  | exact set_same
  | (refine Eq.trans (set_ne ?_) ?_; (first | assumption | (apply Ne.symm; assumption) | (intro h; subst h; simp_all)); walk_at "mu"))
local macro_rules | `(tactic| walk_at "seq") => `(tactic| first
  | rfl
  | (refine seq_ref ?_; walk_at "mu"))
local macro_rules | `(tactic| walk_at "sz") => `(tactic| first
  | assumption
  | (refine sz_2 ?_; decide)
  | (refine sz_8 ?_; decide)
  | (refine sz_32 ?_; decide)
  | (refine sz_128 ?_; decide +kernel)
  | ((with_reducible refine sz_add (a := ?a) (b := ?b) ?h ?k); (case h => walk_at "sz"); (case k => walk_at "sz"))
  | ((with_reducible refine sz_sub (a := ?a) (b := ?b) ?h ?k); (case h => walk_at "sz"); (case k => walk_at "sz"))
  | ((with_reducible refine sz_mul (a := ?a) (b := ?b) ?h ?k); (case h => walk_at "sz"); (case k => walk_at "sz"))
  | ((with_reducible refine sz_neg ?_) <;> walk_at "sz")
  | with_reducible exact sz_b
  | ((with_reducible refine sz_mod ?h1 ?h2); (case h1 => omega); (case h2 => walk_at "sz")))
local macro_rules | `(tactic| walk_at "szN") => `(tactic| first
  | assumption
  | (refine sz_mono (a := ?a) ?h ?l; (case h => walk_at "sz"); (case l => first | decide | omega)))
local macro_rules | `(tactic| walk_at "cond") => `(tactic| first
  | assumption
  | (refine mulw_of (a := ?a) (b := ?b) ?h ?k ?l; (case h => walk_at "sz"); (case k => walk_at "sz"); (case l => first | decide | omega))
  | (refine divw_of (b := ?b) ?h ?k ?l; (case h => omega); (case k => walk_at "sz"); (case l => first | decide | omega))
  | (show (0 : Int) < _; first | assumption | omega | decide)
  | (refine ⟨?_, ?_, ?_⟩ <;> first | assumption | decide | omega))
local macro_rules | `(tactic| walk_at "nf") => `(tactic| ((try simp only [List.set_cons_zero, List.set_cons_succ, Int.reduceToNat, Int.reducePow]); (try dsimp only)))
local macro_rules | `(tactic| walk_at "z1") => `(tactic| first
  | (with_reducible refine s_seq ?_)
  | ((with_reducible refine s_asgX ?_); (first | refine x_meth ?_ | refine x_call ?_))
  | (with_reducible refine s_asg ?_)
  | ((with_reducible refine s_ret ?_); (try dsimp only))
  | ((with_reducible refine s_next ?_); (try dsimp only))
  | ((with_reducible refine s_dropX ?_); (first | refine x_meth ?_ | refine x_call ?_))
  | (with_reducible refine s_drop ?_)
  | ((with_reducible refine s_retN ?_); (try dsimp only))
  | (with_reducible refine s_par ?_)
  | (with_reducible refine s_par3 ?_)
  | ((with_reducible refine g_name ?_); walk_at "nf")
  | ((with_reducible refine g_tup ?zn ?_); (case zn => rfl))
  | (with_reducible refine gs_cons ?_)
  | ((with_reducible refine gs_nil ?_); (try dsimp only))
  | ((with_reducible refine s_aug (d := ?zd) ?zh ?_); (case zh => rfl))
  | ((with_reducible refine a_var (d := ?zd) ?zh ?_); (case zh => rfl))
  | (with_reducible refine a_int ?_)
  | (with_reducible refine a_bl ?_)
  | (with_reducible refine a_str ?_)
  | (with_reducible refine a_non ?_)
  | (with_reducible refine a_ty ?_)
  | (with_reducible refine a_cref ?_)
  | (with_reducible refine a_revT ?_)
  | (with_reducible refine ro_neS ?_)
  | (with_reducible refine a_op ?_)
  | (with_reducible refine a_un ?_)
  | (with_reducible refine aa_cons ?_)
  | (with_reducible refine aa_nil ?_)
  | ((with_reducible refine a_tup ?_))
  | ((with_reducible refine a_lst ?_))
  | ((with_reducible refine a_lenSc (dec := ?zd) ?zt ?_); (case zt => first | exact tg_4 | exact tg_2 | exact tg_3 | exact tg_name))
  | (with_reducible refine a_cb ?_)
  | (with_reducible refine a_call ?_)
  | (with_reducible refine a_callX ?_)
  | (with_reducible refine a_methX ?_)
  | (with_reducible refine a_methI ?_)
  | (with_reducible refine rc_max3 ?_)
  | (with_reducible refine a_if ?_)
  | (with_reducible refine a_andV ?_)
  | (with_reducible refine a_orV ?_)
  | (with_reducible refine a_notV ?_)
  | (with_reducible refine at_test ?_)
  | (with_reducible refine at_B ?_)
  | (with_reducible refine at_and ?_)
  | (with_reducible refine at_or ?_)
  | (with_reducible refine at_not ?_)
  | (with_reducible refine at_yes ?_)
  | (with_reducible refine a_chain ?_)
  | (with_reducible refine a_chain3 ?_)
  | (with_reducible refine s_if ?_)
  | (with_reducible refine g_sub ?_)
  | (with_reducible refine ro_i ?_)
  | (with_reducible refine ru_i ?_)
  | (with_reducible refine ro_b ?_)
  | ((with_reducible refine ro_c (C := CPow) ?zc ?_); (case zc => walk_at "cond"); walk_at "nf")
  | ((with_reducible refine ro_c ?zc ?_); (case zc => walk_at "cond"))
  | ((with_reducible refine ro_ix (ds := ?zd) (e := ?ze) ?zs ?zi ?_); (case zs => walk_at "seq"); (case zi => rfl))
  | ((with_reducible refine set_lst (ds := ?zd) (j := ?zj) ?zs ?zi ?_); (case zs => walk_at "mu"); (case zi => rfl); walk_at "nf")
  | (with_reducible refine a_sl ?_)
  | (with_reducible refine ao_no ?_)
  | (with_reducible refine ao_pt ?_)
  | ((with_reducible refine rs_ref (ds := ?zd) ?zs ?_); (case zs => walk_at "mu"))
  | (with_reducible refine rs_rol ?_)
  | (with_reducible refine rs_tupA ?_)
  | ((with_reducible refine ro_catA ?zl ?_); (case zl => exact Nat.le_of_ble_eq_true rfl))
  | ((with_reducible refine ro_cat (ds := ?zd) (es := ?ze) ?zs ?zt ?zl ?_); (case zs => walk_at "mu"); (case zt => walk_at "mu"); (case zl => exact Nat.le_of_ble_eq_true rfl))
  | (with_reducible refine iteT ?_)
  | (with_reducible refine iteF ?_)
  | (with_reducible refine iteNT ?_)
  | (with_reducible refine iteNF ?_)
  | ((with_reducible refine ro_eqD ?h1 ?h2 ?_); (case h1 => rfl); (case h2 => rfl))
  | ((with_reducible refine ro_neD ?h1 ?h2 ?_); (case h1 => rfl); (case h2 => rfl))
  | ((with_reducible refine ro_inS (ds := ?zd) ?zs ?h1 ?h2 ?_); (case zs => walk_at "seq"); (case h1 => rfl); (case h2 => rfl); (try simp only [if_true, if_false, Bool.false_eq_true]))
  | (with_reducible refine ro_isB ?_)
  | (with_reducible refine ro_isN ?_)
  | (with_reducible refine ro_notN ?_)
  | (with_reducible refine ro_notB ?_)
  | (with_reducible refine ro_eqI ?_)
  | (with_reducible refine ro_neI ?_)
  | (with_reducible refine ro_eqB ?_)
  | (with_reducible refine ro_neB ?_)
  | (with_reducible refine rc_intB ?_)
  | (with_reducible refine rc_intI ?_)
  | (with_reducible refine rc_abs ?_)
  | (with_reducible refine rc_min ?_)
  | (with_reducible refine rc_max ?_)
  | ((with_reducible refine rc_len (ds := ?zd) ?zs ?_); (case zs => walk_at "seq"))
  | ((with_reducible refine rc_isi (n := ?zn) (b := ?zb) ?zs ?zk ?_); (case zs => rfl); (case zk => first | rfl | decide +kernel))
  | (with_reducible refine ⟨_, rfl, ?_⟩)
  | ((with_reducible refine ⟨_, _, rfl, ?_⟩); walk_at "nf")
  | ((with_reducible refine ⟨_, _, _, rfl, ?_⟩); walk_at "nf")
  | (refine ⟨Nat.le_of_ble_eq_true rfl, ?_⟩))
local macro_rules | `(tactic| walk_at "go") => `(tactic| repeat (walk_at "z1"))
def top (i : Nat) : Stmt := PySem.Challenge.pw_rubberroutes_k03_pieces_touch.main.body.getD i (.Pass ⟨0, 0, 0, 0⟩)
abbrev s_sign_of : Stmt := top 1
abbrev N_sign_of : List Str := ["number"]
theorem sc_sign_of : FnScope N_sign_of ["number"] (defScope s_sign_of) := ⟨rfl, rfl, rfl, by decide +kernel, rfl, by decide +kernel, by decide +kernel⟩
abbrev s_less : Stmt := top 2
abbrev N_less : List Str := ["one", "other"]
theorem sc_less : FnScope N_less ["one", "other"] (defScope s_less) := ⟨rfl, rfl, rfl, by decide +kernel, rfl, by decide +kernel, by decide +kernel⟩
abbrev s_place_side : Stmt := top 3
abbrev N_place_side : List Str := ["a", "b", "c", "along", "up", "across", "over", "left"]
theorem sc_place_side : FnScope N_place_side ["a", "b", "c"] (defScope s_place_side) := ⟨rfl, rfl, rfl, by decide +kernel, rfl, by decide +kernel, by decide +kernel⟩
abbrev s_is_least : Stmt := top 4
abbrev N_is_least : List Str := ["one", "other"]
theorem sc_is_least : FnScope N_is_least ["one", "other"] (defScope s_is_least) := ⟨rfl, rfl, rfl, by decide +kernel, rfl, by decide +kernel, by decide +kernel⟩
abbrev s_overlap : Stmt := top 5
abbrev N_overlap : List Str := ["a", "b", "c", "d", "low", "high", "least", "most"]
theorem sc_overlap : FnScope N_overlap ["a", "b", "c", "d"] (defScope s_overlap) := ⟨rfl, rfl, rfl, by decide +kernel, rfl, by decide +kernel, by decide +kernel⟩
abbrev s_touch : Stmt := top 6
abbrev N_touch : List Str := ["a", "b", "c", "d"]
theorem sc_touch : FnScope N_touch ["a", "b", "c", "d"] (defScope s_touch) := ⟨rfl, rfl, rfl, by decide +kernel, rfl, by decide +kernel, by decide +kernel⟩
abbrev s_l_cell_at : Stmt := top 8
abbrev N_l_cell_at : List Str := ["_law_script", "_law_k"]
theorem sc_l_cell_at : FnScope N_l_cell_at ["_law_script", "_law_k"] (defScope s_l_cell_at) := ⟨rfl, rfl, rfl, by decide +kernel, rfl, by decide +kernel, by decide +kernel⟩
abbrev s_l_bag : Stmt := top 9
abbrev N_l_bag : List Str := ["_law_script", "_law_at", "_law_primes", "_law_cell", "_law_mix", "_law_k", "_law_one"]
theorem sc_l_bag : FnScope N_l_bag ["_law_script", "_law_at"] (defScope s_l_bag) := ⟨rfl, rfl, rfl, by decide +kernel, rfl, by decide +kernel, by decide +kernel⟩
abbrev s_l_take : Stmt := top 10
abbrev N_l_take : List Str := ["_law_bag_here", "_law_many", "_law_digit"]
theorem sc_l_take : FnScope N_l_take ["_law_bag_here", "_law_many"] (defScope s_l_take) := ⟨rfl, rfl, rfl, by decide +kernel, rfl, by decide +kernel, by decide +kernel⟩
abbrev s_l_side : Stmt := top 11
abbrev N_l_side : List Str := ["_law_a", "_law_b", "_law_c", "_law_x", "_law_y", "_law_turn"]
theorem sc_l_side : FnScope N_l_side ["_law_a", "_law_b", "_law_c"] (defScope s_l_side) := ⟨rfl, rfl, rfl, by decide +kernel, rfl, by decide +kernel, by decide +kernel⟩
abbrev s_l_lies : Stmt := top 12
abbrev N_l_lies : List Str := ["_law_a", "_law_b", "_law_c", "_law_within"]
theorem sc_l_lies : FnScope N_l_lies ["_law_a", "_law_b", "_law_c"] (defScope s_l_lies) := ⟨rfl, rfl, rfl, by decide +kernel, rfl, by decide +kernel, by decide +kernel⟩
abbrev s_l_meet : Stmt := top 13
abbrev N_l_meet : List Str := ["_law_a", "_law_b", "_law_c", "_law_d"]
theorem sc_l_meet : FnScope N_l_meet ["_law_a", "_law_b", "_law_c", "_law_d"] (defScope s_l_meet) := ⟨rfl, rfl, rfl, by decide +kernel, rfl, by decide +kernel, by decide +kernel⟩
abbrev s_l_low : Stmt := top 14
abbrev N_l_low : List Str := ["_law_one", "_law_other", "_law_least", "_law_by"]
theorem sc_l_low : FnScope N_l_low ["_law_one", "_law_other"] (defScope s_l_low) := ⟨rfl, rfl, rfl, by decide +kernel, rfl, by decide +kernel, by decide +kernel⟩
abbrev s_l_coordinate : Stmt := top 15
abbrev N_l_coordinate : List Str := ["_law_bag_here", "_law_most", "_law_under"]
theorem sc_l_coordinate : FnScope N_l_coordinate ["_law_bag_here", "_law_most"] (defScope s_l_coordinate) := ⟨rfl, rfl, rfl, by decide +kernel, rfl, by decide +kernel, by decide +kernel⟩
abbrev s_l_place : Stmt := top 16
abbrev N_l_place : List Str := ["_law_bag_here", "_law_most"]
theorem sc_l_place : FnScope N_l_place ["_law_bag_here", "_law_most"] (defScope s_l_place) := ⟨rfl, rfl, rfl, by decide +kernel, rfl, by decide +kernel, by decide +kernel⟩
abbrev s_l_mid : Stmt := top 17
abbrev N_l_mid : List Str := ["_law_one", "_law_other", "_law_top", "_law_under", "_law_found", "_law_here", "_law_there", "_law_first"]
theorem sc_l_mid : FnScope N_l_mid ["_law_one", "_law_other", "_law_top", "_law_under"] (defScope s_l_mid) := ⟨rfl, rfl, rfl, by decide +kernel, rfl, by decide +kernel, by decide +kernel⟩
abbrev s_l_four : Stmt := top 18
abbrev N_l_four : List Str := ["_law_bag_here", "_law_most", "_law_a", "_law_b", "_law_c", "_law_d", "_law_way", "_law_under", "_law_turn"]
theorem sc_l_four : FnScope N_l_four ["_law_bag_here"] (defScope s_l_four) := ⟨rfl, rfl, rfl, by decide +kernel, rfl, by decide +kernel, by decide +kernel⟩
abbrev s_l_whole_spots : Stmt := top 19
abbrev N_l_whole_spots : List Str := ["_law_places", "_law_by", "_law_place_here", "_law_x", "_law_y"]
theorem sc_l_whole_spots : FnScope N_l_whole_spots ["_law_places"] (defScope s_l_whole_spots) := ⟨rfl, rfl, rfl, by decide +kernel, rfl, by decide +kernel, by decide +kernel⟩
abbrev s_law : Stmt := top 20
abbrev N_law : List Str := ["_law_script", "_law_k", "_law_bag_here", "_law_a", "_law_b", "_law_c", "_law_d", "_law_spots", "_law_due", "_law_told"]
theorem sc_law : FnScope N_law ["_law_script"] (defScope s_law) := ⟨rfl, rfl, rfl, by decide +kernel, rfl, by decide +kernel, by decide +kernel⟩
structure Bs (mg : Str → Option Value) : Prop where
  b_abs : mg "abs" = none
  b_bool : mg "bool" = none
  b_int : mg "int" = none
  b_isinstance : mg "isinstance" = none
  b_len : mg "len" = none
  b_max : mg "max" = none
  b_min : mg "min" = none
  b_range : mg "range" = none
  b_zip : mg "zip" = none
section
variable {P : Program} {w : World} {K : PySem.W.Frag} {mg : Str → Option Value} {base : Heap}
open Tch Fr2
theorem sz_psd (a b c : Pl) : Sz 1 (psd a b c) := sz_sgn _
local macro_rules | `(tactic| walk_at "sz") => `(tactic| with_reducible exact sz_sgn _)
local macro_rules | `(tactic| walk_at "sz") => `(tactic| with_reducible exact sz_psd _ _ _)
def P_sign_of : PT3 := fun ds μ Φ => ∃ n, ds = [.int n] ∧ Φ (.int (sgn n)) μ
theorem len_sign_of (ds : List D) (μ : M) (Φ : D → M → Prop) (h : P_sign_of ds μ Φ) : ds.length = 1 := by
  obtain ⟨_, rfl, _⟩ := h
  rfl
def P_less : PT3 := fun ds μ Φ => ∃ p1 p2 q1 q2, ds = [pt p1 p2, pt q1 q2] ∧ Sz 2000 p1 ∧ Sz 2000 p2 ∧ Sz 2000 q1 ∧ Sz 2000 q2 ∧ Φ (pt (p1 * q2 - q1 * p2) (p2 * q2)) μ
theorem len_less (ds : List D) (μ : M) (Φ : D → M → Prop) (h : P_less ds μ Φ) : ds.length = 2 := by
  obtain ⟨_, _, _, _, rfl, _⟩ := h
  rfl
theorem use_less {μ : M} {Φ : D → M → Prop} {p1 p2 q1 q2 : Int} (s1 : Sz 2000 p1) (s2 : Sz 2000 p2) (s3 : Sz 2000 q1) (s4 : Sz 2000 q2) (q : Φ (pt (p1 * q2 - q1 * p2) (p2 * q2)) μ) : P_less [pt p1 p2, pt q1 q2] μ Φ := ⟨p1, p2, q1, q2, rfl, s1, s2, s3, s4, q⟩
def P_place_side : PT3 := fun ds μ Φ => ∃ a b c : Pl, ds = [encP a, encP b, encP c] ∧ GoodP a ∧ GoodP b ∧ GoodP c ∧ Φ (.int (psd a b c)) μ
theorem len_place_side (ds : List D) (μ : M) (Φ : D → M → Prop) (h : P_place_side ds μ Φ) : ds.length = 3 := by
  obtain ⟨_, _, _, rfl, _⟩ := h
  rfl
theorem use_place_side {μ : M} {Φ : D → M → Prop} {a b c : Pl} (ha : GoodP a) (hb : GoodP b) (hc : GoodP c) (q : Φ (.int (psd a b c)) μ) : P_place_side [encP a, encP b, encP c] μ Φ := ⟨a, b, c, rfl, ha, hb, hc, q⟩
def P_is_least : PT3 := fun ds μ Φ => ∃ p q : Fq, ds = [encF p, encF q] ∧ Good p ∧ Good q ∧ Φ (.bl (lst p q)) μ
theorem len_is_least (ds : List D) (μ : M) (Φ : D → M → Prop) (h : P_is_least ds μ Φ) : ds.length = 2 := by
  obtain ⟨_, _, rfl, _⟩ := h
  rfl
theorem use_is_least {μ : M} {Φ : D → M → Prop} {p q : Fq} (hp : Good p) (hq : Good q) (k : Φ (.bl (lst p q)) μ) : P_is_least [encF p, encF q] μ Φ := ⟨p, q, rfl, hp, hq, k⟩
def P_overlap : PT3 := fun ds μ Φ => ∃ a b c d : Fq, ds = [encF a, encF b, encF c, encF d] ∧ Good a ∧ Good b ∧ Good c ∧ Good d ∧ Φ (.bl (ovl a b c d)) μ
theorem len_overlap (ds : List D) (μ : M) (Φ : D → M → Prop) (h : P_overlap ds μ Φ) : ds.length = 4 := by
  obtain ⟨_, _, _, _, rfl, _⟩ := h
  rfl
theorem use_overlap {μ : M} {Φ : D → M → Prop} {a b c d : Fq} (ha : Good a) (hb : Good b) (hc : Good c) (hd : Good d) (k : Φ (.bl (ovl a b c d)) μ) : P_overlap [encF a, encF b, encF c, encF d] μ Φ := ⟨a, b, c, d, rfl, ha, hb, hc, hd, k⟩
def P_touch : PT3 := fun ds μ Φ => ∃ a b c d : Pl, ds = [encP a, encP b, encP c, encP d] ∧ GoodP a ∧ GoodP b ∧ GoodP c ∧ GoodP d ∧ Φ (.bl (tch a b c d)) μ
theorem len_touch (ds : List D) (μ : M) (Φ : D → M → Prop) (h : P_touch ds μ Φ) : ds.length = 4 := by
  obtain ⟨_, _, _, _, rfl, _⟩ := h
  rfl
theorem use_touch {μ : M} {Φ : D → M → Prop} {a b c d : Pl} (ha : GoodP a) (hb : GoodP b) (hc : GoodP c) (hd : GoodP d) (k : Φ (.bl (tch a b c d)) μ) : P_touch [encP a, encP b, encP c, encP d] μ Φ := ⟨a, b, c, d, rfl, ha, hb, hc, hd, k⟩
theorem ok_sign_of {f : Addr} {fd : FuncData} (F : Fun K "sign_of" "sign_of" s_sign_of f fd) (B : Bs mg) : FnOk P w K mg base CX0 1 f fd ["number"] (spI K P_sign_of) := by
  refine F.ok sc_sign_of (fun vs H Q E h => spI_len h len_sign_of) (fun cdv A outer s H vs Q E hr h => ?_)
  have hu65 := hu65_of hr
  refine ⟨_, (pss_one (ps_ret (pe_op op_sub (pe_callTy call_int1 (by rfl) B.b_int (by decide +kernel) (pa_cons (pe_cmpR op_gt (pv 0) pe_int (by first | exact nomark _ | rfl)) pa_nil)) (pe_callTy call_int1 (by rfl) B.b_int (by decide +kernel) (pa_cons (pe_cmpR op_lt (pv 0) pe_int (by first | exact nomark _ | rfl)) pa_nil))))), body_ok h (fun ds μ Φ p => ?_)⟩
  (try dsimp only [cxOf, Cx.nox, Cx.wish, List.map_cons, List.map_nil])
  obtain ⟨n, rfl, q⟩ := p
  show AS K _ [some _] _ _
  walk_at "go"
  refine cast_int ?_ q
  unfold sgn
  by_cases h1 : 0 < n <;> by_cases h2 : n < 0 <;> simp [h1, h2] <;> omega
theorem ok_less {f : Addr} {fd : FuncData} (F : Fun K "less" "less" s_less f fd) (B : Bs mg) : FnOk P w K mg base CX0 1 f fd ["one", "other"] (spI K P_less) := by
  refine F.ok sc_less (fun vs H Q E h => spI_len h len_less) (fun cdv A outer s H vs Q E hr h => ?_)
  have hu65 := hu65_of hr
  refine ⟨_, (pss_one (ps_ret (pe_tup (pa_cons (pe_op op_sub (pe_op op_mulW (pe_ix (ix_seqK (K := K) rfl) (pv 0) pe_int (fun _ _ => rfl)) (pe_ix (ix_seqK (K := K) rfl) (pv 1) pe_int (fun _ _ => rfl))) (pe_op op_mulW (pe_ix (ix_seqK (K := K) rfl) (pv 1) pe_int (fun _ _ => rfl)) (pe_ix (ix_seqK (K := K) rfl) (pv 0) pe_int (fun _ _ => rfl)))) (pa_cons (pe_op op_mulW (pe_ix (ix_seqK (K := K) rfl) (pv 0) pe_int (fun _ _ => rfl)) (pe_ix (ix_seqK (K := K) rfl) (pv 1) pe_int (fun _ _ => rfl))) pa_nil))))), body_ok h (fun ds μ Φ p => ?_)⟩
  (try dsimp only [cxOf, Cx.nox, Cx.wish, List.map_cons, List.map_nil])
  obtain ⟨p1, p2, q1, q2, rfl, s1, s2, s3, s4, q⟩ := p
  show AS K _ [some _, some _] _ _
  walk_at "go"
  exact q
theorem ok_place_side {f : Addr} {fd : FuncData} (F : Fun K "place_side" "place_side" s_place_side f fd) (B : Bs mg) (G_less : Def P w K mg base "less" ["one", "other"] 1 (spI K P_less)) (G_sign_of : Def P w K mg base "sign_of" ["number"] 1 (spI K P_sign_of)) : FnOk P w K mg base CX0 2 f fd ["a", "b", "c"] (spI K P_place_side) := by
  refine F.ok sc_place_side (fun vs H Q E h => spI_len h len_place_side) (fun cdv A outer s H vs Q E hr h => ?_)
  have hu65 := hu65_of hr
  refine ⟨_, (pss_cons (ps_par (i := 3) (j := 4) rfl sc_place_side.nd rfl rfl (by decide) rfl rfl (pa_cons (pe_def G_less (hr.mono (by decide)) (by rfl) (pa_cons (pe_ix (ix_seqK (K := K) rfl) (pv 1) pe_int (fun _ _ => rfl)) (pa_cons (pe_ix (ix_seqK (K := K) rfl) (pv 0) pe_int (fun _ _ => rfl)) pa_nil))) (pa_cons (pe_def G_less (hr.mono (by decide)) (by rfl) (pa_cons (pe_ix (ix_seqK (K := K) rfl) (pv 1) pe_int (fun _ _ => rfl)) (pa_cons (pe_ix (ix_seqK (K := K) rfl) (pv 0) pe_int (fun _ _ => rfl)) pa_nil))) pa_nil)) (by rfl))
      (pss_cons (ps_par (i := 5) (j := 6) rfl sc_place_side.nd rfl rfl (by decide) rfl rfl (pa_cons (pe_def G_less (hr.mono (by decide)) (by rfl) (pa_cons (pe_ix (ix_seqK (K := K) rfl) (pv 2) pe_int (fun _ _ => rfl)) (pa_cons (pe_ix (ix_seqK (K := K) rfl) (pv 0) pe_int (fun _ _ => rfl)) pa_nil))) (pa_cons (pe_def G_less (hr.mono (by decide)) (by rfl) (pa_cons (pe_ix (ix_seqK (K := K) rfl) (pv 2) pe_int (fun _ _ => rfl)) (pa_cons (pe_ix (ix_seqK (K := K) rfl) (pv 0) pe_int (fun _ _ => rfl)) pa_nil))) pa_nil)) (by rfl))
      (pss_cons (ps_set (i := 7) sc_place_side.nd rfl (by first | exact Or.inl rfl | exact Or.inr rfl) (pe_op op_mulW (pe_op op_mulW (pe_op op_mulW (pe_ix (ix_seqK (K := K) rfl) (pv 3) pe_int (fun _ _ => rfl)) (pe_ix (ix_seqK (K := K) rfl) (pv 6) pe_int (fun _ _ => rfl))) (pe_ix (ix_seqK (K := K) rfl) (pv 4) pe_int (fun _ _ => rfl))) (pe_ix (ix_seqK (K := K) rfl) (pv 5) pe_int (fun _ _ => rfl))))
      (pss_one (ps_ret (pe_def G_sign_of (hr.mono (by decide)) (by rfl) (pa_cons (pe_op op_sub (pv 7) (pe_op op_mulW (pe_op op_mulW (pe_op op_mulW (pe_ix (ix_seqK (K := K) rfl) (pv 4) pe_int (fun _ _ => rfl)) (pe_ix (ix_seqK (K := K) rfl) (pv 5) pe_int (fun _ _ => rfl))) (pe_ix (ix_seqK (K := K) rfl) (pv 3) pe_int (fun _ _ => rfl))) (pe_ix (ix_seqK (K := K) rfl) (pv 6) pe_int (fun _ _ => rfl)))) pa_nil))))))), body_ok h (fun ds μ Φ p => ?_)⟩
  (try dsimp only [cxOf, Cx.nox, Cx.wish, List.map_cons, List.map_nil])
  obtain ⟨a, b, c, rfl, ⟨⟨_, a1, a2⟩, ⟨_, a3, a4⟩⟩, ⟨⟨_, b1, b2⟩, ⟨_, b3, b4⟩⟩, ⟨⟨_, c1, c2⟩, ⟨_, c3, c4⟩⟩, q⟩ := p
  show AS K _ [some _, some _, some _, none, none, none, none, none] _ _
  walk_at "go"
  refine use_less b1 b2 a1 a2 ?_
  walk_at "go"
  refine use_less b3 b4 a3 a4 ?_
  walk_at "go"
  refine use_less c1 c2 a1 a2 ?_
  walk_at "go"
  refine use_less c3 c4 a3 a4 ?_
  walk_at "go"
  exact ⟨_, rfl, q⟩
theorem ok_is_least {f : Addr} {fd : FuncData} (F : Fun K "is_least" "is_least" s_is_least f fd) (B : Bs mg) : FnOk P w K mg base CX0 1 f fd ["one", "other"] (spI K P_is_least) := by
  refine F.ok sc_is_least (fun vs H Q E h => spI_len h len_is_least) (fun cdv A outer s H vs Q E hr h => ?_)
  have hu65 := hu65_of hr
  refine ⟨_, (pss_one (ps_ret (pe_cmpR op_le (pe_op op_mulW (pe_ix (ix_seqK (K := K) rfl) (pv 0) pe_int (fun _ _ => rfl)) (pe_ix (ix_seqK (K := K) rfl) (pv 1) pe_int (fun _ _ => rfl))) (pe_op op_mulW (pe_ix (ix_seqK (K := K) rfl) (pv 1) pe_int (fun _ _ => rfl)) (pe_ix (ix_seqK (K := K) rfl) (pv 0) pe_int (fun _ _ => rfl))) (by first | exact nomark _ | rfl)))), body_ok h (fun ds μ Φ p => ?_)⟩
  (try dsimp only [cxOf, Cx.nox, Cx.wish, List.map_cons, List.map_nil])
  obtain ⟨a, b, rfl, ⟨_, a1, a2⟩, ⟨_, b1, b2⟩, q⟩ := p
  show AS K _ [some _, some _] _ _
  walk_at "go"
  exact q
theorem ok_overlap {f : Addr} {fd : FuncData} (F : Fun K "overlap" "overlap" s_overlap f fd) (B : Bs mg) (G_is_least : Def P w K mg base "is_least" ["one", "other"] 1 (spI K P_is_least)) : FnOk P w K mg base CX0 2 f fd ["a", "b", "c", "d"] (spI K P_overlap) := by
  refine F.ok sc_overlap (fun vs H Q E h => spI_len h len_overlap) (fun cdv A outer s H vs Q E hr h => ?_)
  have hu65 := hu65_of hr
  refine ⟨_, (pss_cons (ps_asg (pe_ifExp (pt_val (pe_def G_is_least (hr.mono (by decide)) (by rfl) (pa_cons (pv 0) (pa_cons (pv 1) pa_nil)))) (pe_tup (pa_cons (pv 0) (pa_cons (pv 1) pa_nil))) (pe_tup (pa_cons (pv 1) (pa_cons (pv 0) pa_nil)))) (pg_tup (by rfl) (pgs_cons (pg_name (i := 4) sc_overlap.nd rfl (by first | exact Or.inl rfl | exact Or.inr rfl)) (pgs_cons (pg_name (i := 5) sc_overlap.nd rfl (by first | exact Or.inl rfl | exact Or.inr rfl)) pgs_nil))))
      (pss_cons (ps_asg (pe_ifExp (pt_val (pe_def G_is_least (hr.mono (by decide)) (by rfl) (pa_cons (pv 2) (pa_cons (pv 3) pa_nil)))) (pe_tup (pa_cons (pv 2) (pa_cons (pv 3) pa_nil))) (pe_tup (pa_cons (pv 3) (pa_cons (pv 2) pa_nil)))) (pg_tup (by rfl) (pgs_cons (pg_name (i := 6) sc_overlap.nd rfl (by first | exact Or.inl rfl | exact Or.inr rfl)) (pgs_cons (pg_name (i := 7) sc_overlap.nd rfl (by first | exact Or.inl rfl | exact Or.inr rfl)) pgs_nil))))
      (pss_one (ps_ret (pe_and (pe_def G_is_least (hr.mono (by decide)) (by rfl) (pa_cons (pv 4) (pa_cons (pv 7) pa_nil))) (pe_one (pe_def G_is_least (hr.mono (by decide)) (by rfl) (pa_cons (pv 6) (pa_cons (pv 5) pa_nil))))))))), body_ok h (fun ds μ Φ p => ?_)⟩
  (try dsimp only [cxOf, Cx.nox, Cx.wish, List.map_cons, List.map_nil])
  obtain ⟨a, b, c, d, rfl, ha, hb, hc, hd, q⟩ := p
  show AS K _ [some _, some _, some _, some _, none, none, none, none] _ _
  walk_at "go"
  refine use_is_least ha hb ?_
  walk_at "go"
  refine ite_b (fun e1 => ?_) (fun e1 => ?_)
  · walk_at "go"
    refine use_is_least hc hd ?_
    walk_at "go"
    refine ite_b (fun e2 => ?_) (fun e2 => ?_)
    · walk_at "go"
      refine use_is_least ha hd ?_
      walk_at "go"
      refine ite_b (fun e3 => ?_) (fun e3 => ?_)
      · walk_at "go"
        refine use_is_least hc hb ?_
        exact cast_bl (by unfold ovl; simp only [e1, e2, e3, if_true, Bool.true_and]) q
      · exact cast_bl (by unfold ovl; simp only [e1, e2, e3, if_true, Bool.false_and]) q
    · walk_at "go"
      refine use_is_least ha hc ?_
      walk_at "go"
      refine ite_b (fun e3 => ?_) (fun e3 => ?_)
      · walk_at "go"
        refine use_is_least hd hb ?_
        exact cast_bl (by unfold ovl; simp only [e1, e2, e3, if_true, Bool.true_and, Bool.false_eq_true, if_false]) q
      · exact cast_bl (by unfold ovl; simp only [e1, e2, e3, if_true, Bool.false_and, Bool.false_eq_true, if_false]) q
  · walk_at "go"
    refine use_is_least hc hd ?_
    walk_at "go"
    refine ite_b (fun e2 => ?_) (fun e2 => ?_)
    · walk_at "go"
      refine use_is_least hb hd ?_
      walk_at "go"
      refine ite_b (fun e3 => ?_) (fun e3 => ?_)
      · walk_at "go"
        refine use_is_least hc ha ?_
        exact cast_bl (by unfold ovl; simp only [e1, e2, e3, if_true, Bool.true_and, Bool.false_eq_true, if_false]) q
      · exact cast_bl (by unfold ovl; simp only [e1, e2, e3, if_true, Bool.false_and, Bool.false_eq_true, if_false]) q
    · walk_at "go"
      refine use_is_least hb hc ?_
      walk_at "go"
      refine ite_b (fun e3 => ?_) (fun e3 => ?_)
      · walk_at "go"
        refine use_is_least hd ha ?_
        exact cast_bl (by unfold ovl; simp only [e1, e2, e3, if_true, Bool.true_and, Bool.false_eq_true, if_false]) q
      · exact cast_bl (by unfold ovl; simp only [e1, e2, e3, if_true, Bool.false_and, Bool.false_eq_true, if_false]) q
theorem ok_touch {f : Addr} {fd : FuncData} (F : Fun K "touch" "touch" s_touch f fd) (B : Bs mg) (G_overlap : Def P w K mg base "overlap" ["a", "b", "c", "d"] 2 (spI K P_overlap)) (G_place_side : Def P w K mg base "place_side" ["a", "b", "c"] 2 (spI K P_place_side)) : FnOk P w K mg base CX0 3 f fd ["a", "b", "c", "d"] (spI K P_touch) := by
  refine F.ok sc_touch (fun vs H Q E h => spI_len h len_touch) (fun cdv A outer s H vs Q E hr h => ?_)
  have hu65 := hu65_of hr
  refine ⟨_, (pss_cons (ps_if (PW.pt (pw_or (pt_not (pt_val (pe_def G_overlap (hr.mono (by decide)) (by rfl) (pa_cons (pe_ix (ix_seqK (K := K) rfl) (pv 0) pe_int (fun _ _ => rfl)) (pa_cons (pe_ix (ix_seqK (K := K) rfl) (pv 1) pe_int (fun _ _ => rfl)) (pa_cons (pe_ix (ix_seqK (K := K) rfl) (pv 2) pe_int (fun _ _ => rfl)) (pa_cons (pe_ix (ix_seqK (K := K) rfl) (pv 3) pe_int (fun _ _ => rfl)) pa_nil))))))) (pw_or1 (pt_not (pt_val (pe_def G_overlap (hr.mono (by decide)) (by rfl) (pa_cons (pe_ix (ix_seqK (K := K) rfl) (pv 0) pe_int (fun _ _ => rfl)) (pa_cons (pe_ix (ix_seqK (K := K) rfl) (pv 1) pe_int (fun _ _ => rfl)) (pa_cons (pe_ix (ix_seqK (K := K) rfl) (pv 2) pe_int (fun _ _ => rfl)) (pa_cons (pe_ix (ix_seqK (K := K) rfl) (pv 3) pe_int (fun _ _ => rfl)) pa_nil)))))))))) (pss_one (ps_ret pe_bl)) pss_nil)
      (pss_cons (ps_if (pt_cmpR op_gt (pe_op op_mulW (pe_def G_place_side (hr.mono (by decide)) (by rfl) (pa_cons (pv 0) (pa_cons (pv 1) (pa_cons (pv 2) pa_nil)))) (pe_def G_place_side (hr.mono (by decide)) (by rfl) (pa_cons (pv 0) (pa_cons (pv 1) (pa_cons (pv 3) pa_nil))))) pe_int (by first | exact nomark _ | rfl)) (pss_one (ps_ret pe_bl)) pss_nil)
      (pss_one (ps_ret (pe_cmpR op_le (pe_op op_mulW (pe_def G_place_side (hr.mono (by decide)) (by rfl) (pa_cons (pv 2) (pa_cons (pv 3) (pa_cons (pv 0) pa_nil)))) (pe_def G_place_side (hr.mono (by decide)) (by rfl) (pa_cons (pv 2) (pa_cons (pv 3) (pa_cons (pv 1) pa_nil))))) pe_int (by first | exact nomark _ | rfl)))))), body_ok h (fun ds μ Φ p => ?_)⟩
  (try dsimp only [cxOf, Cx.nox, Cx.wish, List.map_cons, List.map_nil])
  obtain ⟨a, b, c, d, rfl, ha, hb, hc, hd, q⟩ := p
  show AS K _ [some _, some _, some _, some _] _ _
  walk_at "go"
  refine use_overlap ha.x hb.x hc.x hd.x ?_
  walk_at "go"
  cases e1 : ovl a.1 b.1 c.1 d.1
  · walk_at "go"
    exact cast_bl (by unfold tch; simp only [e1, Bool.false_and]) q
  · walk_at "go"
    refine use_overlap ha.y hb.y hc.y hd.y ?_
    walk_at "go"
    cases e2 : ovl a.2 b.2 c.2 d.2
    · walk_at "go"
      exact cast_bl (by unfold tch; simp only [e1, e2, Bool.false_and, Bool.true_and]) q
    · walk_at "go"
      refine use_place_side ha hb hc ?_
      walk_at "go"
      refine use_place_side ha hb hd ?_
      walk_at "go"
      refine ite_d (fun e3 => ?_) (fun e3 => ?_)
      · walk_at "go"
        exact cast_bl (by unfold tch; simp only [e1, e2, decide_eq_true e3, Bool.not_true, Bool.false_and, Bool.true_and]) q
      · walk_at "go"
        refine use_place_side hc hd ha ?_
        walk_at "go"
        refine use_place_side hc hd hb ?_
        walk_at "go"
        exact cast_bl (by unfold tch; simp only [e1, e2, decide_eq_false e3, Bool.not_false, Bool.true_and]) q
theorem use_cell {μ : M} {Φ : D → M → Prop} {ns : List Int} {k : Int} (h : 0 ≤ k) (q : ∀ z, Φ (.int z) μ) : P_l_cell_at [.rol (ns.map D.int), .int k] μ Φ := ⟨ns, k, rfl, h, q⟩
theorem use_take {μ : M} {Φ : D → M → Prop} {b : Addr} {n c m : Int} (h : μ b = some (.lst [.int c, .int m])) (hm : BgOk m) (hn : 0 < n) (hz : Sz 4000 n) (q : ∀ d c' m', 0 ≤ d → d < n → Sz 4000 d → BgOk m' → Φ (.int d) (μ.set b (.lst [.int c', .int m']))) : P_l_take [.ref b, .int n] μ Φ := ⟨b, n, c, m, rfl, h, hm, hn, hz, q⟩
theorem prime_at {k : Int} (h0 : 0 ≤ k) (h1 : k < 9) : ∃ p : Int, atI [D.int 99991, D.int 99971, D.int 99961, D.int 99929, D.int 99923, D.int 99907, D.int 99901, D.int 99881, D.int 99877] k = some (.int p) ∧ 0 < p := by
  have h : k = 0 ∨ k = 1 ∨ k = 2 ∨ k = 3 ∨ k = 4 ∨ k = 5 ∨ k = 6 ∨ k = 7 ∨ k = 8 := by omega
  rcases h with h | h | h | h | h | h | h | h | h <;> subst h <;> exact ⟨_, rfl, by decide⟩
theorem ok_l_cell_at {f : Addr} {fd : FuncData} (F : Fun K "_law_cell_at" "_law_cell_at" s_l_cell_at f fd) (B : Bs mg) : FnOk P w K mg base CX0 1 f fd ["_law_script", "_law_k"] (spI K P_l_cell_at) := by
  refine F.ok sc_l_cell_at (fun vs H Q E h => spI_len h len_l_cell_at) (fun cdv A outer s H vs Q E hr h => ?_)
  have hu65 := hu65_of hr
  refine ⟨_, (pss_cons (ps_if (pt_cmpR op_lt (pv 1) (pe_callB (call_lenK (K := K) rfl) (by rfl) B.b_len (by decide +kernel) (pa_cons (pv 0) pa_nil)) (by first | exact nomark _ | rfl)) (pss_one (ps_ret (pe_ix (ix_seqK (K := K) rfl) (pv 0) (pv 1) (fun _ _ => rfl)))) pss_nil)
      (pss_one (ps_ret pe_int))), body_ok h (fun ds μ Φ p => ?_)⟩
  (try dsimp only [cxOf, Cx.nox, Cx.wish, List.map_cons, List.map_nil])
  obtain ⟨ns, k, rfl, h0, q⟩ := p
  show AS K _ [some _, some _] _ _
  walk_at "go"
  refine ite_d (fun h => ?_) (fun h => ?_)
  · obtain ⟨z, hz⟩ := map_get (ns := ns) h0 (by simpa using h)
    walk_at "go"
    refine ro_ix rfl hz ?_
    exact q z
  · walk_at "go"
    exact q 0
theorem ok_l_bag {f : Addr} {fd : FuncData} (F : Fun K "_law_bag" "_law_bag" s_l_bag f fd) (B : Bs mg) (G_l_cell_at : Def P w K mg base "_law_cell_at" ["_law_script", "_law_k"] 1 (spI K P_l_cell_at)) : FnOk P w K mg base CX0 2 f fd ["_law_script", "_law_at"] (spI K P_l_bag) := by
  refine F.ok sc_l_bag (fun vs H Q E h => spI_len h len_l_bag) (fun cdv A outer s H vs Q E hr h => ?_)
  have hu65 := hu65_of hr
  refine ⟨_, (pss_cons (ps_set (i := 2) sc_l_bag.nd rfl (by first | exact Or.inl rfl | exact Or.inr rfl) (pe_tup (pa_cons pe_int (pa_cons pe_int (pa_cons pe_int (pa_cons pe_int (pa_cons pe_int (pa_cons pe_int (pa_cons pe_int (pa_cons pe_int (pa_cons pe_int pa_nil)))))))))))
      (pss_cons (ps_set (i := 3) sc_l_bag.nd rfl (by first | exact Or.inl rfl | exact Or.inr rfl) (pe_def G_l_cell_at (hr.mono (by decide)) (by rfl) (pa_cons (pv 0) (pa_cons (pv 1) pa_nil))))
      (pss_cons (ps_set (i := 4) sc_l_bag.nd rfl (by first | exact Or.inl rfl | exact Or.inr rfl) (pe_op op_add (pe_op op_mulW pe_int (pv 1)) pe_int))
      (pss_cons (ps_for PassesOwn.never rfl (pi_range1 (by rfl) B.b_range (pa_cons pe_int pa_nil)) (pg_name (i := 5) sc_l_bag.nd rfl (by first | exact Or.inl rfl | exact Or.inr rfl))
      (pss_cons (ps_set (i := 6) sc_l_bag.nd rfl (by first | exact Or.inl rfl | exact Or.inr rfl) (pe_op op_add (pe_op op_add (pe_op op_mod (pe_def G_l_cell_at (hr.mono (by decide)) (by rfl) (pa_cons (pv 0) (pa_cons (pe_op op_add (pv 1) (pv 5)) pa_nil))) (pe_op op_pow pe_int pe_int)) (pe_op op_mulW pe_int (pv 5))) pe_int))
      (pss_one (ps_set (i := 4) sc_l_bag.nd rfl (by first | exact Or.inl rfl | exact Or.inr rfl) (pe_op op_mod (pe_op op_add (pe_op op_mulW (pv 4) pe_int) (pe_op op_mod (pe_op op_pow (pv 6) pe_int) (pe_ix (ix_seqK (K := K) rfl) (pv 2) (pv 5) (fun _ _ => rfl)))) pe_int)))))
      (pss_cons (ps_if (pt_cmpR op_lt (pv 3) (pe_op op_pow pe_int pe_int) (by first | exact nomark _ | rfl)) (pss_one (ps_set (i := 3) sc_l_bag.nd rfl (by first | exact Or.inl rfl | exact Or.inr rfl) pe_int)) pss_nil)
      (pss_one (ps_ret (pe_lst (pa_cons (pv 3) (pa_cons (pe_op op_add (pv 4) pe_int) pa_nil)))))))))), body_ok h (fun ds μ Φ p => ?_)⟩
  (try dsimp only [cxOf, Cx.nox, Cx.wish, List.map_cons, List.map_nil])
  obtain ⟨ns, k, rfl, h0, h1, q⟩ := p
  show AS K _ [some _, some _, none, none, none, none, none] _ _
  have sk : Sz 31 k := by unfold Sz; omega
  walk_at "go"
  refine use_cell h0 fun cell => ?_
  walk_at "go"
  refine s_for1 9 (fun i τ' μ' => μ' = μ ∧ ∃ (mix : Int) (o5 o6 : Option D), τ' = [some (.rol (ns.map D.int)), some (.int k), some (.tup [D.int 99991, D.int 99971, D.int 99961, D.int 99929, D.int 99923, D.int 99907, D.int 99901, D.int 99881, D.int 99877]), some (.int cell), some (.int mix), o5, o6] ∧ 0 ≤ mix ∧ mix < 2147483629) ?_ ?_ ?_
  · walk_at "go"
    exact ⟨rfl, by decide, by decide, rfl, 7919 * k + 29, none, none, rfl, by omega, by omega⟩
  · rintro i τ' μ' hi ⟨rfl, mix, o5, o6, rfl, m0, m1⟩
    have sm : Sz 31 mix := by unfold Sz; omega
    have si : Sz 31 (i : Int) := by unfold Sz; omega
    obtain ⟨pr, hp, hp0⟩ := prime_at (k := (i : Int)) (by omega) hi
    walk_at "go"
    refine use_cell (by omega) fun z => ?_
    walk_at "go"
    refine ro_ix rfl hp ?_
    walk_at "go"
    exact ⟨rfl, _, _, _, rfl, Int.emod_nonneg _ (by decide), Int.emod_lt_of_pos _ (by decide)⟩
  · rintro τ' μ' ⟨rfl, mix, o5, o6, rfl, m0, m1⟩
    walk_at "go"
    refine ite_d (fun h => ?_) (fun h => ?_)
    · walk_at "go"
      exact fun a ha => q a _ _ ha ⟨by omega, by omega⟩
    · walk_at "go"
      exact fun a ha => q a _ _ ha ⟨by omega, by omega⟩
theorem ok_l_take {f : Addr} {fd : FuncData} (F : Fun K "_law_take" "_law_take" s_l_take f fd) (B : Bs mg) : FnOk P w K mg base CX0 1 f fd ["_law_bag_here", "_law_many"] (spI K P_l_take) := by
  refine F.ok sc_l_take (fun vs H Q E h => spI_len h len_l_take) (fun cdv A outer s H vs Q E hr h => ?_)
  have hu65 := hu65_of hr
  refine ⟨_, (pss_cons (ps_if (pt_cmpR op_gt (pe_ix (ix_seqK (K := K) rfl) (pv 0) pe_int (fun _ _ => rfl)) pe_int (by first | exact nomark _ | rfl)) (pss_cons (ps_set (i := 2) sc_l_take.nd rfl (by first | exact Or.inl rfl | exact Or.inr rfl) (pe_op op_mod (pe_ix (ix_seqK (K := K) rfl) (pv 0) pe_int (fun _ _ => rfl)) (pv 1)))
      (pss_cons (ps_asg (pe_op op_fdivW (pe_ix (ix_seqK (K := K) rfl) (pv 0) pe_int (fun _ _ => rfl)) (pv 1)) (pg_sub (pv 0) pe_int set_list))
      (pss_one (ps_ret (pv 2))))) pss_nil)
      (pss_cons (ps_asg (pe_op op_mod (pe_op op_mulW (pe_ix (ix_seqK (K := K) rfl) (pv 0) pe_int (fun _ _ => rfl)) pe_int) pe_int) (pg_sub (pv 0) pe_int set_list))
      (pss_one (ps_ret (pe_op op_mod (pe_op op_mod (pe_op op_mod (pe_op op_pow (pe_ix (ix_seqK (K := K) rfl) (pv 0) pe_int (fun _ _ => rfl)) pe_int) pe_int) pe_int) (pv 1)))))), body_ok h (fun ds μ Φ p => ?_)⟩
  (try dsimp only [cxOf, Cx.nox, Cx.wish, List.map_cons, List.map_nil])
  obtain ⟨b, n, c, m, rfl, hb, hm, hn, hz, q⟩ := p
  show AS K _ [some _, some _, none] _ _
  have sm : Sz 31 m := by unfold Sz; have := hm.1; have := hm.2; omega
  walk_at "go"
  refine ite_d (fun h => ?_) (fun h => ?_)
  · walk_at "go"
    exact q _ _ _ (Int.emod_nonneg _ (by omega)) (Int.emod_lt_of_pos _ hn) (sz_mod hn hz) hm
  · walk_at "go"
    exact q _ _ _ (Int.emod_nonneg _ (by omega)) (Int.emod_lt_of_pos _ hn) (sz_mod hn hz) ⟨Int.emod_nonneg _ (by decide), by have := Int.emod_lt_of_pos (m * 48271) (show (0 : Int) < 2147483647 by decide); omega⟩
def P_l_side : PT3 := fun ds μ Φ => ∃ x1 y1 x2 y2 x3 y3 : Int, ds = [pt x1 y1, pt x2 y2, pt x3 y3] ∧ Sz 20000 x1 ∧ Sz 20000 y1 ∧ Sz 20000 x2 ∧ Sz 20000 y2 ∧ Sz 20000 x3 ∧ Sz 20000 y3 ∧ Φ (.int (sgn (ar (x1, y1) (x2, y2) (x3, y3)))) μ
theorem len_l_side (ds : List D) (μ : M) (Φ : D → M → Prop) (h : P_l_side ds μ Φ) : ds.length = 3 := by
  obtain ⟨_, _, _, _, _, _, rfl, _⟩ := h
  rfl
theorem use_l_side {μ : M} {Φ : D → M → Prop} {x1 y1 x2 y2 x3 y3 : Int} (s1 : Sz 20000 x1) (s2 : Sz 20000 y1) (s3 : Sz 20000 x2) (s4 : Sz 20000 y2) (s5 : Sz 20000 x3) (s6 : Sz 20000 y3) (q : Φ (.int (sgn (ar (x1, y1) (x2, y2) (x3, y3)))) μ) : P_l_side [pt x1 y1, pt x2 y2, pt x3 y3] μ Φ :=
  ⟨x1, y1, x2, y2, x3, y3, rfl, s1, s2, s3, s4, s5, s6, q⟩
def P_l_lies : PT3 := fun ds μ Φ => ∃ x1 y1 x2 y2 x3 y3 : Int, ds = [pt x1 y1, pt x2 y2, pt x3 y3] ∧ Sz 20000 x1 ∧ Sz 20000 y1 ∧ Sz 20000 x2 ∧ Sz 20000 y2 ∧ Sz 20000 x3 ∧ Sz 20000 y3 ∧ Φ (.bl (decide (Lies (x1, y1) (x2, y2) (x3, y3)))) μ
theorem len_l_lies (ds : List D) (μ : M) (Φ : D → M → Prop) (h : P_l_lies ds μ Φ) : ds.length = 3 := by
  obtain ⟨_, _, _, _, _, _, rfl, _⟩ := h
  rfl
theorem use_l_lies {μ : M} {Φ : D → M → Prop} {x1 y1 x2 y2 x3 y3 : Int} (s1 : Sz 20000 x1) (s2 : Sz 20000 y1) (s3 : Sz 20000 x2) (s4 : Sz 20000 y2) (s5 : Sz 20000 x3) (s6 : Sz 20000 y3) (q : Φ (.bl (decide (Lies (x1, y1) (x2, y2) (x3, y3)))) μ) : P_l_lies [pt x1 y1, pt x2 y2, pt x3 y3] μ Φ :=
  ⟨x1, y1, x2, y2, x3, y3, rfl, s1, s2, s3, s4, s5, s6, q⟩
def P_l_meet : PT3 := fun ds μ Φ => ∃ x1 y1 x2 y2 x3 y3 x4 y4 : Int, ds = [pt x1 y1, pt x2 y2, pt x3 y3, pt x4 y4] ∧ Sz 20000 x1 ∧ Sz 20000 y1 ∧ Sz 20000 x2 ∧ Sz 20000 y2 ∧ Sz 20000 x3 ∧ Sz 20000 y3 ∧ Sz 20000 x4 ∧ Sz 20000 y4 ∧ Φ (.bl (decide (MeetP (x1, y1) (x2, y2) (x3, y3) (x4, y4)))) μ
theorem len_l_meet (ds : List D) (μ : M) (Φ : D → M → Prop) (h : P_l_meet ds μ Φ) : ds.length = 4 := by
  obtain ⟨_, _, _, _, _, _, _, _, rfl, _⟩ := h
  rfl
theorem use_l_meet {μ : M} {Φ : D → M → Prop} {x1 y1 x2 y2 x3 y3 x4 y4 : Int} (s1 : Sz 20000 x1) (s2 : Sz 20000 y1) (s3 : Sz 20000 x2) (s4 : Sz 20000 y2) (s5 : Sz 20000 x3) (s6 : Sz 20000 y3) (s7 : Sz 20000 x4) (s8 : Sz 20000 y4) (q : Φ (.bl (decide (MeetP (x1, y1) (x2, y2) (x3, y3) (x4, y4)))) μ) : P_l_meet [pt x1 y1, pt x2 y2, pt x3 y3, pt x4 y4] μ Φ :=
  ⟨x1, y1, x2, y2, x3, y3, x4, y4, rfl, s1, s2, s3, s4, s5, s6, s7, s8, q⟩
theorem due_sgn (n : Int) : ((if decide (0 < n) = true then 1 else 0) - (if decide (n < 0) = true then 1 else 0) : Int) = sgn n := by
  unfold sgn
  by_cases h1 : 0 < n <;> by_cases h2 : n < 0 <;> simp [h1, h2] <;> omega
theorem btw_mm {x y z : Int} : Btw x y z ↔ ((if y < x then y else x) ≤ z ∧ z ≤ (if y > x then y else x)) := by
  unfold Btw
  split <;> split <;> omega
theorem ok_l_side {f : Addr} {fd : FuncData} (F : Fun K "_law_side" "_law_side" s_l_side f fd) (B : Bs mg) : FnOk P w K mg base CX0 1 f fd ["_law_a", "_law_b", "_law_c"] (spI K P_l_side) := by
  refine F.ok sc_l_side (fun vs H Q E h => spI_len h len_l_side) (fun cdv A outer s H vs Q E hr h => ?_)
  have hu65 := hu65_of hr
  refine ⟨_, (pss_cons (ps_par (i := 3) (j := 4) rfl sc_l_side.nd rfl rfl (by decide) rfl rfl (pa_cons (pe_op op_sub (pe_ix (ix_seqK (K := K) rfl) (pv 1) pe_int (fun _ _ => rfl)) (pe_ix (ix_seqK (K := K) rfl) (pv 0) pe_int (fun _ _ => rfl))) (pa_cons (pe_op op_sub (pe_ix (ix_seqK (K := K) rfl) (pv 1) pe_int (fun _ _ => rfl)) (pe_ix (ix_seqK (K := K) rfl) (pv 0) pe_int (fun _ _ => rfl))) pa_nil)) (by rfl))
      (pss_cons (ps_set (i := 5) sc_l_side.nd rfl (by first | exact Or.inl rfl | exact Or.inr rfl) (pe_op op_sub (pe_op op_mulW (pv 3) (pe_op op_sub (pe_ix (ix_seqK (K := K) rfl) (pv 2) pe_int (fun _ _ => rfl)) (pe_ix (ix_seqK (K := K) rfl) (pv 0) pe_int (fun _ _ => rfl)))) (pe_op op_mulW (pv 4) (pe_op op_sub (pe_ix (ix_seqK (K := K) rfl) (pv 2) pe_int (fun _ _ => rfl)) (pe_ix (ix_seqK (K := K) rfl) (pv 0) pe_int (fun _ _ => rfl))))))
      (pss_one (ps_ret (pe_op op_sub (pe_callTy call_int1 (by rfl) B.b_int (by decide +kernel) (pa_cons (pe_cmpR op_gt (pv 5) pe_int (by first | exact nomark _ | rfl)) pa_nil)) (pe_callTy call_int1 (by rfl) B.b_int (by decide +kernel) (pa_cons (pe_cmpR op_lt (pv 5) pe_int (by first | exact nomark _ | rfl)) pa_nil))))))), body_ok h (fun ds μ Φ p => ?_)⟩
  (try dsimp only [cxOf, Cx.nox, Cx.wish, List.map_cons, List.map_nil])
  obtain ⟨x1, y1, x2, y2, x3, y3, rfl, s1, s2, s3, s4, s5, s6, q⟩ := p
  show AS K _ [some _, some _, some _, none, none, none] _ _
  walk_at "go"
  exact cast_int (due_sgn _) q
theorem ok_l_lies {f : Addr} {fd : FuncData} (F : Fun K "_law_lies" "_law_lies" s_l_lies f fd) (B : Bs mg) (G_l_side : Def P w K mg base "_law_side" ["_law_a", "_law_b", "_law_c"] 1 (spI K P_l_side)) : FnOk P w K mg base CX0 2 f fd ["_law_a", "_law_b", "_law_c"] (spI K P_l_lies) := by
  refine F.ok sc_l_lies (fun vs H Q E h => spI_len h len_l_lies) (fun cdv A outer s H vs Q E hr h => ?_)
  have hu65 := hu65_of hr
  refine ⟨_, (pss_cons (ps_set (i := 3) sc_l_lies.nd rfl (by first | exact Or.inl rfl | exact Or.inr rfl) (pe_and (pe_chain op_le op_le (pe_callB (call_min2 rfl) (by rfl) B.b_min (by decide +kernel) (pa_cons (pe_ix (ix_seqK (K := K) rfl) (pv 0) pe_int (fun _ _ => rfl)) (pa_cons (pe_ix (ix_seqK (K := K) rfl) (pv 1) pe_int (fun _ _ => rfl)) pa_nil))) (pe_ix (ix_seqK (K := K) rfl) (pv 2) pe_int (fun _ _ => rfl)) (pe_callB (call_max2 rfl) (by rfl) B.b_max (by decide +kernel) (pa_cons (pe_ix (ix_seqK (K := K) rfl) (pv 0) pe_int (fun _ _ => rfl)) (pa_cons (pe_ix (ix_seqK (K := K) rfl) (pv 1) pe_int (fun _ _ => rfl)) pa_nil)))) (pe_one (pe_chain op_le op_le (pe_callB (call_min2 rfl) (by rfl) B.b_min (by decide +kernel) (pa_cons (pe_ix (ix_seqK (K := K) rfl) (pv 0) pe_int (fun _ _ => rfl)) (pa_cons (pe_ix (ix_seqK (K := K) rfl) (pv 1) pe_int (fun _ _ => rfl)) pa_nil))) (pe_ix (ix_seqK (K := K) rfl) (pv 2) pe_int (fun _ _ => rfl)) (pe_callB (call_max2 rfl) (by rfl) B.b_max (by decide +kernel) (pa_cons (pe_ix (ix_seqK (K := K) rfl) (pv 0) pe_int (fun _ _ => rfl)) (pa_cons (pe_ix (ix_seqK (K := K) rfl) (pv 1) pe_int (fun _ _ => rfl)) pa_nil)))))))
      (pss_one (ps_ret (pe_and (pv 3) (pe_one (pe_cmpR op_eq (pe_def G_l_side (hr.mono (by decide)) (by rfl) (pa_cons (pv 0) (pa_cons (pv 1) (pa_cons (pv 2) pa_nil)))) pe_int (by first | exact nomark _ | rfl))))))), body_ok h (fun ds μ Φ p => ?_)⟩
  (try dsimp only [cxOf, Cx.nox, Cx.wish, List.map_cons, List.map_nil])
  obtain ⟨x1, y1, x2, y2, x3, y3, rfl, s1, s2, s3, s4, s5, s6, q⟩ := p
  show AS K _ [some _, some _, some _, none] _ _
  have no1 : ¬ Btw x1 x2 x3 → decide (Lies (x1, y1) (x2, y2) (x3, y3)) = false := fun h => decide_eq_false fun z => h z.1
  have no2 : ¬ Btw y1 y2 y3 → decide (Lies (x1, y1) (x2, y2) (x3, y3)) = false := fun h => decide_eq_false fun z => h z.2.1
  walk_at "go"
  refine ite_d (fun h1 => ?_) (fun h1 => ?_)
  · walk_at "go"
    refine ite_d (fun h2 => ?_) (fun h2 => ?_)
    · have e1 : Btw x1 x2 x3 := btw_mm.mpr ⟨h1, h2⟩
      walk_at "go"
      refine ite_d (fun h3 => ?_) (fun h3 => ?_)
      · walk_at "go"
        by_cases h4 : y3 ≤ (if y2 > y1 then y2 else y1)
        · have e2 : Btw y1 y2 y3 := btw_mm.mpr ⟨h3, h4⟩
          rw [decide_eq_true h4]
          walk_at "go"
          refine use_l_side s1 s2 s3 s4 s5 s6 ?_
          walk_at "go"
          refine cast_bl (Bool.eq_iff_iff.mpr ?_) q
          rw [decide_eq_true_iff, decide_eq_true_iff, sgn_zero]
          exact ⟨fun z => ⟨e1, e2, z⟩, fun z => z.2.2⟩
        · rw [decide_eq_false h4]
          walk_at "go"
          exact cast_bl (no2 fun z => h4 (btw_mm.mp z).2).symm q
      · walk_at "go"
        exact cast_bl (no2 fun z => h3 (btw_mm.mp z).1).symm q
    · walk_at "go"
      exact cast_bl (no1 fun z => h2 (btw_mm.mp z).2).symm q
  · walk_at "go"
    exact cast_bl (no1 fun z => h1 (btw_mm.mp z).1).symm q
theorem ok_l_meet {f : Addr} {fd : FuncData} (F : Fun K "_law_meet" "_law_meet" s_l_meet f fd) (B : Bs mg) (G_l_lies : Def P w K mg base "_law_lies" ["_law_a", "_law_b", "_law_c"] 2 (spI K P_l_lies)) (G_l_side : Def P w K mg base "_law_side" ["_law_a", "_law_b", "_law_c"] 1 (spI K P_l_side)) : FnOk P w K mg base CX0 3 f fd ["_law_a", "_law_b", "_law_c", "_law_d"] (spI K P_l_meet) := by
  refine F.ok sc_l_meet (fun vs H Q E h => spI_len h len_l_meet) (fun cdv A outer s H vs Q E hr h => ?_)
  have hu65 := hu65_of hr
  refine ⟨_, (pss_cons (ps_if (PW.pt (pw_or (pt_val (pe_def G_l_lies (hr.mono (by decide)) (by rfl) (pa_cons (pv 0) (pa_cons (pv 1) (pa_cons (pv 2) pa_nil))))) (pw_or (pt_val (pe_def G_l_lies (hr.mono (by decide)) (by rfl) (pa_cons (pv 0) (pa_cons (pv 1) (pa_cons (pv 3) pa_nil))))) (pw_or (pt_val (pe_def G_l_lies (hr.mono (by decide)) (by rfl) (pa_cons (pv 2) (pa_cons (pv 3) (pa_cons (pv 0) pa_nil))))) (pw_or1 (pt_val (pe_def G_l_lies (hr.mono (by decide)) (by rfl) (pa_cons (pv 2) (pa_cons (pv 3) (pa_cons (pv 1) pa_nil)))))))))) (pss_one (ps_ret pe_bl)) pss_nil)
      (pss_one (ps_ret (pe_and (pe_cmpR op_lt (pe_op op_mulW (pe_def G_l_side (hr.mono (by decide)) (by rfl) (pa_cons (pv 0) (pa_cons (pv 1) (pa_cons (pv 2) pa_nil)))) (pe_def G_l_side (hr.mono (by decide)) (by rfl) (pa_cons (pv 0) (pa_cons (pv 1) (pa_cons (pv 3) pa_nil))))) pe_int (by first | exact nomark _ | rfl)) (pe_one (pe_cmpR op_lt (pe_op op_mulW (pe_def G_l_side (hr.mono (by decide)) (by rfl) (pa_cons (pv 2) (pa_cons (pv 3) (pa_cons (pv 0) pa_nil)))) (pe_def G_l_side (hr.mono (by decide)) (by rfl) (pa_cons (pv 2) (pa_cons (pv 3) (pa_cons (pv 1) pa_nil))))) pe_int (by first | exact nomark _ | rfl))))))), body_ok h (fun ds μ Φ p => ?_)⟩
  (try dsimp only [cxOf, Cx.nox, Cx.wish, List.map_cons, List.map_nil])
  obtain ⟨x1, y1, x2, y2, x3, y3, x4, y4, rfl, s1, s2, s3, s4, s5, s6, s7, s8, q⟩ := p
  show AS K _ [some _, some _, some _, some _] _ _
  walk_at "go"
  refine use_l_lies s1 s2 s3 s4 s5 s6 ?_
  walk_at "go"
  refine ite_d (fun h1 => ?_) (fun h1 => ?_)
  · walk_at "go"
    exact cast_bl (decide_eq_true (.inl h1)).symm q
  walk_at "go"
  refine use_l_lies s1 s2 s3 s4 s7 s8 ?_
  walk_at "go"
  refine ite_d (fun h2 => ?_) (fun h2 => ?_)
  · walk_at "go"
    exact cast_bl (decide_eq_true (.inr (.inl h2))).symm q
  walk_at "go"
  refine use_l_lies s5 s6 s7 s8 s1 s2 ?_
  walk_at "go"
  refine ite_d (fun h3 => ?_) (fun h3 => ?_)
  · walk_at "go"
    exact cast_bl (decide_eq_true (.inr (.inr (.inl h3)))).symm q
  walk_at "go"
  refine use_l_lies s5 s6 s7 s8 s3 s4 ?_
  walk_at "go"
  refine ite_d (fun h4 => ?_) (fun h4 => ?_)
  · walk_at "go"
    exact cast_bl (decide_eq_true (.inr (.inr (.inr (.inl h4))))).symm q
  walk_at "go"
  refine use_l_side s1 s2 s3 s4 s5 s6 ?_
  walk_at "go"
  refine use_l_side s1 s2 s3 s4 s7 s8 ?_
  walk_at "go"
  refine ite_d (fun h5 => ?_) (fun h5 => ?_)
  · walk_at "go"
    refine use_l_side s5 s6 s7 s8 s1 s2 ?_
    walk_at "go"
    refine use_l_side s5 s6 s7 s8 s3 s4 ?_
    walk_at "go"
    refine cast_bl (Bool.eq_iff_iff.mpr ?_) q
    rw [decide_eq_true_iff, decide_eq_true_iff, sgn_mul_neg]
    rw [sgn_mul_neg] at h5
    exact ⟨fun z => .inr (.inr (.inr (.inr ⟨h5, z⟩))), fun z => by
      rcases z with z | z | z | z | z
      · exact absurd z h1
      · exact absurd z h2
      · exact absurd z h3
      · exact absurd z h4
      · exact z.2⟩
  · walk_at "go"
    refine cast_bl (decide_eq_false fun z => ?_).symm q
    rw [sgn_mul_neg] at h5
    rcases z with z | z | z | z | z
    · exact absurd z h1
    · exact absurd z h2
    · exact absurd z h3
    · exact absurd z h4
    · exact h5 z.1
def Lo (x y : Int) (p : Fq) : Prop := ∃ k : Int, 0 < k ∧ p.1 * k = x ∧ p.2 * k = y
def P_l_low : PT3 := fun ds μ Φ => ∃ (x y : Int) (n : Nat), ds = [.int x, .int y] ∧ 0 < y ∧ Sz n x ∧ Sz n y ∧ n ≤ 8000 ∧ ∀ p : Fq, Lo x y p → Gd n p → Φ (encF p) μ
theorem len_l_low (ds : List D) (μ : M) (Φ : D → M → Prop) (h : P_l_low ds μ Φ) : ds.length = 2 := by
  obtain ⟨_, _, _, rfl, _⟩ := h
  rfl
theorem use_low (n : Nat) {μ : M} {Φ : D → M → Prop} {x y : Int} (h0 : 0 < y) (s1 : Sz n x) (s2 : Sz n y) (hn : n ≤ 8000) (q : ∀ p : Fq, Lo x y p → Gd n p → Φ (encF p) μ) : P_l_low [.int x, .int y] μ Φ := ⟨x, y, n, rfl, h0, s1, s2, hn, q⟩
theorem ok_l_low {f : Addr} {fd : FuncData} (F : Fun K "_law_low" "_law_low" s_l_low f fd) (B : Bs mg) : FnOk P w K mg base CX0 1 f fd ["_law_one", "_law_other"] (spI K P_l_low) := by
  refine F.ok sc_l_low (fun vs H Q E h => spI_len h len_l_low) (fun cdv A outer s H vs Q E hr h => ?_)
  have hu65 := hu65_of hr
  refine ⟨_, (pss_cons (ps_par (i := 2) (j := 3) rfl sc_l_low.nd rfl rfl (by decide) rfl rfl (pa_cons (pe_callB call_abs (by rfl) B.b_abs (by decide +kernel) (pa_cons (pv 0) pa_nil)) (pa_cons (pv 1) pa_nil)) (by rfl))
      (pss_cons (ps_while PassesOwn.never (pt_cmpR op_gt (pv 2) pe_int (by first | exact nomark _ | rfl)) (pss_one (ps_par (i := 2) (j := 3) rfl sc_l_low.nd rfl rfl (by decide) rfl rfl (pa_cons (pe_op op_mod (pv 3) (pv 2)) (pa_cons (pv 2) pa_nil)) (by rfl))))
      (pss_one (ps_ret (pe_tup (pa_cons (pe_op op_fdivW (pv 0) (pv 3)) (pa_cons (pe_op op_fdivW (pv 1) (pv 3)) pa_nil))))))), body_ok h (fun ds μ Φ p => ?_)⟩
  (try dsimp only [cxOf, Cx.nox, Cx.wish, List.map_cons, List.map_nil])
  obtain ⟨x, y, n, rfl, hy, s1, s2, hn, q⟩ := p
  show AS K _ [some _, some _, none, none] _ _
  walk_at "go"
  refine s_while (fun m τ' μ' => ∃ l b : Nat, m = l ∧ 0 < b ∧ Nat.gcd l b = Nat.gcd x.natAbs y.natAbs ∧ μ' = μ ∧ τ' = [some (.int x), some (.int y), some (.int (l : Int)), some (.int (b : Int))]) x.natAbs ?_ ?_
  · refine ⟨x.natAbs, y.natAbs, rfl, by omega, rfl, rfl, ?_⟩
    show [some (D.int x), some (D.int y), some (D.int (if x < 0 then -x else x)), some (D.int y)] = _
    rw [absn, show ((y.natAbs : Nat) : Int) = y by omega]
  · rintro m τ' μ' ⟨l, b, rfl, hb, hg, rfl, rfl⟩
    walk_at "go"
    refine ite_d (fun hl => ?_) (fun hl => ?_)
    · walk_at "go"
      refine ⟨b % m, Nat.mod_lt _ (by omega), b % m, m, rfl, by omega, by rw [gcd_turn]; exact hg, ?_⟩
      simp
    · have e : m = 0 := by omega
      subst e
      rw [Nat.gcd_zero_left] at hg
      obtain ⟨g0, e1, e2, p2⟩ := div_fact (x := x) hy hg.symm
      have sb : Sz n (b : Int) := by
        have : Sz n y := s2
        have hd : b ∣ y.natAbs := by rw [hg]; exact Nat.gcd_dvd_right _ _
        have hle := Nat.le_of_dvd (by omega) hd
        unfold Sz at *
        omega
      have c1 : CDivW x (b : Int) := divw_of (by omega) sb (by omega)
      have c2 : CDivW y (b : Int) := c1
      have z1 := div_size g0 e1 s1
      have z2 := div_size g0 e2 s2
      walk_at "go"
      exact q (x / (b : Int), y / (b : Int)) ⟨b, by omega, e1, e2⟩ ⟨p2, z1, z2⟩
def P_l_coordinate : PT3 := fun ds μ Φ => ∃ (b : Addr) (most c m : Int), ds = [.ref b, .int most] ∧ μ b = some (.lst [.int c, .int m]) ∧ BgOk m ∧ 0 ≤ most ∧ Sz 30 most ∧ ∀ p c' m', Gd 60 p → BgOk m' → Φ (encF p) (μ.set b (.lst [.int c', .int m']))
theorem len_l_coordinate (ds : List D) (μ : M) (Φ : D → M → Prop) (h : P_l_coordinate ds μ Φ) : ds.length = 2 := by
  obtain ⟨_, _, _, _, rfl, _⟩ := h
  rfl
theorem use_coordinate {μ : M} {Φ : D → M → Prop} {b : Addr} {n c m : Int} (h : μ b = some (.lst [.int c, .int m])) (hm : BgOk m) (hn : 0 ≤ n) (hz : Sz 30 n) (q : ∀ p c' m', Gd 60 p → BgOk m' → Φ (encF p) (μ.set b (.lst [.int c', .int m']))) : P_l_coordinate [.ref b, .int n] μ Φ := ⟨b, n, c, m, rfl, h, hm, hn, hz, q⟩
def P_l_place : PT3 := fun ds μ Φ => ∃ (b : Addr) (most c m : Int), ds = [.ref b, .int most] ∧ μ b = some (.lst [.int c, .int m]) ∧ BgOk m ∧ 0 ≤ most ∧ Sz 30 most ∧ ∀ p c' m', GdP 60 p → BgOk m' → Φ (encP p) (μ.set b (.lst [.int c', .int m']))
theorem len_l_place (ds : List D) (μ : M) (Φ : D → M → Prop) (h : P_l_place ds μ Φ) : ds.length = 2 := by
  obtain ⟨_, _, _, _, rfl, _⟩ := h
  rfl
theorem use_place {μ : M} {Φ : D → M → Prop} {b : Addr} {n c m : Int} (h : μ b = some (.lst [.int c, .int m])) (hm : BgOk m) (hn : 0 ≤ n) (hz : Sz 30 n) (q : ∀ p c' m', GdP 60 p → BgOk m' → Φ (encP p) (μ.set b (.lst [.int c', .int m']))) : P_l_place [.ref b, .int n] μ Φ := ⟨b, n, c, m, rfl, h, hm, hn, hz, q⟩
def MidC (a b p : Fq) (top under : Int) : Prop := Lo (a.1 * b.2 * (under - top) + b.1 * a.2 * top) (a.2 * b.2 * under) p
def MidOk (a b p : Pl) (top under : Int) : Prop := MidC a.1 b.1 p.1 top under ∧ MidC a.2 b.2 p.2 top under
def P_l_mid : PT3 := fun ds μ Φ => ∃ (a b : Pl) (top under : Int) (n : Nat), ds = [encP a, encP b, .int top, .int under] ∧ GdP n a ∧ GdP n b ∧ n ≤ 400 ∧ 0 < under ∧ Sz 8 under ∧ Sz 8 top ∧ ∀ p, MidOk a b p top under → GdP (2 * n + 20) p → Φ (encP p) μ
theorem len_l_mid (ds : List D) (μ : M) (Φ : D → M → Prop) (h : P_l_mid ds μ Φ) : ds.length = 4 := by
  obtain ⟨_, _, _, _, _, rfl, _⟩ := h
  rfl
theorem use_mid (n : Nat) {μ : M} {Φ : D → M → Prop} {a b : Pl} {top under : Int} (ha : GdP n a) (hb : GdP n b) (hn : n ≤ 400) (h0 : 0 < under) (s1 : Sz 8 under) (s2 : Sz 8 top) (q : ∀ p, MidOk a b p top under → GdP (2 * n + 20) p → Φ (encP p) μ) : P_l_mid [encP a, encP b, .int top, .int under] μ Φ := ⟨a, b, top, under, n, rfl, ha, hb, hn, h0, s1, s2, q⟩
theorem pick3 {d : Int} (h0 : 0 ≤ d) (h1 : d < 3) : ∃ z : Int, atI [D.int 1, D.int 4, D.int 1000] d = some (.int z) ∧ 0 < z ∧ Sz 10 z := by
  have h : d = 0 ∨ d = 1 ∨ d = 2 := by omega
  rcases h with h | h | h <;> subst h <;> exact ⟨_, rfl, by decide, by decide⟩
theorem ok_l_coordinate {f : Addr} {fd : FuncData} (F : Fun K "_law_coordinate" "_law_coordinate" s_l_coordinate f fd) (B : Bs mg) (G_l_low : Def P w K mg base "_law_low" ["_law_one", "_law_other"] 1 (spI K P_l_low)) (G_l_take : Def P w K mg base "_law_take" ["_law_bag_here", "_law_many"] 1 (spI K P_l_take)) : FnOk P w K mg base CX0 2 f fd ["_law_bag_here", "_law_most"] (spI K P_l_coordinate) := by
  refine F.ok sc_l_coordinate (fun vs H Q E h => spI_len h len_l_coordinate) (fun cdv A outer s H vs Q E hr h => ?_)
  have hu65 := hu65_of hr
  refine ⟨_, (pss_cons (ps_set (i := 2) sc_l_coordinate.nd rfl (by first | exact Or.inl rfl | exact Or.inr rfl) (pe_op op_add pe_int (pe_def G_l_take (hr.mono (by decide)) (by rfl) (pa_cons (pv 0) (pa_cons (pe_ix (ix_seqK (K := K) rfl) (pe_lst (pa_cons pe_int (pa_cons pe_int (pa_cons pe_int pa_nil)))) (pe_def G_l_take (hr.mono (by decide)) (by rfl) (pa_cons (pv 0) (pa_cons pe_int pa_nil))) (fun _ _ => rfl)) pa_nil)))))
      (pss_one (ps_ret (pe_def G_l_low (hr.mono (by decide)) (by rfl) (pa_cons (pe_op op_sub (pe_def G_l_take (hr.mono (by decide)) (by rfl) (pa_cons (pv 0) (pa_cons (pe_op op_add (pe_op op_mulW (pe_op op_mulW pe_int (pv 1)) (pv 2)) pe_int) pa_nil))) (pe_op op_mulW (pv 1) (pv 2))) (pa_cons (pv 2) pa_nil)))))), body_okU h (fun ds μ Φ p => ?_)⟩
  (try dsimp only [cxOf, Cx.nox, Cx.wish, List.map_cons, List.map_nil])
  obtain ⟨b, most, c, m, rfl, hb, hm, hn, hz, q⟩ := p
  show AS K _ [some _, some _, none] _ _
  walk_at "go"
  intro l hl
  have hlb : b ≠ l := Ne.symm (ne_of_some hl hb)
  walk_at "go"
  refine use_take (by walk_at "mu") hm (by decide) (by walk_at "szN") fun d c1 m1 a1 a2 s1 hm1 => ?_
  obtain ⟨z, hz1, hz0, hzs⟩ := pick3 a1 a2
  walk_at "go"
  refine ro_ix (seq_ref (by walk_at "mu")) hz1 ?_
  walk_at "go"
  refine use_take (by walk_at "mu") hm1 hz0 (by walk_at "szN") fun u c2 m2 b1 b2 s2 hm2 => ?_
  have su : Sz 10 u := sz_lt b1 b2 hzs
  walk_at "go"
  have h2 : 0 ≤ 2 * most * (1 + u) := Int.mul_nonneg (by omega) (by omega)
  refine use_take (by walk_at "mu") hm2 (by omega) (by walk_at "szN") fun v c3 m3 e1 e2 s3 hm3 => ?_
  have sv : Sz 50 v := sz_lt e1 e2 (by walk_at "szN")
  walk_at "go"
  refine use_low 60 (by omega) (by walk_at "szN") (by walk_at "szN") (by decide) fun p _ hp => ?_
  rw [set_set, set_set]
  exact up_of (sb_sub (sb_new sb_refl hl)) (q p _ _ hp hm3)
theorem ok_l_place {f : Addr} {fd : FuncData} (F : Fun K "_law_place" "_law_place" s_l_place f fd) (B : Bs mg) (G_l_coordinate : Def P w K mg base "_law_coordinate" ["_law_bag_here", "_law_most"] 2 (spI K P_l_coordinate)) : FnOk P w K mg base CX0 3 f fd ["_law_bag_here", "_law_most"] (spI K P_l_place) := by
  refine F.ok sc_l_place (fun vs H Q E h => spI_len h len_l_place) (fun cdv A outer s H vs Q E hr h => ?_)
  have hu65 := hu65_of hr
  refine ⟨_, (pss_one (ps_ret (pe_tup (pa_cons (pe_def G_l_coordinate (hr.mono (by decide)) (by rfl) (pa_cons (pv 0) (pa_cons (pv 1) pa_nil))) (pa_cons (pe_def G_l_coordinate (hr.mono (by decide)) (by rfl) (pa_cons (pv 0) (pa_cons (pv 1) pa_nil))) pa_nil))))), body_ok h (fun ds μ Φ p => ?_)⟩
  (try dsimp only [cxOf, Cx.nox, Cx.wish, List.map_cons, List.map_nil])
  obtain ⟨b, most, c, m, rfl, hb, hm, hn, hz, q⟩ := p
  show AS K _ [some _, some _] _ _
  walk_at "go"
  refine use_coordinate hb hm hn hz fun x c1 m1 hx hm1 => ?_
  walk_at "go"
  refine use_coordinate set_same hm1 hn hz fun y c2 m2 hy hm2 => ?_
  walk_at "go"
  rw [set_set]
  exact q (x, y) _ _ ⟨hx, hy⟩ hm2
theorem ok_l_mid {f : Addr} {fd : FuncData} (F : Fun K "_law_mid" "_law_mid" s_l_mid f fd) (B : Bs mg) (G_l_low : Def P w K mg base "_law_low" ["_law_one", "_law_other"] 1 (spI K P_l_low)) : FnOk P w K mg base CX0 2 f fd ["_law_one", "_law_other", "_law_top", "_law_under"] (spI K P_l_mid) := by
  refine F.ok sc_l_mid (fun vs H Q E h => spI_len h len_l_mid) (fun cdv A outer s H vs Q E hr h => ?_)
  have hu65 := hu65_of hr
  refine ⟨_, (pss_cons (ps_set (i := 4) sc_l_mid.nd rfl (by first | exact Or.inl rfl | exact Or.inr rfl) (pe_lst pa_nil))
      (pss_cons (ps_for PassesOwn.never rfl (pi_zipK (K := K) rfl (by rfl) B.b_zip (pa_cons (pv 0) (pa_cons (pv 1) pa_nil))) (pg_tup (by rfl) (pgs_cons (pg_name (i := 5) sc_l_mid.nd rfl (by first | exact Or.inl rfl | exact Or.inr rfl)) (pgs_cons (pg_name (i := 6) sc_l_mid.nd rfl (by first | exact Or.inl rfl | exact Or.inr rfl)) pgs_nil)))
      (pss_cons (ps_set (i := 7) sc_l_mid.nd rfl (by first | exact Or.inl rfl | exact Or.inr rfl) (pe_op op_add (pe_op op_mulW (pe_op op_mulW (pe_ix (ix_seqK (K := K) rfl) (pv 5) pe_int (fun _ _ => rfl)) (pe_ix (ix_seqK (K := K) rfl) (pv 6) pe_int (fun _ _ => rfl))) (pe_op op_sub (pv 3) (pv 2))) (pe_op op_mulW (pe_op op_mulW (pe_ix (ix_seqK (K := K) rfl) (pv 6) pe_int (fun _ _ => rfl)) (pe_ix (ix_seqK (K := K) rfl) (pv 5) pe_int (fun _ _ => rfl))) (pv 2))))
      (pss_one (ps_expr (pe_bm PySem.F.plainAttrs_list PySem.F.slot_list_append PySem.F.type_list_append mt_append (pv 4) (pa_cons (pe_def G_l_low (hr.mono (by decide)) (by rfl) (pa_cons (pv 7) (pa_cons (pe_op op_mulW (pe_op op_mulW (pe_ix (ix_seqK (K := K) rfl) (pv 5) pe_int (fun _ _ => rfl)) (pe_ix (ix_seqK (K := K) rfl) (pv 6) pe_int (fun _ _ => rfl))) (pv 3)) pa_nil))) pa_nil))))))
      (pss_one (ps_ret (pe_tup (pa_cons (pe_ix (ix_seqK (K := K) rfl) (pv 4) pe_int (fun _ _ => rfl)) (pa_cons (pe_ix (ix_seqK (K := K) rfl) (pv 4) pe_int (fun _ _ => rfl)) pa_nil))))))), body_okU h (fun ds μ Φ p => ?_)⟩
  (try dsimp only [cxOf, Cx.nox, Cx.wish, List.map_cons, List.map_nil])
  obtain ⟨a, b, top, under, n, rfl, ha, hb, hn, h0, s1, s2, q⟩ := p
  show AS K _ [some _, some _, some _, some _, none, none, none, none] _ _
  walk_at "go"
  intro l hl
  walk_at "go"
  refine s_for (ai_Z ?_)
  walk_at "go"
  have step : ∀ u v : Fq, Gd n u → Gd n v → Gd n u ∧ Gd n v → True := fun _ _ _ _ _ => trivial
  refine ⟨fun i τ' μ' => ∃ (fs : List Fq) (o6 o7 o8 : Option D), fs.length = i ∧ (∀ (j : Nat) f, fs[j]? = some f → Gd (2 * n + 20) f ∧ ∃ u v, [a.1, a.2][j]? = some u ∧ [b.1, b.2][j]? = some v ∧ MidC u v f top under) ∧ μ' = μ.set l (.lst (fs.map encF)) ∧ τ' = [some (encP a), some (encP b), some (.int top), some (.int under), some (.ref l), o6, o7, o8], ⟨[], _, _, _, rfl, (fun j f hf => by simp at hf), rfl, rfl⟩, ?_, ?_⟩
  · rintro i x τ' μ' hx ⟨fs, o6, o7, o8, rfl, hfs, rfl, rfl⟩
    have hxe : ∃ u v : Fq, Gd n u ∧ Gd n v ∧ x = .tup [encF u, encF v] ∧ fs.length < 2 ∧ [a.1, a.2][fs.length]? = some u ∧ [b.1, b.2][fs.length]? = some v := by
      rcases hi : fs.length with _ | _ | k
      · rw [hi] at hx; cases hx; exact ⟨a.1, b.1, ha.x, hb.x, rfl, by omega, by simp, by simp⟩
      · rw [hi] at hx; cases hx; exact ⟨a.2, b.2, ha.y, hb.y, rfl, by omega, by simp, by simp⟩
      · rw [hi] at hx; cases hx
    obtain ⟨u, v, ⟨u0, u1, u2⟩, ⟨v0, v1, v2⟩, rfl, hlen, hju, hjv⟩ := hxe
    walk_at "go"
    refine m_append (ds := fs.map encF) (a := l) ?_
    walk_at "go"
    refine ⟨rfl, ⟨_, set_same⟩, ?_⟩
    walk_at "go"
    have hp0 : 0 < u.2 * v.2 * under := Int.mul_pos (Int.mul_pos u0 v0) h0
    refine use_low (2 * n + 20) hp0 (by walk_at "szN") (by walk_at "szN") (by omega) fun p hlo hp => ?_
    refine ⟨set_same, by rw [List.length_map]; exact Nat.lt_of_lt_of_le hlen (by decide), ?_⟩
    walk_at "go"
    refine ⟨fs ++ [p], _, _, _, by simp, fun j f hf => ?_, by rw [set_set]; simp, rfl⟩
    rcases Nat.lt_trichotomy j fs.length with hj | hj | hj
    · rw [List.getElem?_append_left hj] at hf
      exact hfs j f hf
    · subst hj
      rw [List.getElem?_append_right (Nat.le_refl _)] at hf
      simp only [Nat.sub_self, List.getElem?_cons_zero, Option.some.injEq] at hf
      subst hf
      exact ⟨hp, u, v, hju, hjv, hlo⟩
    · rw [List.getElem?_eq_none (by simp; omega)] at hf
      cases hf
  · rintro τ' μ' ⟨fs, o6, o7, o8, hlen, hfs, rfl, rfl⟩
    match fs, hlen, hfs with
    | [f, g], _, hfs =>
      walk_at "go"
      obtain ⟨g1, u1, v1, e1, e2, k1⟩ := hfs 0 f rfl
      obtain ⟨g2, u2, v2, e3, e4, k2⟩ := hfs 1 g rfl
      cases e1; cases e2; cases e3; cases e4
      exact up_of (sub_new Sub.refl hl) (q (f, g) ⟨k1, k2⟩ ⟨g1, g2⟩)
def P_l_four : PT3 := fun ds μ Φ => ∃ (b : Addr) (c m : Int), ds = [.ref b] ∧ μ b = some (.lst [.int c, .int m]) ∧ BgOk m ∧ ∀ (x y z w : Pl) c' m', GdP 140 x → GdP 140 y → GdP 900 z → GdP 900 w → BgOk m' → Φ (.tup [encP x, encP y, encP z, encP w]) (μ.set b (.lst [.int c', .int m']))
theorem len_l_four (ds : List D) (μ : M) (Φ : D → M → Prop) (h : P_l_four ds μ Φ) : ds.length = 1 := by
  obtain ⟨_, _, _, rfl, _⟩ := h
  rfl
theorem use_four {μ : M} {Φ : D → M → Prop} {b : Addr} {c m : Int} (h : μ b = some (.lst [.int c, .int m])) (hm : BgOk m) (q : ∀ (x y z w : Pl) c' m', GdP 140 x → GdP 140 y → GdP 900 z → GdP 900 w → BgOk m' → Φ (.tup [encP x, encP y, encP z, encP w]) (μ.set b (.lst [.int c', .int m']))) : P_l_four [.ref b] μ Φ := ⟨b, c, m, rfl, h, hm, q⟩
theorem pick4 {d : Int} (h0 : 0 ≤ d) (h1 : d < 4) : ∃ z : Int, atI [D.int 1, D.int 3, D.int 20, D.int 1000000] d = some (.int z) ∧ 0 < z ∧ Sz 20 z := by
  have h : d = 0 ∨ d = 1 ∨ d = 2 ∨ d = 3 := by omega
  rcases h with h | h | h | h <;> subst h <;> exact ⟨_, rfl, by decide, by decide⟩
theorem pickP {n : Nat} {x y : Pl} {d : Int} (h0 : 0 ≤ d) (h1 : d < 2) (hx : GdP n x) (hy : GdP n y) : ∃ z : Pl, atI [encP x, encP y] d = some (encP z) ∧ GdP n z := by
  have h : d = 0 ∨ d = 1 := by omega
  rcases h with h | h <;> subst h
  · exact ⟨x, rfl, hx⟩
  · exact ⟨y, rfl, hy⟩
/-- between the ifs of _law_four -/
def FInv (b : Addr) (μ0 : M) (most way under : Int) (o : Option D) (n n' : Nat) : T → M → Prop := fun τ' μ' => ∃ (x y z w : Pl) (c m : Int), GdP n x ∧ GdP n y ∧ GdP n' z ∧ GdP n' w ∧ BgOk m ∧ SubB b μ0 μ' ∧ μ' b = some (.lst [.int c, .int m]) ∧ τ' = [some (.ref b), some (.int most), some (encP x), some (encP y), some (encP z), some (encP w), some (.int way), some (.int under), o]
theorem ok_l_four {f : Addr} {fd : FuncData} (F : Fun K "_law_four" "_law_four" s_l_four f fd) (B : Bs mg) (G_l_mid : Def P w K mg base "_law_mid" ["_law_one", "_law_other", "_law_top", "_law_under"] 2 (spI K P_l_mid)) (G_l_place : Def P w K mg base "_law_place" ["_law_bag_here", "_law_most"] 3 (spI K P_l_place)) (G_l_take : Def P w K mg base "_law_take" ["_law_bag_here", "_law_many"] 1 (spI K P_l_take)) : FnOk P w K mg base CX0 4 f fd ["_law_bag_here"] (spI K P_l_four) := by
  refine F.ok sc_l_four (fun vs H Q E h => spI_len h len_l_four) (fun cdv A outer s H vs Q E hr h => ?_)
  have hu65 := hu65_of hr
  refine ⟨_, (pss_cons (ps_set (i := 1) sc_l_four.nd rfl (by first | exact Or.inl rfl | exact Or.inr rfl) (pe_ix (ix_seqK (K := K) rfl) (pe_lst (pa_cons pe_int (pa_cons pe_int (pa_cons pe_int (pa_cons (pe_op op_pow pe_int pe_int) pa_nil))))) (pe_def G_l_take (hr.mono (by decide)) (by rfl) (pa_cons (pv 0) (pa_cons pe_int pa_nil))) (fun _ _ => rfl)))
      (pss_cons (ps_asg (pe_lc (own := [("_law_turn", 8)]) (g := gName 8) (tt := tYes) rfl sc_l_four.nd (pi_range1 (by rfl) B.b_range (pa_cons pe_int pa_nil)) (blkOk_by (own := [("_law_turn", 8)]) (N := N_l_four) (sc := defScope s_l_four) (by decide +kernel)) (fun _ _ _ _ _ => (pg_name (i := 8) sc_l_four.nd rfl (by first | exact Or.inl rfl | exact Or.inr rfl))) (fun _ _ _ _ _ => pts_nil) (fun _ _ _ _ _ => (pe_def G_l_place (hr.mono (by decide)) (by rfl) (pa_cons (pv 0) (pa_cons (pv 1) pa_nil))))) (pg_lst (by rfl) (pgs_cons (pg_name (i := 2) sc_l_four.nd rfl (by first | exact Or.inl rfl | exact Or.inr rfl)) (pgs_cons (pg_name (i := 3) sc_l_four.nd rfl (by first | exact Or.inl rfl | exact Or.inr rfl)) (pgs_cons (pg_name (i := 4) sc_l_four.nd rfl (by first | exact Or.inl rfl | exact Or.inr rfl)) (pgs_cons (pg_name (i := 5) sc_l_four.nd rfl (by first | exact Or.inl rfl | exact Or.inr rfl)) pgs_nil))))))
      (pss_cons (ps_set (i := 6) sc_l_four.nd rfl (by first | exact Or.inl rfl | exact Or.inr rfl) (pe_def G_l_take (hr.mono (by decide)) (by rfl) (pa_cons (pv 0) (pa_cons pe_int pa_nil))))
      (pss_cons (ps_set (i := 7) sc_l_four.nd rfl (by first | exact Or.inl rfl | exact Or.inr rfl) (pe_op op_add pe_int (pe_def G_l_take (hr.mono (by decide)) (by rfl) (pa_cons (pv 0) (pa_cons pe_int pa_nil)))))
      (pss_cons (ps_if (pt_cmpR op_eq (pv 6) pe_int (by first | exact nomark _ | rfl)) (pss_one (ps_set (i := 4) sc_l_four.nd rfl (by first | exact Or.inl rfl | exact Or.inr rfl) (pe_def G_l_mid (hr.mono (by decide)) (by rfl) (pa_cons (pv 2) (pa_cons (pv 3) (pa_cons (pe_def G_l_take (hr.mono (by decide)) (by rfl) (pa_cons (pv 0) (pa_cons (pe_op op_add (pe_op op_mulW pe_int (pv 7)) pe_int) pa_nil))) (pa_cons (pv 7) pa_nil))))))) pss_nil)
      (pss_cons (ps_if (pt_cmpR op_eq (pv 6) pe_int (by first | exact nomark _ | rfl)) (pss_one (ps_par (i := 4) (j := 5) rfl sc_l_four.nd rfl rfl (by decide) rfl rfl (pa_cons (pe_def G_l_mid (hr.mono (by decide)) (by rfl) (pa_cons (pv 2) (pa_cons (pv 3) (pa_cons (pe_op op_sub (pe_def G_l_take (hr.mono (by decide)) (by rfl) (pa_cons (pv 0) (pa_cons pe_int pa_nil))) pe_int) (pa_cons (pv 7) pa_nil))))) (pa_cons (pe_def G_l_mid (hr.mono (by decide)) (by rfl) (pa_cons (pv 2) (pa_cons (pv 3) (pa_cons (pe_op op_sub (pe_def G_l_take (hr.mono (by decide)) (by rfl) (pa_cons (pv 0) (pa_cons pe_int pa_nil))) pe_int) (pa_cons (pv 7) pa_nil))))) pa_nil)) (by rfl))) pss_nil)
      (pss_cons (ps_if (pt_cmpR op_eq (pv 6) pe_int (by first | exact nomark _ | rfl)) (pss_one (ps_set (i := 3) sc_l_four.nd rfl (by first | exact Or.inl rfl | exact Or.inr rfl) (pv 2))) pss_nil)
      (pss_cons (ps_if (pt_cmpR op_eq (pv 6) pe_int (by first | exact nomark _ | rfl)) (pss_cons (ps_par (i := 3) (j := 5) rfl sc_l_four.nd rfl rfl (by decide) rfl rfl (pa_cons (pv 2) (pa_cons (pe_ix (ix_seqK (K := K) rfl) (pe_lst (pa_cons (pv 4) (pa_cons (pv 2) pa_nil))) (pe_def G_l_take (hr.mono (by decide)) (by rfl) (pa_cons (pv 0) (pa_cons pe_int pa_nil))) (fun _ _ => rfl)) pa_nil)) (by rfl))
      (pss_one (ps_set (i := 4) sc_l_four.nd rfl (by first | exact Or.inl rfl | exact Or.inr rfl) (pv 5)))) pss_nil)
      (pss_cons (ps_if (pt_cmpR op_eq (pv 6) pe_int (by first | exact nomark _ | rfl)) (pss_one (ps_set (i := 4) sc_l_four.nd rfl (by first | exact Or.inl rfl | exact Or.inr rfl) (pe_ix (ix_seqK (K := K) rfl) (pe_lst (pa_cons (pv 2) (pa_cons (pv 3) pa_nil))) (pe_def G_l_take (hr.mono (by decide)) (by rfl) (pa_cons (pv 0) (pa_cons pe_int pa_nil))) (fun _ _ => rfl)))) pss_nil)
      (pss_cons (ps_if (pt_cmpR op_eq (pv 6) pe_int (by first | exact nomark _ | rfl)) (pss_one (ps_set (i := 5) sc_l_four.nd rfl (by first | exact Or.inl rfl | exact Or.inr rfl) (pe_def G_l_mid (hr.mono (by decide)) (by rfl) (pa_cons (pv 4) (pa_cons (pe_def G_l_mid (hr.mono (by decide)) (by rfl) (pa_cons (pv 2) (pa_cons (pv 3) (pa_cons (pe_def G_l_take (hr.mono (by decide)) (by rfl) (pa_cons (pv 0) (pa_cons (pe_op op_add (pv 7) pe_int) pa_nil))) (pa_cons (pv 7) pa_nil))))) (pa_cons (pe_op op_add pe_int (pe_def G_l_take (hr.mono (by decide)) (by rfl) (pa_cons (pv 0) (pa_cons pe_int pa_nil)))) (pa_cons pe_int pa_nil))))))) pss_nil)
      (pss_one (ps_ret (pe_tup (pa_cons (pv 2) (pa_cons (pv 3) (pa_cons (pv 4) (pa_cons (pv 5) pa_nil))))))))))))))))), body_okU h (fun ds μ Φ p => ?_)⟩
  (try dsimp only [cxOf, Cx.nox, Cx.wish, List.map_cons, List.map_nil])
  obtain ⟨b, c, m, rfl, hb, hm, q⟩ := p
  show AS K _ [some _, none, none, none, none, none, none, none, none] _ _
  walk_at "go"
  intro l hl
  have hlb : b ≠ l := Ne.symm (ne_of_some hl hb)
  walk_at "go"
  refine use_take (by walk_at "mu") hm (by decide) (by walk_at "szN") fun d c1 m1 a1 a2 s1 hm1 => ?_
  obtain ⟨most, hz1, hz0, hzs⟩ := pick4 a1 a2
  walk_at "go"
  refine ro_ix (seq_ref (by walk_at "mu")) hz1 ?_
  walk_at "go"
  refine a_lc tg_name (ai_1 ?_)
  walk_at "go"
  refine ⟨by decide, by decide, ?_⟩
  refine ⟨fun i acc μ' => ∃ (ps : List Pl) (c m : Int), ps.length = i ∧ (∀ p ∈ ps, GdP 60 p) ∧ acc = ps.map encP ∧ BgOk m ∧ SubB b μ μ' ∧ μ' b = some (.lst [.int c, .int m]), ⟨[], _, _, rfl, by simp, rfl, hm1, sb_self (sb_new sb_refl hl), set_same⟩, ?_, ?_⟩
  · rintro i x acc μ' hx ⟨ps, c2, m2, rfl, hps, rfl, hm2, sb, hb2⟩
    have hi : ps.length < 4 := by
      have := (List.getElem?_eq_some_iff.mp hx).1
      simpa using this
    refine ⟨_, rfl, rfl, ?_⟩
    refine at_yes ?_
    rw [if_pos rfl]
    walk_at "nf"
    walk_at "go"
    refine use_place hb2 hm2 (by omega) (sz_mono hzs (by decide)) fun p c3 m3 hp hm3 => ?_
    refine ⟨by rw [List.length_map]; exact Nat.lt_of_lt_of_le hi (by decide), ps ++ [p], c3, m3, by simp, fun f hf => (List.mem_append.mp hf).elim (hps f) fun z => by rw [List.mem_singleton.mp z]; exact hp, by simp, hm3, sb_self sb, set_same⟩
  · rintro acc μ' ⟨ps, c2, m2, hlen, hps, rfl, hm2, sb, hb2⟩ r hr
    match ps, hlen, hps with
    | [x, y, z, w], _, hps =>
      have hx := hps x (by simp)
      have hy := hps y (by simp)
      have hz := hps z (by simp)
      have hw := hps w (by simp)
      have hrb : b ≠ r := fun e => by subst e; exact absurd (hr.symm.trans hb2) (by simp)
      refine g_lst (ds := [encP x, encP y, encP z, encP w]) (seq_ref set_same) (fun es e => by cases e) rfl ?_
      walk_at "go"
      refine use_take (by walk_at "mu") hm2 (by decide) (by walk_at "szN") fun way c3 m3 w1 w2 s3 hm3 => ?_
      walk_at "go"
      refine use_take (by walk_at "mu") hm3 (by decide) (by walk_at "szN") fun u c4 m4 u1 u2 s4 hm4 => ?_
      have su : Sz 3 u := sz_lt u1 u2 (by decide)
      have su3 : Sz 4 (1 + u) := by walk_at "szN"
      have su2 : Sz 8 (1 + u) := sz_mono su3 (by decide)
      have u0 : 0 < 1 + u := by omega
      walk_at "go"
      generalize 1 + u = under at *
      refine if_cut (FInv b μ most way under none 60 140) (fun _ => ?_) (fun _ => ?_) ?_
      · walk_at "go"
        refine use_take (by walk_at "mu") hm4 (by omega) (by walk_at "szN") fun d5 c5 m5 e1 e2 s5 hm5 => ?_
        have t5 : Sz 8 d5 := sz_lt e1 e2 (sz_mono (sz_add (sz_mul (sz_2 (by decide)) su3) (sz_2 (by decide))) (by decide))
        walk_at "go"
        refine use_mid 60 hx hy (by decide) u0 su2 t5 fun p _ hp => ?_
        walk_at "go"
        exact ⟨x, y, p, w, _, _, hx, hy, hp, hw.mono (by decide), hm5, sb_self (sb_self (sb_self (sb_new sb hr))), set_same, rfl⟩
      · walk_at "go"
        exact ⟨x, y, z, w, _, _, hx, hy, hz.mono (by decide), hw.mono (by decide), hm4, sb_self (sb_self (sb_new sb hr)), set_same, rfl⟩
      rintro τ1 μ1 ⟨x1, y1, z1, w1, c5, m5, hx1, hy1, hz1, hw1, hm5, sb1, hb5, rfl⟩
      clear hrb hr hb2
      dsimp only
      walk_at "go"
      refine if_cut (FInv b μ most way under none 60 140) (fun _ => ?_) (fun _ => ?_) ?_
      · walk_at "go"
        refine use_take hb5 hm5 (by decide) (by walk_at "szN") fun d6 c6 m6 e1 e2 s6 hm6 => ?_
        have t6 : Sz 4 d6 := sz_lt e1 e2 (by decide)
        walk_at "go"
        refine use_mid 60 hx1 hy1 (by decide) u0 su2 (by walk_at "szN") fun p _ hp => ?_
        walk_at "go"
        refine use_take set_same hm6 (by decide) (by walk_at "szN") fun d7 c7 m7 e1 e2 s7 hm7 => ?_
        have t7 : Sz 4 d7 := sz_lt e1 e2 (by decide)
        walk_at "go"
        refine use_mid 60 hx1 hy1 (by decide) u0 su2 (by walk_at "szN") fun r _ hr => ?_
        walk_at "go"
        exact ⟨x1, y1, p, r, _, _, hx1, hy1, hp, hr, hm7, sb_self (sb_self sb1), set_same, rfl⟩
      · walk_at "go"
        exact ⟨x1, y1, z1, w1, _, _, hx1, hy1, hz1, hw1, hm5, sb1, hb5, rfl⟩
      rintro τ2 μ2 ⟨x2, y2, z2, w2, c6, m6, hx2, hy2, hz2, hw2, hm6, sb2, hb6, rfl⟩
      dsimp only
      walk_at "go"
      refine if_cut (FInv b μ most way under none 140 140) (fun _ => ?_) (fun _ => ?_) ?_
      · walk_at "go"
        exact ⟨x2, x2, z2, w2, _, _, hx2.mono (by decide), hx2.mono (by decide), hz2, hw2, hm6, sb2, hb6, rfl⟩
      · walk_at "go"
        exact ⟨x2, y2, z2, w2, _, _, hx2.mono (by decide), hy2.mono (by decide), hz2, hw2, hm6, sb2, hb6, rfl⟩
      rintro τ3 μ3 ⟨x3, y3, z3, w3, c7, m7, hx3, hy3, hz3, hw3, hm7, sb3, hb7, rfl⟩
      dsimp only
      walk_at "go"
      refine if_cut (FInv b μ most way under none 140 140) (fun _ => ?_) (fun _ => ?_) ?_
      · walk_at "go"
        intro r hr
        have hbr : b ≠ r := Ne.symm (ne_of_some hr hb7)
        walk_at "go"
        refine use_take (by walk_at "mu") hm7 (by decide) (by walk_at "szN") fun d8 c8 m8 e1 e2 s8 hm8 => ?_
        obtain ⟨q8, hq8, hg8⟩ := pickP e1 e2 hz3 hx3
        walk_at "go"
        refine ro_ix (seq_ref (by walk_at "mu")) hq8 ?_
        walk_at "go"
        exact ⟨x3, x3, q8, q8, _, _, hx3, hx3, hg8, hg8, hm8, sb_self (sb_new sb3 hr), set_same, rfl⟩
      · walk_at "go"
        exact ⟨x3, y3, z3, w3, _, _, hx3, hy3, hz3, hw3, hm7, sb3, hb7, rfl⟩
      rintro τ4 μ4 ⟨x4, y4, z4, w4, c8, m8, hx4, hy4, hz4, hw4, hm8, sb4, hb8, rfl⟩
      dsimp only
      walk_at "go"
      refine if_cut (FInv b μ most way under none 140 140) (fun _ => ?_) (fun _ => ?_) ?_
      · walk_at "go"
        intro r hr
        have hbr : b ≠ r := Ne.symm (ne_of_some hr hb8)
        walk_at "go"
        refine use_take (by walk_at "mu") hm8 (by decide) (by walk_at "szN") fun d8 c9 m9 e1 e2 s8 hm9 => ?_
        obtain ⟨q8, hq8, hg8⟩ := pickP e1 e2 hx4 hy4
        walk_at "go"
        refine ro_ix (seq_ref (by walk_at "mu")) hq8 ?_
        walk_at "go"
        exact ⟨x4, y4, q8, w4, _, _, hx4, hy4, hg8, hw4, hm9, sb_self (sb_new sb4 hr), set_same, rfl⟩
      · walk_at "go"
        exact ⟨x4, y4, z4, w4, _, _, hx4, hy4, hz4, hw4, hm8, sb4, hb8, rfl⟩
      rintro τ5 μ5 ⟨x5, y5, z5, w5, c9, m9, hx5, hy5, hz5, hw5, hm9, sb5, hb9, rfl⟩
      dsimp only
      walk_at "go"
      refine if_cut (FInv b μ most way under none 140 900) (fun _ => ?_) (fun _ => ?_) ?_
      · walk_at "go"
        have su9 : Sz 8 (under + 1) := sz_mono (sz_add su3 (sz_2 (by decide))) (by decide)
        refine use_take hb9 hm9 (by omega) (sz_mono su9 (by decide)) fun d9 c10 m10 e1 e2 s9 hm10 => ?_
        have t9 : Sz 8 d9 := sz_lt e1 e2 su9
        walk_at "go"
        refine use_mid 140 hx5 hy5 (by decide) u0 su2 t9 fun p _ hp => ?_
        walk_at "go"
        refine use_take set_same hm10 (by decide) (by walk_at "szN") fun d10 c11 m11 e1 e2 s10 hm11 => ?_
        have t10 : Sz 2 d10 := sz_lt e1 e2 (by decide)
        walk_at "go"
        refine use_mid 300 (hz5.mono (by decide)) hp (by decide) (by decide) (by decide) (by walk_at "szN") fun r _ hr => ?_
        walk_at "go"
        exact ⟨x5, y5, z5, r, _, _, hx5, hy5, hz5.mono (by decide), hr.mono (by decide), hm11, sb_self (sb_self sb5), set_same, rfl⟩
      · walk_at "go"
        exact ⟨x5, y5, z5, w5, _, _, hx5, hy5, hz5.mono (by decide), hw5.mono (by decide), hm9, sb5, hb9, rfl⟩
      rintro τ6 μ6 ⟨x6, y6, z6, w6, c10, m10, hx6, hy6, hz6, hw6, hm10, sb6, hb10, rfl⟩
      dsimp only
      walk_at "go"
      exact up_of (sb_end sb6 hb10) (q x6 y6 z6 w6 _ _ hx6 hy6 hz6 hw6 hm10)
def sp1 (by_ : Int) (p : Pl) : Int × Int := (p.1.1 * (by_ / p.1.2), p.2.1 * (by_ / p.2.2))
def P_l_whole_spots : PT3 := fun ds μ Φ => ∃ (l : Addr) (a b c d : Pl), ds = [.ref l] ∧ μ l = some (.lst [encP a, encP b, encP c, encP d]) ∧ GoodP a ∧ GoodP b ∧ GoodP c ∧ GoodP d ∧ ∀ (r : Addr) (g : Int) (sa sb sc sd : Int × Int), r ≠ l → μ r = none → 0 < g → ScP g a sa → ScP g b sb → ScP g c sc → ScP g d sd → (∀ s ∈ [sa, sb, sc, sd], Sz 20000 s.1 ∧ Sz 20000 s.2) → Φ (.ref r) (μ.set r (.lst [pt sa.1 sa.2, pt sb.1 sb.2, pt sc.1 sc.2, pt sd.1 sd.2]))
theorem len_l_whole_spots (ds : List D) (μ : M) (Φ : D → M → Prop) (h : P_l_whole_spots ds μ Φ) : ds.length = 1 := by
  obtain ⟨_, _, _, _, _, rfl, _⟩ := h
  rfl
theorem sp1_sc {g : Int} {p : Pl} (hp : GoodP p) (d1 : p.1.2 ∣ g) (d2 : p.2.2 ∣ g) : ScP g p (sp1 g p) := by
  have e1 := Int.ediv_mul_cancel d1
  have e2 := Int.ediv_mul_cancel d2
  unfold sp1 ScP Sc
  constructor
  · show p.1.1 * (g / p.1.2) * p.1.2 = p.1.1 * g
    rw [Int.mul_assoc, e1]
  · show p.2.1 * (g / p.2.2) * p.2.2 = p.2.1 * g
    rw [Int.mul_assoc, e2]
theorem sp1_sz {g : Int} {p : Pl} {n : Nat} (hp : GoodP p) (hg : 0 < g) (s : Sz n g) (l : n ≤ 17000) : Sz 20000 (sp1 g p).1 ∧ Sz 20000 (sp1 g p).2 :=
  ⟨sz_mono (sz_mul hp.x.s1 (sz_dvd hp.x.pos hg s)) (by omega), sz_mono (sz_mul hp.y.s1 (sz_dvd hp.y.pos hg s)) (by omega)⟩
theorem get4 {a b c d : Pl} {i : Nat} {x : D} (h : [encP a, encP b, encP c, encP d][i]? = some x) : i < 4 ∧ ∃ p ∈ [a, b, c, d], [a, b, c, d][i]? = some p ∧ x = encP p := by
  have hi : i < 4 := by
    have := (List.getElem?_eq_some_iff.mp h).1
    simpa using this
  have h' : i = 0 ∨ i = 1 ∨ i = 2 ∨ i = 3 := by omega
  rcases h' with e | e | e | e <;> subst e <;> cases h
  · exact ⟨hi, a, by simp, rfl, rfl⟩
  · exact ⟨hi, b, by simp, rfl, rfl⟩
  · exact ⟨hi, c, by simp, rfl, rfl⟩
  · exact ⟨hi, d, by simp, rfl, rfl⟩
theorem ok_l_whole_spots {f : Addr} {fd : FuncData} (F : Fun K "_law_whole_spots" "_law_whole_spots" s_l_whole_spots f fd) (B : Bs mg) : FnOk P w K mg base CX0 2 f fd ["_law_places"] (spI K P_l_whole_spots) := by
  refine F.ok sc_l_whole_spots (fun vs H Q E h => spI_len h len_l_whole_spots) (fun cdv A outer s H vs Q E hr h => ?_)
  have hu65 := hu65_of hr
  refine ⟨_, (pss_cons (ps_set (i := 1) sc_l_whole_spots.nd rfl (by first | exact Or.inl rfl | exact Or.inr rfl) pe_int)
      (pss_cons (ps_for PassesOwn.never rfl (pi_listK (K := K) rfl (pv 0)) (pg_name (i := 2) sc_l_whole_spots.nd rfl (by first | exact Or.inl rfl | exact Or.inr rfl))
      (pss_one (ps_set (i := 1) sc_l_whole_spots.nd rfl (by first | exact Or.inl rfl | exact Or.inr rfl) (pe_op op_mulW (pe_op op_mulW (pv 1) (pe_ix (ix_seqK (K := K) rfl) (pe_ix (ix_seqK (K := K) rfl) (pv 2) pe_int (fun _ _ => rfl)) pe_int (fun _ _ => rfl))) (pe_ix (ix_seqK (K := K) rfl) (pe_ix (ix_seqK (K := K) rfl) (pv 2) pe_int (fun _ _ => rfl)) pe_int (fun _ _ => rfl))))))
      (pss_one (ps_ret (pe_lc (own := [("_law_x", 3), ("_law_y", 4)]) (g := gTup K 2 (gCons (gName 3) (gCons (gName 4) gNil))) (tt := tYes) rfl sc_l_whole_spots.nd (pi_listK (K := K) rfl (pv 0)) (blkOk_by (own := [("_law_x", 3), ("_law_y", 4)]) (N := N_l_whole_spots) (sc := defScope s_l_whole_spots) (by decide +kernel)) (fun _ _ _ _ _ => (pg_tup (by rfl) (pgs_cons (pg_name (i := 3) sc_l_whole_spots.nd rfl (by first | exact Or.inl rfl | exact Or.inr rfl)) (pgs_cons (pg_name (i := 4) sc_l_whole_spots.nd rfl (by first | exact Or.inl rfl | exact Or.inr rfl)) pgs_nil)))) (fun _ _ _ _ _ => pts_nil) (fun _ _ _ _ _ => (pe_tup (pa_cons (pe_op op_mulW (pe_ix (ix_seqK (K := K) rfl) (pv 3) pe_int (fun _ _ => rfl)) (pe_op op_fdivW (pv 1) (pe_ix (ix_seqK (K := K) rfl) (pv 3) pe_int (fun _ _ => rfl)))) (pa_cons (pe_op op_mulW (pe_ix (ix_seqK (K := K) rfl) (pv 4) pe_int (fun _ _ => rfl)) (pe_op op_fdivW (pv 1) (pe_ix (ix_seqK (K := K) rfl) (pv 4) pe_int (fun _ _ => rfl)))) pa_nil))))))))), body_ok h (fun ds μ Φ p => ?_)⟩
  (try dsimp only [cxOf, Cx.nox, Cx.wish, List.map_cons, List.map_nil])
  obtain ⟨l, a, b, c, d, rfl, hl, ha, hb, hc, hd, q⟩ := p
  show AS K _ [some _, none, none, none, none] _ _
  have good : ∀ p ∈ [a, b, c, d], GoodP p := by
    intro p hp
    simp only [List.mem_cons, List.not_mem_nil, or_false] at hp
    rcases hp with rfl | rfl | rfl | rfl <;> assumption
  walk_at "go"
  refine s_for (ai_L ?_)
  walk_at "go"
  refine ⟨l, _, rfl, hl, ?_⟩
  refine ⟨fun i τ' μ' => ∃ (g : Int) (o : Option D), 0 < g ∧ Sz (4000 * i + 2) g ∧ (∀ p ∈ [a, b, c, d].take i, p.1.2 ∣ g ∧ p.2.2 ∣ g) ∧ μ' = μ.del l ∧ τ' = [some (.ref l), some (.int g), o, none, none], ⟨1, _, by decide, by decide, by simp, rfl, rfl⟩, ?_, ?_⟩
  · rintro i x τ' μ' hx ⟨g, o, g0, gs, gd, rfl, rfl⟩
    obtain ⟨hi, p, hp, hpi, rfl⟩ := get4 hx
    obtain ⟨⟨x0, x1, x2⟩, ⟨y0, y1, y2⟩⟩ := good p hp
    walk_at "go"
    refine ⟨g * p.1.2 * p.2.2, _, Int.mul_pos (Int.mul_pos g0 x0) y0, sz_mono (sz_mul (sz_mul gs x2) y2) (by omega), ?_, rfl, rfl⟩
    intro r hr
    rw [List.take_add_one, hpi, List.mem_append] at hr
    rcases hr with hr | hr
    · obtain ⟨u1, u2⟩ := gd r hr
      exact ⟨Int.dvd_mul_of_dvd_left (Int.dvd_mul_of_dvd_left u1), Int.dvd_mul_of_dvd_left (Int.dvd_mul_of_dvd_left u2)⟩
    · simp only [Option.toList_some, List.mem_singleton] at hr
      subst hr
      exact ⟨Int.dvd_mul_of_dvd_left (Int.dvd_mul_left _ _), Int.dvd_mul_left _ _⟩
  · rintro τ' μ' ⟨g, o, g0, gs, gd, rfl, rfl⟩
    dsimp only
    have gs : Sz 16002 g := gs
    rw [del_set hl]
    walk_at "go"
    refine a_lc tg_2 (ai_L ?_)
    walk_at "go"
    refine ⟨l, _, rfl, hl, ?_⟩
    refine ⟨fun i acc μ' => acc = ([a, b, c, d].take i).map (fun p => pt (sp1 g p).1 (sp1 g p).2) ∧ μ' = μ.del l, ⟨rfl, rfl⟩, ?_, ?_⟩
    · rintro i x acc μ' hx ⟨rfl, rfl⟩
      obtain ⟨hi, p, hp, hpi, rfl⟩ := get4 hx
      obtain ⟨⟨x0, x1, x2⟩, ⟨y0, y1, y2⟩⟩ := good p hp
      refine ⟨_, ⟨rfl, rfl⟩, rfl, ?_⟩
      refine at_yes ?_
      rw [if_pos rfl]
      walk_at "nf"
      have zx := sz_dvd x0 g0 gs
      have zy := sz_dvd y0 g0 gs
      have cx : CDivW g p.1.2 := divw_of x0 x2 (by decide)
      have cy : CDivW g p.2.2 := divw_of y0 y2 (by decide)
      walk_at "go"
      refine ⟨by rw [List.length_map, List.length_take]; exact Nat.lt_of_le_of_lt (Nat.min_le_right _ _) (show 4 < sizeLine by decide), ?_, rfl⟩
      rw [List.take_add_one, hpi, List.map_append]
      rfl
    · rintro acc μ' ⟨rfl, rfl⟩ r hr
      dsimp only at hr ⊢
      rw [del_set hl] at hr ⊢
      have all : ∀ p ∈ [a, b, c, d], ScP g p (sp1 g p) ∧ Sz 20000 (sp1 g p).1 ∧ Sz 20000 (sp1 g p).2 := fun p hp => by
        have hq := gd p hp
        exact ⟨sp1_sc (good p hp) hq.1 hq.2, sp1_sz (good p hp) g0 gs (by decide)⟩
      refine q r g (sp1 g a) (sp1 g b) (sp1 g c) (sp1 g d) (ne_of_some hr hl) hr g0 (all a (by simp)).1 (all b (by simp)).1 (all c (by simp)).1 (all d (by simp)).1 ?_
      intro s hs
      simp only [List.mem_cons, List.not_mem_nil, or_false] at hs
      rcases hs with rfl | rfl | rfl | rfl
      · exact (all a (by simp)).2
      · exact (all b (by simp)).2
      · exact (all c (by simp)).2
      · exact (all d (by simp)).2
theorem use_spots {μ : M} {Φ : D → M → Prop} {l : Addr} {a b c d : Pl} (hl : μ l = some (.lst [encP a, encP b, encP c, encP d])) (ha : GoodP a) (hb : GoodP b) (hc : GoodP c) (hd : GoodP d) (q : ∀ (r : Addr) (g : Int) (sa sb sc sd : Int × Int), r ≠ l → μ r = none → 0 < g → ScP g a sa → ScP g b sb → ScP g c sc → ScP g d sd → (∀ s ∈ [sa, sb, sc, sd], Sz 20000 s.1 ∧ Sz 20000 s.2) → Φ (.ref r) (μ.set r (.lst [pt sa.1 sa.2, pt sb.1 sb.2, pt sc.1 sc.2, pt sd.1 sd.2]))) : P_l_whole_spots [.ref l] μ Φ := ⟨l, a, b, c, d, rfl, hl, ha, hb, hc, hd, q⟩
theorem use_bag {μ : M} {Φ : D → M → Prop} {ns : List Int} {k : Int} (h0 : 0 ≤ k) (h1 : k ≤ 1000) (q : ∀ p c m, μ p = none → BgOk m → Φ (.ref p) (μ.set p (.lst [.int c, .int m]))) : P_l_bag [.rol (ns.map D.int), .int k] μ Φ := ⟨ns, k, rfl, h0, h1, q⟩
theorem ok_law {f : Addr} {fd : FuncData} (F : Fun K "law" "law" s_law f fd) (B : Bs mg) (G_l_bag : Def P w K mg base "_law_bag" ["_law_script", "_law_at"] 2 (spI K P_l_bag)) (G_l_four : Def P w K mg base "_law_four" ["_law_bag_here"] 4 (spI K P_l_four)) (G_l_meet : Def P w K mg base "_law_meet" ["_law_a", "_law_b", "_law_c", "_law_d"] 3 (spI K P_l_meet)) (G_l_whole_spots : Def P w K mg base "_law_whole_spots" ["_law_places"] 2 (spI K P_l_whole_spots)) (G_touch : Def P w K mg base "touch" ["a", "b", "c", "d"] 3 (spI K P_touch)) : FnOk P w K mg base CX0 5 f fd ["_law_script"] (spI K P_law) := by
  refine F.ok sc_law (fun vs H Q E h => spI_len h len_law) (fun cdv A outer s H vs Q E hr h => ?_)
  have hu65 := hu65_of hr
  refine ⟨_, (pss_cons (ps_for PassesOwn.never rfl (pi_range1 (by rfl) B.b_range (pa_cons (pe_op op_add pe_int (pe_callB (call_min2 rfl) (by rfl) B.b_min (by decide +kernel) (pa_cons pe_int (pa_cons (pe_callB (call_lenK (K := K) rfl) (by rfl) B.b_len (by decide +kernel) (pa_cons (pv 0) pa_nil)) pa_nil)))) pa_nil)) (pg_name (i := 1) sc_law.nd rfl (by first | exact Or.inl rfl | exact Or.inr rfl))
      (pss_cons (ps_set (i := 2) sc_law.nd rfl (by first | exact Or.inl rfl | exact Or.inr rfl) (pe_def G_l_bag (hr.mono (by decide)) (by rfl) (pa_cons (pv 0) (pa_cons (pv 1) pa_nil))))
      (pss_cons (ps_asg (pe_def G_l_four (hr.mono (by decide)) (by rfl) (pa_cons (pv 2) pa_nil)) (pg_tup (by rfl) (pgs_cons (pg_name (i := 3) sc_law.nd rfl (by first | exact Or.inl rfl | exact Or.inr rfl)) (pgs_cons (pg_name (i := 4) sc_law.nd rfl (by first | exact Or.inl rfl | exact Or.inr rfl)) (pgs_cons (pg_name (i := 5) sc_law.nd rfl (by first | exact Or.inl rfl | exact Or.inr rfl)) (pgs_cons (pg_name (i := 6) sc_law.nd rfl (by first | exact Or.inl rfl | exact Or.inr rfl)) pgs_nil))))))
      (pss_cons (ps_set (i := 7) sc_law.nd rfl (by first | exact Or.inl rfl | exact Or.inr rfl) (pe_def G_l_whole_spots (hr.mono (by decide)) (by rfl) (pa_cons (pe_lst (pa_cons (pv 3) (pa_cons (pv 4) (pa_cons (pv 5) (pa_cons (pv 6) pa_nil))))) pa_nil)))
      (pss_cons (ps_set (i := 8) sc_law.nd rfl (by first | exact Or.inl rfl | exact Or.inr rfl) (pe_def G_l_meet (hr.mono (by decide)) (by rfl) (pa_cons (pe_ix (ix_seqK (K := K) rfl) (pv 7) pe_int (fun _ _ => rfl)) (pa_cons (pe_ix (ix_seqK (K := K) rfl) (pv 7) pe_int (fun _ _ => rfl)) (pa_cons (pe_ix (ix_seqK (K := K) rfl) (pv 7) pe_int (fun _ _ => rfl)) (pa_cons (pe_ix (ix_seqK (K := K) rfl) (pv 7) pe_int (fun _ _ => rfl)) pa_nil))))))
      (pss_cons (ps_for PassesOwn.never rfl (pi_listK (K := K) rfl (pe_lst (pa_cons (pe_def G_touch (hr.mono (by decide)) (by rfl) (pa_cons (pv 3) (pa_cons (pv 4) (pa_cons (pv 5) (pa_cons (pv 6) pa_nil))))) (pa_cons (pe_def G_touch (hr.mono (by decide)) (by rfl) (pa_cons (pv 5) (pa_cons (pv 6) (pa_cons (pv 3) (pa_cons (pv 4) pa_nil))))) (pa_cons (pe_def G_touch (hr.mono (by decide)) (by rfl) (pa_cons (pv 4) (pa_cons (pv 3) (pa_cons (pv 5) (pa_cons (pv 6) pa_nil))))) (pa_cons (pe_def G_touch (hr.mono (by decide)) (by rfl) (pa_cons (pv 3) (pa_cons (pv 4) (pa_cons (pv 6) (pa_cons (pv 5) pa_nil))))) pa_nil)))))) (pg_name (i := 9) sc_law.nd rfl (by first | exact Or.inl rfl | exact Or.inr rfl))
      (pss_one (ps_if (PW.pt (pw_or (pt_not (pt_val (pe_callB (call_isiK1 (K := K) rfl) (by rfl) B.b_isinstance (by decide +kernel) (pa_cons (pv 9) (pa_cons (pe_bltn (v := .ty "bool") (by rfl) B.b_bool (by decide +kernel) rfl) pa_nil))))) (pw_or1 (pt_cmpR op_ne (pv 9) (pv 8) (by first | exact nomark _ | rfl))))) (pss_one (ps_ret pe_bl)) pss_nil)))
      (pss_one (ps_if (PW.pt (pw_or (pt_cmpR op_notBl (pe_def G_touch (hr.mono (by decide)) (by rfl) (pa_cons (pv 3) (pa_cons (pv 4) (pa_cons (pv 3) (pa_cons (pv 4) pa_nil))))) pe_bl (by first | exact nomark _ | rfl)) (pw_or (pt_cmpR op_notBl (pe_def G_touch (hr.mono (by decide)) (by rfl) (pa_cons (pv 3) (pa_cons (pv 3) (pa_cons (pv 3) (pa_cons (pv 4) pa_nil))))) pe_bl (by first | exact nomark _ | rfl)) (pw_or1 (pt_cmpR op_notBl (pe_def G_touch (hr.mono (by decide)) (by rfl) (pa_cons (pv 5) (pa_cons (pv 6) (pa_cons (pv 6) (pa_cons (pv 6) pa_nil))))) pe_bl (by first | exact nomark _ | rfl)))))) (pss_one (ps_ret pe_bl)) pss_nil))))))))
      (pss_one (ps_ret pe_bl))), body_ok h (fun ds μ Φ p => ?_)⟩
  (try dsimp only [cxOf, Cx.nox, Cx.wish, List.map_cons, List.map_nil])
  obtain ⟨ns, rfl, hl, q⟩ := p
  show AS K _ [some _, none, none, none, none, none, none, none, none, none] _ _
  walk_at "go"
  refine s_for1 (1 + if ((ns.map D.int).length : Int) < 6 then ((ns.map D.int).length : Int) else 6) (fun i τ' μ' => ∃ o1 o2 o3 o4 o5 o6 o7 o8 o9 : Option D, τ' = [some (.rol (ns.map D.int)), o1, o2, o3, o4, o5, o6, o7, o8, o9]) ?h ?hs ?hd
  case h =>
    walk_at "go"
    refine ⟨rfl, ?_, ?_, ?_⟩
    · split <;> omega
    · split <;> omega
    · exact ⟨_, _, _, _, _, _, _, _, _, rfl⟩
  case hd =>
    rintro τ' μ' ⟨o1, o2, o3, o4, o5, o6, o7, o8, o9, rfl⟩
    walk_at "go"
    exact q _
  case hs =>
    rintro i τ' μ' hi ⟨o1, o2, o3, o4, o5, o6, o7, o8, o9, rfl⟩
    have hi6 : (i : Int) ≤ 6 := by split at hi <;> omega
    walk_at "go"
    refine use_bag (by omega) (by omega) fun bg c m hbn hm => ?_
    walk_at "go"
    refine use_four set_same hm fun a b c d c1 m1 xa xb xc xd hm1 => ?_
    have ha := xa.good (by decide)
    have hb := xb.good (by decide)
    have hc := xc.good (by decide)
    have hd := xd.good (by decide)
    walk_at "go"
    intro l hl
    walk_at "go"
    refine use_spots set_same ha hb hc hd fun r g sa sb sc sd hrl hr hg za zb zc zd hsz => ?_
    have h1 := hsz sa (by simp)
    have h2 := hsz sb (by simp)
    have h3 := hsz sc (by simp)
    have h4 := hsz sd (by simp)
    walk_at "go"
    refine use_l_meet h1.1 h1.2 h2.1 h2.2 h3.1 h3.2 h4.1 h4.2 ?_
    have e1 : tch a b c d = decide (MeetP sa sb sc sd) := tch_meet hg ha hb hc hd za zb zc zd
    have e2 : tch c d a b = decide (MeetP sa sb sc sd) := (tch_meet hg hc hd ha hb zc zd za zb).trans (decide_eq_decide.mpr (meet_sw sa sb sc sd))
    have e3 : tch b a c d = decide (MeetP sa sb sc sd) := (tch_meet hg hb ha hc hd zb za zc zd).trans (decide_eq_decide.mpr (meet_sw1 sa sb sc sd))
    have e4 : tch a b d c = decide (MeetP sa sb sc sd) := (tch_meet hg ha hb hd hc za zb zd zc).trans (decide_eq_decide.mpr (meet_sw2 sa sb sc sd))
    have e5 : tch a b a b = true := (tch_meet hg ha hb ha hb za zb za zb).trans (decide_eq_true (.inl (lies_end sa sb)))
    have e6 : tch a a a b = true := (tch_meet hg ha ha ha hb za za za zb).trans (decide_eq_true (.inl (lies_end sa sa)))
    have e7 : tch c d d d = true := (tch_meet hg hc hd hd hd zc zd zd zd).trans (decide_eq_true (.inl (lies_end2 sc sd)))
    generalize decide (MeetP sa sb sc sd) = due at *
    walk_at "go"
    refine s_for (ai_L ?_)
    walk_at "go"
    refine use_touch ha hb hc hd ?_
    walk_at "go"
    refine use_touch hc hd ha hb ?_
    walk_at "go"
    refine use_touch hb ha hc hd ?_
    walk_at "go"
    refine use_touch ha hb hd hc ?_
    walk_at "go"
    intro v hv
    rw [e1, e2, e3, e4]
    refine ⟨v, _, rfl, set_same, ?_⟩
    generalize (M.set _ v (MO.lst [D.bl due, D.bl due, D.bl due, D.bl due])) = μv
    refine ⟨fun i τ' μ' => ∃ o : Option D, τ' = [some (.rol (ns.map D.int)), some (.int _), some (.ref bg), some (encP a), some (encP b), some (encP c), some (encP d), some (.ref r), some (.bl due), o], ⟨_, rfl⟩, ?_, ?_⟩
    · rintro i x τ' μ' hx ⟨o, rfl⟩
      have ex : x = .bl due := by
        have := List.mem_of_getElem? hx
        simpa using this
      subst ex
      walk_at "go"
      refine ite_nd (fun h => absurd rfl h) (fun _ => ?_)
      walk_at "go"
      exact ⟨_, rfl⟩
    · rintro τ' μ' ⟨o, rfl⟩
      dsimp only
      walk_at "go"
      refine use_touch ha hb ha hb ?_
      rw [e5]
      walk_at "go"
      refine ite_nd (fun h => absurd rfl h) (fun _ => ?_)
      walk_at "go"
      refine use_touch ha ha ha hb ?_
      rw [e6]
      walk_at "go"
      refine ite_nd (fun h => absurd rfl h) (fun _ => ?_)
      walk_at "go"
      refine use_touch hc hd hd hd ?_
      rw [e7]
      walk_at "go"
      refine ite_nd (fun h => absurd rfl h) (fun _ => ?_)
      walk_at "go"
      exact ⟨_, _, _, _, _, _, _, _, _, rfl⟩
end
theorem all_mk {l : PySem.W.OpenLaw} {w : World} {K : PySem.W.Frag} {h : Heap} {mg : Str → Option Value} {fa : Addr} (X : K.In h) (G : h.Ns mainGlobals mg) (hfa : mg "law" = some (.ref fa))
    {f1 f2 f3 f4 f5 f6 f7 f8 f9 f10 f11 f12 f13 f14 f15 f16 f17 f18 f19 : Addr}
    {od1 an1 od2 an2 od3 an3 od4 an4 od5 an5 od6 an6 od7 an7 od8 an8 od9 an9 od10 an10 od11 an11 od12 an12 od13 an13 od14 an14 od15 an15 od16 an16 od17 an17 od18 an18 od19 an19 : Option Addr}
    {sl1 sl2 sl3 sl4 sl5 sl6 sl7 sl8 sl9 sl10 sl11 sl12 sl13 sl14 sl15 sl16 sl17 sl18 sl19 : Array (Option Value)}
    {oc1 kV1 dc1 pm1 cd1 ct1 oc2 kV2 dc2 pm2 cd2 ct2 oc3 kV3 dc3 pm3 cd3 ct3 oc4 kV4 dc4 pm4 cd4 ct4 oc5 kV5 dc5 pm5 cd5 ct5 oc6 kV6 dc6 pm6 cd6 ct6 oc7 kV7 dc7 pm7 cd7 ct7 oc8 kV8 dc8 pm8 cd8 ct8 oc9 kV9 dc9 pm9 cd9 ct9 oc10 kV10 dc10 pm10 cd10 ct10 oc11 kV11 dc11 pm11 cd11 ct11 oc12 kV12 dc12 pm12 cd12 ct12 oc13 kV13 dc13 pm13 cd13 ct13 oc14 kV14 dc14 pm14 cd14 ct14 oc15 kV15 dc15 pm15 cd15 ct15 oc16 kV16 dc16 pm16 cd16 ct16 oc17 kV17 dc17 pm17 cd17 ct17 oc18 kV18 dc18 pm18 cd18 ct18 oc19 kV19 dc19 pm19 cd19 ct19 : Value}
    (a1 : PySem.W.nsIn K mainGlobals "sign_of" = some (some (.ref f1)))
    (l1 : K.lookup f1 = some ⟨oc1, od1, .func (PySem.W.fnOf "sign_of" "sign_of" (defArgs s_sign_of) (defBody s_sign_of) (defScope s_sign_of) .none kV1 dc1 pm1 an1 cd1 ct1), sl1⟩)
    (c1 : PySem.W.codeIn K cd1 "sign_of" = true)
    (k1 : PySem.W.keepIn K (.ref f1) = true)
    (a2 : PySem.W.nsIn K mainGlobals "less" = some (some (.ref f2)))
    (l2 : K.lookup f2 = some ⟨oc2, od2, .func (PySem.W.fnOf "less" "less" (defArgs s_less) (defBody s_less) (defScope s_less) .none kV2 dc2 pm2 an2 cd2 ct2), sl2⟩)
    (c2 : PySem.W.codeIn K cd2 "less" = true)
    (k2 : PySem.W.keepIn K (.ref f2) = true)
    (a3 : PySem.W.nsIn K mainGlobals "place_side" = some (some (.ref f3)))
    (l3 : K.lookup f3 = some ⟨oc3, od3, .func (PySem.W.fnOf "place_side" "place_side" (defArgs s_place_side) (defBody s_place_side) (defScope s_place_side) .none kV3 dc3 pm3 an3 cd3 ct3), sl3⟩)
    (c3 : PySem.W.codeIn K cd3 "place_side" = true)
    (k3 : PySem.W.keepIn K (.ref f3) = true)
    (a4 : PySem.W.nsIn K mainGlobals "is_least" = some (some (.ref f4)))
    (l4 : K.lookup f4 = some ⟨oc4, od4, .func (PySem.W.fnOf "is_least" "is_least" (defArgs s_is_least) (defBody s_is_least) (defScope s_is_least) .none kV4 dc4 pm4 an4 cd4 ct4), sl4⟩)
    (c4 : PySem.W.codeIn K cd4 "is_least" = true)
    (k4 : PySem.W.keepIn K (.ref f4) = true)
    (a5 : PySem.W.nsIn K mainGlobals "overlap" = some (some (.ref f5)))
    (l5 : K.lookup f5 = some ⟨oc5, od5, .func (PySem.W.fnOf "overlap" "overlap" (defArgs s_overlap) (defBody s_overlap) (defScope s_overlap) .none kV5 dc5 pm5 an5 cd5 ct5), sl5⟩)
    (c5 : PySem.W.codeIn K cd5 "overlap" = true)
    (k5 : PySem.W.keepIn K (.ref f5) = true)
    (a6 : PySem.W.nsIn K mainGlobals "touch" = some (some (.ref f6)))
    (l6 : K.lookup f6 = some ⟨oc6, od6, .func (PySem.W.fnOf "touch" "touch" (defArgs s_touch) (defBody s_touch) (defScope s_touch) .none kV6 dc6 pm6 an6 cd6 ct6), sl6⟩)
    (c6 : PySem.W.codeIn K cd6 "touch" = true)
    (k6 : PySem.W.keepIn K (.ref f6) = true)
    (a7 : PySem.W.nsIn K mainGlobals "_law_cell_at" = some (some (.ref f7)))
    (l7 : K.lookup f7 = some ⟨oc7, od7, .func (PySem.W.fnOf "_law_cell_at" "_law_cell_at" (defArgs s_l_cell_at) (defBody s_l_cell_at) (defScope s_l_cell_at) .none kV7 dc7 pm7 an7 cd7 ct7), sl7⟩)
    (c7 : PySem.W.codeIn K cd7 "_law_cell_at" = true)
    (k7 : PySem.W.keepIn K (.ref f7) = true)
    (a8 : PySem.W.nsIn K mainGlobals "_law_bag" = some (some (.ref f8)))
    (l8 : K.lookup f8 = some ⟨oc8, od8, .func (PySem.W.fnOf "_law_bag" "_law_bag" (defArgs s_l_bag) (defBody s_l_bag) (defScope s_l_bag) .none kV8 dc8 pm8 an8 cd8 ct8), sl8⟩)
    (c8 : PySem.W.codeIn K cd8 "_law_bag" = true)
    (k8 : PySem.W.keepIn K (.ref f8) = true)
    (a9 : PySem.W.nsIn K mainGlobals "_law_take" = some (some (.ref f9)))
    (l9 : K.lookup f9 = some ⟨oc9, od9, .func (PySem.W.fnOf "_law_take" "_law_take" (defArgs s_l_take) (defBody s_l_take) (defScope s_l_take) .none kV9 dc9 pm9 an9 cd9 ct9), sl9⟩)
    (c9 : PySem.W.codeIn K cd9 "_law_take" = true)
    (k9 : PySem.W.keepIn K (.ref f9) = true)
    (a10 : PySem.W.nsIn K mainGlobals "_law_side" = some (some (.ref f10)))
    (l10 : K.lookup f10 = some ⟨oc10, od10, .func (PySem.W.fnOf "_law_side" "_law_side" (defArgs s_l_side) (defBody s_l_side) (defScope s_l_side) .none kV10 dc10 pm10 an10 cd10 ct10), sl10⟩)
    (c10 : PySem.W.codeIn K cd10 "_law_side" = true)
    (k10 : PySem.W.keepIn K (.ref f10) = true)
    (a11 : PySem.W.nsIn K mainGlobals "_law_lies" = some (some (.ref f11)))
    (l11 : K.lookup f11 = some ⟨oc11, od11, .func (PySem.W.fnOf "_law_lies" "_law_lies" (defArgs s_l_lies) (defBody s_l_lies) (defScope s_l_lies) .none kV11 dc11 pm11 an11 cd11 ct11), sl11⟩)
    (c11 : PySem.W.codeIn K cd11 "_law_lies" = true)
    (k11 : PySem.W.keepIn K (.ref f11) = true)
    (a12 : PySem.W.nsIn K mainGlobals "_law_meet" = some (some (.ref f12)))
    (l12 : K.lookup f12 = some ⟨oc12, od12, .func (PySem.W.fnOf "_law_meet" "_law_meet" (defArgs s_l_meet) (defBody s_l_meet) (defScope s_l_meet) .none kV12 dc12 pm12 an12 cd12 ct12), sl12⟩)
    (c12 : PySem.W.codeIn K cd12 "_law_meet" = true)
    (k12 : PySem.W.keepIn K (.ref f12) = true)
    (a13 : PySem.W.nsIn K mainGlobals "_law_low" = some (some (.ref f13)))
    (l13 : K.lookup f13 = some ⟨oc13, od13, .func (PySem.W.fnOf "_law_low" "_law_low" (defArgs s_l_low) (defBody s_l_low) (defScope s_l_low) .none kV13 dc13 pm13 an13 cd13 ct13), sl13⟩)
    (c13 : PySem.W.codeIn K cd13 "_law_low" = true)
    (k13 : PySem.W.keepIn K (.ref f13) = true)
    (a14 : PySem.W.nsIn K mainGlobals "_law_coordinate" = some (some (.ref f14)))
    (l14 : K.lookup f14 = some ⟨oc14, od14, .func (PySem.W.fnOf "_law_coordinate" "_law_coordinate" (defArgs s_l_coordinate) (defBody s_l_coordinate) (defScope s_l_coordinate) .none kV14 dc14 pm14 an14 cd14 ct14), sl14⟩)
    (c14 : PySem.W.codeIn K cd14 "_law_coordinate" = true)
    (k14 : PySem.W.keepIn K (.ref f14) = true)
    (a15 : PySem.W.nsIn K mainGlobals "_law_place" = some (some (.ref f15)))
    (l15 : K.lookup f15 = some ⟨oc15, od15, .func (PySem.W.fnOf "_law_place" "_law_place" (defArgs s_l_place) (defBody s_l_place) (defScope s_l_place) .none kV15 dc15 pm15 an15 cd15 ct15), sl15⟩)
    (c15 : PySem.W.codeIn K cd15 "_law_place" = true)
    (k15 : PySem.W.keepIn K (.ref f15) = true)
    (a16 : PySem.W.nsIn K mainGlobals "_law_mid" = some (some (.ref f16)))
    (l16 : K.lookup f16 = some ⟨oc16, od16, .func (PySem.W.fnOf "_law_mid" "_law_mid" (defArgs s_l_mid) (defBody s_l_mid) (defScope s_l_mid) .none kV16 dc16 pm16 an16 cd16 ct16), sl16⟩)
    (c16 : PySem.W.codeIn K cd16 "_law_mid" = true)
    (k16 : PySem.W.keepIn K (.ref f16) = true)
    (a17 : PySem.W.nsIn K mainGlobals "_law_four" = some (some (.ref f17)))
    (l17 : K.lookup f17 = some ⟨oc17, od17, .func (PySem.W.fnOf "_law_four" "_law_four" (defArgs s_l_four) (defBody s_l_four) (defScope s_l_four) .none kV17 dc17 pm17 an17 cd17 ct17), sl17⟩)
    (c17 : PySem.W.codeIn K cd17 "_law_four" = true)
    (k17 : PySem.W.keepIn K (.ref f17) = true)
    (a18 : PySem.W.nsIn K mainGlobals "_law_whole_spots" = some (some (.ref f18)))
    (l18 : K.lookup f18 = some ⟨oc18, od18, .func (PySem.W.fnOf "_law_whole_spots" "_law_whole_spots" (defArgs s_l_whole_spots) (defBody s_l_whole_spots) (defScope s_l_whole_spots) .none kV18 dc18 pm18 an18 cd18 ct18), sl18⟩)
    (c18 : PySem.W.codeIn K cd18 "_law_whole_spots" = true)
    (k18 : PySem.W.keepIn K (.ref f18) = true)
    (a19 : PySem.W.nsIn K mainGlobals "law" = some (some (.ref f19)))
    (l19 : K.lookup f19 = some ⟨oc19, od19, .func (PySem.W.fnOf "law" "law" (defArgs s_law) (defBody s_law) (defScope s_law) .none kV19 dc19 pm19 an19 cd19 ct19), sl19⟩)
    (c19 : PySem.W.codeIn K cd19 "law" = true)
    (k19 : PySem.W.keepIn K (.ref f19) = true)
    (z_abs : PySem.W.nsIn K mainGlobals "abs" = some none)
    (z_bool : PySem.W.nsIn K mainGlobals "bool" = some none)
    (z_int : PySem.W.nsIn K mainGlobals "int" = some none)
    (z_isinstance : PySem.W.nsIn K mainGlobals "isinstance" = some none)
    (z_len : PySem.W.nsIn K mainGlobals "len" = some none)
    (z_max : PySem.W.nsIn K mainGlobals "max" = some none)
    (z_min : PySem.W.nsIn K mainGlobals "min" = some none)
    (z_range : PySem.W.nsIn K mainGlobals "range" = some none)
    (z_zip : PySem.W.nsIn K mainGlobals "zip" = some none) :
    ∃ fd : FuncData, (∀ (s : Shared) (v : Value), BindsTo s fd ⟨[v], []⟩ [("_law_script", v)]) ∧ ∀ base : Heap, K.In base → base.Ns mainGlobals mg → FnOk l.prog w K mg base CX0 5 fa fd ["_law_script"] (spI K P_law) := by
  have e := hfa.symm.trans (PySem.W.mg_of X G a19)
  cases e
  have B : Bs mg := ⟨PySem.W.mg_none_of X G z_abs, PySem.W.mg_none_of X G z_bool, PySem.W.mg_none_of X G z_int, PySem.W.mg_none_of X G z_isinstance, PySem.W.mg_none_of X G z_len, PySem.W.mg_none_of X G z_max, PySem.W.mg_none_of X G z_min, PySem.W.mg_none_of X G z_range, PySem.W.mg_none_of X G z_zip⟩
  have F1 := fun_mk (st := s_sign_of) l1 c1 k1
  have F2 := fun_mk (st := s_less) l2 c2 k2
  have F3 := fun_mk (st := s_place_side) l3 c3 k3
  have F4 := fun_mk (st := s_is_least) l4 c4 k4
  have F5 := fun_mk (st := s_overlap) l5 c5 k5
  have F6 := fun_mk (st := s_touch) l6 c6 k6
  have F7 := fun_mk (st := s_l_cell_at) l7 c7 k7
  have F8 := fun_mk (st := s_l_bag) l8 c8 k8
  have F9 := fun_mk (st := s_l_take) l9 c9 k9
  have F10 := fun_mk (st := s_l_side) l10 c10 k10
  have F11 := fun_mk (st := s_l_lies) l11 c11 k11
  have F12 := fun_mk (st := s_l_meet) l12 c12 k12
  have F13 := fun_mk (st := s_l_low) l13 c13 k13
  have F14 := fun_mk (st := s_l_coordinate) l14 c14 k14
  have F15 := fun_mk (st := s_l_place) l15 c15 k15
  have F16 := fun_mk (st := s_l_mid) l16 c16 k16
  have F17 := fun_mk (st := s_l_four) l17 c17 k17
  have F18 := fun_mk (st := s_l_whole_spots) l18 c18 k18
  have F19 := fun_mk (st := s_law) l19 c19 k19
  refine ⟨PySem.W.fnOf "law" "law" (defArgs s_law) (defBody s_law) (defScope s_law) .none kV19 dc19 pm19 an19 cd19 ct19, fun s v => .of_eq rfl, fun base _ _ => ?_⟩
  have b1 := F1.binds (ps := ["number"]) fun _ _ _ _ _ _ us hl => match us, hl with | [_], _ => rfl
  have G1 : Def l.prog w K mg base "sign_of" ["number"] 1 (spI K P_sign_of) := ⟨f1, _, ok_sign_of F1 B, PySem.W.mg_of X G a1, k1, b1⟩
  have b2 := F2.binds (ps := ["one", "other"]) fun _ _ _ _ _ _ us hl => match us, hl with | [_, _], _ => rfl
  have G2 : Def l.prog w K mg base "less" ["one", "other"] 1 (spI K P_less) := ⟨f2, _, ok_less F2 B, PySem.W.mg_of X G a2, k2, b2⟩
  have b3 := F3.binds (ps := ["a", "b", "c"]) fun _ _ _ _ _ _ us hl => match us, hl with | [_, _, _], _ => rfl
  have G3 : Def l.prog w K mg base "place_side" ["a", "b", "c"] 2 (spI K P_place_side) := ⟨f3, _, ok_place_side F3 B G2 G1, PySem.W.mg_of X G a3, k3, b3⟩
  have b4 := F4.binds (ps := ["one", "other"]) fun _ _ _ _ _ _ us hl => match us, hl with | [_, _], _ => rfl
  have G4 : Def l.prog w K mg base "is_least" ["one", "other"] 1 (spI K P_is_least) := ⟨f4, _, ok_is_least F4 B, PySem.W.mg_of X G a4, k4, b4⟩
  have b5 := F5.binds (ps := ["a", "b", "c", "d"]) fun _ _ _ _ _ _ us hl => match us, hl with | [_, _, _, _], _ => rfl
  have G5 : Def l.prog w K mg base "overlap" ["a", "b", "c", "d"] 2 (spI K P_overlap) := ⟨f5, _, ok_overlap F5 B G4, PySem.W.mg_of X G a5, k5, b5⟩
  have b6 := F6.binds (ps := ["a", "b", "c", "d"]) fun _ _ _ _ _ _ us hl => match us, hl with | [_, _, _, _], _ => rfl
  have G6 : Def l.prog w K mg base "touch" ["a", "b", "c", "d"] 3 (spI K P_touch) := ⟨f6, _, ok_touch F6 B G5 G3, PySem.W.mg_of X G a6, k6, b6⟩
  have b7 := F7.binds (ps := ["_law_script", "_law_k"]) fun _ _ _ _ _ _ us hl => match us, hl with | [_, _], _ => rfl
  have G7 : Def l.prog w K mg base "_law_cell_at" ["_law_script", "_law_k"] 1 (spI K P_l_cell_at) := ⟨f7, _, ok_l_cell_at F7 B, PySem.W.mg_of X G a7, k7, b7⟩
  have b8 := F8.binds (ps := ["_law_script", "_law_at"]) fun _ _ _ _ _ _ us hl => match us, hl with | [_, _], _ => rfl
  have G8 : Def l.prog w K mg base "_law_bag" ["_law_script", "_law_at"] 2 (spI K P_l_bag) := ⟨f8, _, ok_l_bag F8 B G7, PySem.W.mg_of X G a8, k8, b8⟩
  have b9 := F9.binds (ps := ["_law_bag_here", "_law_many"]) fun _ _ _ _ _ _ us hl => match us, hl with | [_, _], _ => rfl
  have G9 : Def l.prog w K mg base "_law_take" ["_law_bag_here", "_law_many"] 1 (spI K P_l_take) := ⟨f9, _, ok_l_take F9 B, PySem.W.mg_of X G a9, k9, b9⟩
  have b10 := F10.binds (ps := ["_law_a", "_law_b", "_law_c"]) fun _ _ _ _ _ _ us hl => match us, hl with | [_, _, _], _ => rfl
  have G10 : Def l.prog w K mg base "_law_side" ["_law_a", "_law_b", "_law_c"] 1 (spI K P_l_side) := ⟨f10, _, ok_l_side F10 B, PySem.W.mg_of X G a10, k10, b10⟩
  have b11 := F11.binds (ps := ["_law_a", "_law_b", "_law_c"]) fun _ _ _ _ _ _ us hl => match us, hl with | [_, _, _], _ => rfl
  have G11 : Def l.prog w K mg base "_law_lies" ["_law_a", "_law_b", "_law_c"] 2 (spI K P_l_lies) := ⟨f11, _, ok_l_lies F11 B G10, PySem.W.mg_of X G a11, k11, b11⟩
  have b12 := F12.binds (ps := ["_law_a", "_law_b", "_law_c", "_law_d"]) fun _ _ _ _ _ _ us hl => match us, hl with | [_, _, _, _], _ => rfl
  have G12 : Def l.prog w K mg base "_law_meet" ["_law_a", "_law_b", "_law_c", "_law_d"] 3 (spI K P_l_meet) := ⟨f12, _, ok_l_meet F12 B G11 G10, PySem.W.mg_of X G a12, k12, b12⟩
  have b13 := F13.binds (ps := ["_law_one", "_law_other"]) fun _ _ _ _ _ _ us hl => match us, hl with | [_, _], _ => rfl
  have G13 : Def l.prog w K mg base "_law_low" ["_law_one", "_law_other"] 1 (spI K P_l_low) := ⟨f13, _, ok_l_low F13 B, PySem.W.mg_of X G a13, k13, b13⟩
  have b14 := F14.binds (ps := ["_law_bag_here", "_law_most"]) fun _ _ _ _ _ _ us hl => match us, hl with | [_, _], _ => rfl
  have G14 : Def l.prog w K mg base "_law_coordinate" ["_law_bag_here", "_law_most"] 2 (spI K P_l_coordinate) := ⟨f14, _, ok_l_coordinate F14 B G13 G9, PySem.W.mg_of X G a14, k14, b14⟩
  have b15 := F15.binds (ps := ["_law_bag_here", "_law_most"]) fun _ _ _ _ _ _ us hl => match us, hl with | [_, _], _ => rfl
  have G15 : Def l.prog w K mg base "_law_place" ["_law_bag_here", "_law_most"] 3 (spI K P_l_place) := ⟨f15, _, ok_l_place F15 B G14, PySem.W.mg_of X G a15, k15, b15⟩
  have b16 := F16.binds (ps := ["_law_one", "_law_other", "_law_top", "_law_under"]) fun _ _ _ _ _ _ us hl => match us, hl with | [_, _, _, _], _ => rfl
  have G16 : Def l.prog w K mg base "_law_mid" ["_law_one", "_law_other", "_law_top", "_law_under"] 2 (spI K P_l_mid) := ⟨f16, _, ok_l_mid F16 B G13, PySem.W.mg_of X G a16, k16, b16⟩
  have b17 := F17.binds (ps := ["_law_bag_here"]) fun _ _ _ _ _ _ us hl => match us, hl with | [_], _ => rfl
  have G17 : Def l.prog w K mg base "_law_four" ["_law_bag_here"] 4 (spI K P_l_four) := ⟨f17, _, ok_l_four F17 B G16 G15 G9, PySem.W.mg_of X G a17, k17, b17⟩
  have b18 := F18.binds (ps := ["_law_places"]) fun _ _ _ _ _ _ us hl => match us, hl with | [_], _ => rfl
  have G18 : Def l.prog w K mg base "_law_whole_spots" ["_law_places"] 2 (spI K P_l_whole_spots) := ⟨f18, _, ok_l_whole_spots F18 B, PySem.W.mg_of X G a18, k18, b18⟩
  exact ok_law F19 B G8 G17 G12 G18 G6
theorem walk {l : PySem.W.OpenLaw} {q : Program} {loose : List Str} {XP : (Str → Option Value) → Heap → Prop} {YP : World → Heap → Prop} {d : DefRec} {K : Params → PySem.W.Frag} (hn : l.most = some 63) (hdf : d.params.defaults = [])
    (hY : ∀ (w : World) (h : Heap), YP w h → (K w.params).In h)
    (F : ∀ (w : World) (mg : Str → Option Value) (fa : Addr) (h : Heap), (K w.params).In h → h.Ns mainGlobals mg → mg d.name = some (.ref fa) →
      ∃ fd : FuncData, (∀ (s : Shared) (u : Value), BindsTo s fd ⟨[u], []⟩ [("_law_script", u)]) ∧ ∀ base : Heap, (K w.params).In base → base.Ns mainGlobals mg → FnOk l.prog w (K w.params) mg base CX0 5 fa fd ["_law_script"] (spI (K w.params) P_law)) :
    PySem.W.WalkO q loose XP YP l.row.toRowW d [] (fun f vs => PySem.call f vs) :=
  L2.walk_of (n := 63) (k := 5) (x := "_law_script") (CX := fun _ => CX0) (sp := fun w => spI (K w.params) P_law) hn (by decide) hdf ⟨rfl, by decide, by decide⟩ hY F (fun _ _ a ns hl hO hS => law_start hl hO hS) fun _ _ _ _ _ z => z
end W
open PySem PySem.W PyProof.Rows in
set_option maxRecDepth 100000 in
set_option maxHeartbeats 0 in
theorem PySem.Challenge.cw_rubberroutes_k03_pieces_touch_holds : PySem.Challenge.rw_rubberroutes_k03_pieces_touch.Holds := by
  w_on; o_law; k_head; (case hw => w_witness2)
  k_fill
  refine W.walk (l := PySem.Challenge.rw_rubberroutes_k03_pieces_touch) rfl rfl (fun w h Y => by first | exact PySem.W.kIn_of Y | exact PySem.W.km_in_of Y) ?F
  case F =>
    intro w mg fa h KX G hmg
    refine' W.all_mk KX G hmg ?a1 ?l1 ?c1 ?k1 ?a2 ?l2 ?c2 ?k2 ?a3 ?l3 ?c3 ?k3 ?a4 ?l4 ?c4 ?k4 ?a5 ?l5 ?c5 ?k5 ?a6 ?l6 ?c6 ?k6 ?a7 ?l7 ?c7 ?k7 ?a8 ?l8 ?c8 ?k8 ?a9 ?l9 ?c9 ?k9 ?a10 ?l10 ?c10 ?k10 ?a11 ?l11 ?c11 ?k11 ?a12 ?l12 ?c12 ?k12 ?a13 ?l13 ?c13 ?k13 ?a14 ?l14 ?c14 ?k14 ?a15 ?l15 ?c15 ?k15 ?a16 ?l16 ?c16 ?k16 ?a17 ?l17 ?c17 ?k17 ?a18 ?l18 ?c18 ?k18 ?a19 ?l19 ?c19 ?k19 ?z_abs ?z_bool ?z_int ?z_isinstance ?z_len ?z_max ?z_min ?z_range ?z_zip
    (case a1 => k_is)
    (case l1 => k_is)
    (case c1 => k_is)
    (case k1 => k_is)
    (case a2 => k_is)
    (case l2 => k_is)
    (case c2 => k_is)
    (case k2 => k_is)
    (case a3 => k_is)
    (case l3 => k_is)
    (case c3 => k_is)
    (case k3 => k_is)
    (case a4 => k_is)
    (case l4 => k_is)
    (case c4 => k_is)
    (case k4 => k_is)
    (case a5 => k_is)
    (case l5 => k_is)
    (case c5 => k_is)
    (case k5 => k_is)
    (case a6 => k_is)
    (case l6 => k_is)
    (case c6 => k_is)
    (case k6 => k_is)
    (case a7 => k_is)
    (case l7 => k_is)
    (case c7 => k_is)
    (case k7 => k_is)
    (case a8 => k_is)
    (case l8 => k_is)
    (case c8 => k_is)
    (case k8 => k_is)
    (case a9 => k_is)
    (case l9 => k_is)
    (case c9 => k_is)
    (case k9 => k_is)
    (case a10 => k_is)
    (case l10 => k_is)
    (case c10 => k_is)
    (case k10 => k_is)
    (case a11 => k_is)
    (case l11 => k_is)
    (case c11 => k_is)
    (case k11 => k_is)
    (case a12 => k_is)
    (case l12 => k_is)
    (case c12 => k_is)
    (case k12 => k_is)
    (case a13 => k_is)
    (case l13 => k_is)
    (case c13 => k_is)
    (case k13 => k_is)
    (case a14 => k_is)
    (case l14 => k_is)
    (case c14 => k_is)
    (case k14 => k_is)
    (case a15 => k_is)
    (case l15 => k_is)
    (case c15 => k_is)
    (case k15 => k_is)
    (case a16 => k_is)
    (case l16 => k_is)
    (case c16 => k_is)
    (case k16 => k_is)
    (case a17 => k_is)
    (case l17 => k_is)
    (case c17 => k_is)
    (case k17 => k_is)
    (case a18 => k_is)
    (case l18 => k_is)
    (case c18 => k_is)
    (case k18 => k_is)
    (case a19 => k_is)
    (case l19 => k_is)
    (case c19 => k_is)
    (case k19 => k_is)
    (case z_abs => k_is)
    (case z_bool => k_is)
    (case z_int => k_is)
    (case z_isinstance => k_is)
    (case z_len => k_is)
    (case z_max => k_is)
    (case z_min => k_is)
    (case z_range => k_is)
    (case z_zip => k_is)
