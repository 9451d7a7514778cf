import PyProof.Rows.All
import Wide.All
import OpenK.AllK
import Wide.FinOn
import HandS.ForMost
import HandS.Wide
import HandS.IsInst
import HandS.Deep
import HandS.Style
import HandS.Zip
import HandS.Defaults
import HandS.TryOnly
import HandS.Zip0
import KE.KDictZip
import KE.KItemsList
import HandS.ListItems
import HandS.TupAny
import HandS.ExcOwn
import HandS.Lambda
import PySem.Challenge.RW_rubberroutes_k02_sides_of_lines
set_option Elab.async false
set_option linter.all false
set_option maxRecDepth 100000
set_option maxHeartbeats 4000000
namespace Z
open PySem L2
inductive D where
  | non | bl (b : Bool) | int (i : Int) | str (s : Str) | ty (n : String) | tup (ds : List D) | rol (ds : List D) | ref (a : Addr)
inductive MO where
  | lst (ds : List D) | dK (kvs : List (Key × D)) | dT (kvs : List (List Key × D)) | ins (C dx : Addr) (fs : List (Str × D)) | xd (fs : List (Str × D)) | fT (od : Obj) (vs : List (List Key × V)) (kvs : List (List Key × D)) | fK (od : Obj) (vs : List (Key × V)) (kvs : List (Key × D)) | fTp (od : Obj) (ds : List D) | xo (od : Obj) (C : Addr) | tab (q : Str)
abbrev M := Addr → Option MO
def M.set (μ : M) (a : Addr) (m : MO) : M := fun b => if b = a then some m else μ b
theorem set_same {μ : M} {a : Addr} {m : MO} : μ.set a m a = some m := by unfold M.set; rw [if_pos rfl]
theorem set_ne {μ : M} {a b : Addr} {m : MO} (h : b ≠ a) : μ.set a m b = μ b := by unfold M.set; rw [if_neg h]
theorem set_set {μ : M} {a : Addr} {m m' : MO} : (μ.set a m).set a m' = μ.set a m' := by
  funext b; unfold M.set; split <;> rfl
inductive TupAt (K : PySem.W.Frag) (H : Hp) (a : Addr) (xs : List V) : Prop
  | inl (h : H a = some (.tup xs)) : TupAt K H a xs
def RolAt (K : PySem.W.Frag) (H : Hp) (a : Addr) (xs : List V) : Prop :=
  (∃ o, H a = some (.frz o (.lst xs))) ∨ ∃ (o : Obj) (its : Array Value) (n : Nat), K.lookup a = some o ∧ o.cls = .type "list" ∧ o.dict = none ∧ o.data = .seq its n ∧ its.size ≤ sizeLine ∧ Vals xs its.toList
theorem TupAt.sq {K : PySem.W.Frag} {H : Hp} {a : Addr} {xs : List V} (h : TupAt K H a xs) : SqT K H a xs := by
  cases h with
  | inl h => exact .inl (.inl h)
theorem RolAt.sq {K : PySem.W.Frag} {H : Hp} {a : Addr} {xs : List V} (h : RolAt K H a xs) : SqL K H a xs := by
  rcases h with ⟨o, h⟩ | h
  · exact .inl (.inr ⟨o, h⟩)
  · exact .inr h
mutual
inductive Rel (K : PySem.W.Frag) (H : Hp) : V → D → Prop
  | non : Rel K H .non .non
  | bl (b : Bool) : Rel K H (.bl b) (.bl b)
  | int (i : Int) : Rel K H (.int i) (.int i)
  | str (s : Str) : Rel K H (.str s) (.str s)
  | ty (n : String) : Rel K H (.ty n) (.ty n)
  | ref (a : Addr) : Rel K H (.ref a) (.ref a)
  | tup {a : Addr} {xs : List V} {ds : List D} : TupAt K H a xs → Rels K H xs ds → Rel K H (.ref a) (.tup ds)
  | rol {a : Addr} {xs : List V} {ds : List D} : RolAt K H a xs → Rels K H xs ds → Rel K H (.ref a) (.rol ds)
inductive Rels (K : PySem.W.Frag) (H : Hp) : List V → List D → Prop
  | nil : Rels K H [] []
  | cons {v : V} {vs : List V} {d : D} {ds : List D} : Rel K H v d → Rels K H vs ds → Rels K H (v :: vs) (d :: ds)
end
/-- field lists, pair lists -/
def RelKV {κ : Type} (K : PySem.W.Frag) (H : Hp) : List (κ × V) → List (κ × D) → Prop := Paired fun p q => p.1 = q.1 ∧ Rel K H p.2 q.2
def MRel (K : PySem.W.Frag) (H : Hp) (a : Addr) : MO → Prop
  | .lst ds => ∃ vs, H a = some (.lst vs) ∧ Rels K H vs ds
  | .dK kvs => ∃ vs, H a = some (.dK vs) ∧ RelKV K H vs kvs
  | .dT kvs => ∃ vs, H a = some (.dT vs) ∧ RelKV K H vs kvs
  | .ins C dx fs => ∃ vs, H a = some (.ins C dx vs) ∧ RelKV K H vs fs
  | .xd fs => ∃ vs, H a = some (.xd vs) ∧ RelKV K H vs fs
  | .fT od us kvs => ∃ vs, H a = some (.frz od (.dT vs)) ∧ RelKV K H vs kvs ∧ vs = us
  | .fK od us kvs => ∃ vs, H a = some (.frz od (.dK vs)) ∧ RelKV K H vs kvs ∧ vs = us
  | .fTp od ds => ∃ vs, H a = some (.frz od (.tup vs)) ∧ Rels K H vs ds ∧ od.dict = none
  | .xo od C => ∃ z : Addr, H a = some (.frz od (.own z)) ∧ od.cls = .ref C ∧ ∃ vs, od.data = .fields vs
  | .tab q => ∃ ps : Array Value, H a = some (.tbl ps) ∧ TriplesOk ps.toList ∧ ∀ (pos : Pos) (cv : Value), codeAmong pos ps.toList = some cv → ∃ c, cv = .ref c ∧ H c = some (LamX.CodeO c q)
def Con (K : PySem.W.Frag) (H : Hp) (μ : M) : Prop := ∀ a m, μ a = some m → MRel K H a m
abbrev T := List (Option D)
def Slots (K : PySem.W.Frag) (H : Hp) (τ : T) (σ : St) : Prop := τ.length = σ.length ∧ ∀ (i : Nat) (d : D), τ[i]? = some (some d) → ∃ v, σ[i]? = some (some v) ∧ Rel K H v d
/-- what is tracked outside of the store stays, and stays outside -/
def Fr (μ μ' : M) (H H' : Hp) : Prop := ∀ a o, μ a = none → H a = some o → H' a = some o ∧ μ' a = none
section
variable {K : PySem.W.Frag} {H H' H1 H2 : Hp} {μ μ' μ1 μ2 : M} {τ : T} {σ : St}
theorem Fr.refl : Fr μ μ H H := fun _ _ h e => ⟨e, h⟩
theorem Fr.trans (a : Fr μ μ1 H H1) (b : Fr μ1 μ2 H1 H2) : Fr μ μ2 H H2 := fun x o h e => let ⟨e1, h1⟩ := a x o h e; b x o h1 e1
theorem Con.tn (c : Con K H μ) {a : Addr} {xs : List V} (e : H a = some (.tup xs)) : μ a = none := by
  cases q : μ a with
  | none => rfl
  | some m =>
    have r := c a m q
    cases m <;> (obtain ⟨vs, h, _⟩ := r; rw [e] at h; cases h)
theorem Con.fn (c : Con K H μ) {a : Addr} {o : Obj} {u : List V} (e : H a = some (.frz o (.lst u))) : μ a = none := by
  cases q : μ a with
  | none => rfl
  | some m =>
    have r := c a m q
    cases m <;> (obtain ⟨vs, h, _⟩ := r; rw [e] at h; cases h)
theorem Con.free (c : Con K H μ) {a : Addr} (e : H a = none) : μ a = none := by
  cases q : μ a with
  | none => rfl
  | some m =>
    have r := c a m q
    cases m <;> (obtain ⟨vs, h, _⟩ := r; rw [e] at h; cases h)
/-- tuples and read-only lists stay -/
structure Tx (H H' : Hp) : Prop where
  t : ∀ a xs, H a = some (.tup xs) → H' a = some (.tup xs)
  l : ∀ a o xs, H a = some (.frz o (.lst xs)) → H' a = some (.frz o (.lst xs))
  c : ∀ a q, H a = some (LamX.CodeO a q) → H' a = some (LamX.CodeO a q)
theorem Con.cn (c : Con K H μ) {a : Addr} {q : Str} (e : H a = some (LamX.CodeO a q)) : μ a = none := by
  cases h : μ a with
  | none => rfl
  | some m =>
    have r := c a m h
    unfold LamX.CodeO at e
    cases m <;> (obtain ⟨vs, h, _⟩ := r; rw [e] at h; cases h)
theorem Tx.trans (a : Tx H H1) (b : Tx H1 H2) : Tx H H2 := ⟨fun x xs h => b.t x xs (a.t x xs h), fun x o xs h => b.l x o xs (a.l x o xs h), fun x q h => b.c x q (a.c x q h)⟩
theorem Fr.tx (f : Fr μ μ' H H') (c : Con K H μ) : Tx H H' := ⟨fun a xs e => (f a _ (c.tn e) e).1, fun a o xs e => (f a _ (c.fn e) e).1, fun a q e => (f a _ (c.cn e) e).1⟩
theorem TupAt.mono {a : Addr} {xs : List V} (t : Tx H H') (h : TupAt K H a xs) : TupAt K H' a xs := by
  cases h with
  | inl h => exact .inl (t.t _ _ h)
theorem RolAt.mono {a : Addr} {xs : List V} (t : Tx H H') (h : RolAt K H a xs) : RolAt K H' a xs := by
  rcases h with ⟨o, h⟩ | h
  · exact .inl ⟨o, t.l _ _ _ h⟩
  · exact .inr h
mutual
theorem Rel.mono (t : Tx H H') : ∀ (d : D) (v : V), Rel K H v d → Rel K H' v d
  | .non, _, .non => .non
  | .bl _, _, .bl b => .bl b
  | .int _, _, .int b => .int b
  | .str _, _, .str b => .str b
  | .ty _, _, .ty b => .ty b
  | .ref _, _, .ref b => .ref b
  | .tup ds, _, .tup h r => .tup (h.mono t) (Rels.mono t ds _ r)
  | .rol ds, _, .rol h r => .rol (h.mono t) (Rels.mono t ds _ r)
theorem Rels.mono (t : Tx H H') : ∀ (ds : List D) (vs : List V), Rels K H vs ds → Rels K H' vs ds
  | [], _, .nil => .nil
  | d :: ds, _, .cons a b => .cons (Rel.mono t d _ a) (Rels.mono t ds _ b)
end
theorem RelKV.mono {κ : Type} (t : Tx H H') : ∀ {xs : List (κ × V)} {ys : List (κ × D)}, RelKV K H xs ys → RelKV K H' xs ys
  | _, _, .nil => .nil
  | _, _, .cons a b => .cons ⟨a.1, Rel.mono t _ _ a.2⟩ (RelKV.mono t b)
theorem Slots.mono (t : Tx H H') (s : Slots K H τ σ) : Slots K H' τ σ := ⟨s.1, fun i d e => let ⟨v, h, r⟩ := s.2 i d e; ⟨v, h, Rel.mono t d v r⟩⟩
theorem Rels.length : ∀ {vs : List V} {ds : List D}, Rels K H vs ds → vs.length = ds.length
  | _, _, .nil => rfl
  | _, _, .cons _ b => by rw [List.length_cons, List.length_cons, Rels.length b]
theorem Rels.append : ∀ {vs ws : List V} {ds es : List D}, Rels K H vs ds → Rels K H ws es → Rels K H (vs ++ ws) (ds ++ es)
  | _, _, _, _, .nil, h => h
  | _, _, _, _, .cons a b, h => .cons a (Rels.append b h)
theorem Rels.get : ∀ {vs : List V} {ds : List D} {i : Nat} {d : D}, Rels K H vs ds → ds[i]? = some d → ∃ v, vs[i]? = some v ∧ Rel K H v d
  | _, _, i, d, .nil, e => by simp at e
  | _, _, 0, d, .cons a _, e => ⟨_, rfl, by simp at e; subst e; exact a⟩
  | _, _, i + 1, d, .cons _ b, e => by
    obtain ⟨v, h1, h2⟩ := Rels.get (i := i) (d := d) b (by simpa using e)
    exact ⟨v, by simpa using h1, h2⟩
theorem Rels.getV : ∀ {vs : List V} {ds : List D} {i : Nat} {v : V}, Rels K H vs ds → vs[i]? = some v → ∃ d, ds[i]? = some d ∧ Rel K H v d
  | _, _, i, d, .nil, e => by simp at e
  | _, _, 0, d, .cons a _, e => ⟨_, rfl, by simp at e; subst e; exact a⟩
  | _, _, i + 1, d, .cons _ b, e => by
    obtain ⟨v, h1, h2⟩ := Rels.getV (i := i) (v := d) b (by simpa using e)
    exact ⟨v, by simpa using h1, h2⟩
theorem Rels.set {v : V} {d : D} (r : Rel K H v d) : ∀ {vs : List V} {ds : List D} (i : Nat), Rels K H vs ds → Rels K H (vs.set i v) (ds.set i d)
  | _, _, _, .nil => .nil
  | _, _, 0, .cons _ b => .cons r b
  | _, _, i + 1, .cons a b => .cons a (Rels.set r i b)
theorem Rels.take : ∀ {vs : List V} {ds : List D} (n : Nat), Rels K H vs ds → Rels K H (vs.take n) (ds.take n)
  | _, _, 0, _ => .nil
  | _, _, _ + 1, .nil => .nil
  | _, _, n + 1, .cons a b => .cons a (Rels.take n b)
theorem Rels.drop : ∀ {vs : List V} {ds : List D} (n : Nat), Rels K H vs ds → Rels K H (vs.drop n) (ds.drop n)
  | _, _, 0, h => h
  | _, _, _ + 1, .nil => .nil
  | _, _, n + 1, .cons _ b => Rels.drop n b
theorem Slots.set {v : V} {d : D} (s : Slots K H τ σ) (r : Rel K H v d) (i : Nat) : Slots K H (τ.set i (some d)) (σ.set i (some v)) := by
  refine ⟨by rw [List.length_set, List.length_set]; exact s.1, fun j e h => ?_⟩
  by_cases hj : i = j
  · subst hj
    by_cases hi : i < τ.length
    · rw [List.getElem?_set_self hi] at h
      cases h
      exact ⟨v, by rw [List.getElem?_set_self (by rw [← s.1]; exact hi)], r⟩
    · rw [List.getElem?_eq_none (by rw [List.length_set]; omega)] at h; cases h
  · rw [List.getElem?_set_ne hj] at h
    obtain ⟨v', e', r'⟩ := s.2 j e h
    exact ⟨v', by rw [List.getElem?_set_ne hj]; exact e', r'⟩
/-- objects other than p are as they were: the store but p is borne again -/
theorem MRel.mono (t : Tx H H') {a : Addr} (e : H' a = H a) : ∀ {m : MO}, MRel K H a m → MRel K H' a m
  | .lst _, ⟨vs, h, r⟩ => ⟨vs, e.trans h, Rels.mono t _ _ r⟩
  | .dK _, ⟨vs, h, r⟩ => ⟨vs, e.trans h, RelKV.mono t r⟩
  | .dT _, ⟨vs, h, r⟩ => ⟨vs, e.trans h, RelKV.mono t r⟩
  | .ins _ _ _, ⟨vs, h, r⟩ => ⟨vs, e.trans h, RelKV.mono t r⟩
  | .xd _, ⟨vs, h, r⟩ => ⟨vs, e.trans h, RelKV.mono t r⟩
  | .fT _ _ _, ⟨vs, h, r, z⟩ => ⟨vs, e.trans h, RelKV.mono t r, z⟩
  | .fK _ _ _, ⟨vs, h, r, z⟩ => ⟨vs, e.trans h, RelKV.mono t r, z⟩
  | .fTp _ _, ⟨vs, h, r, z⟩ => ⟨vs, e.trans h, Rels.mono t _ _ r, z⟩
  | .xo _ _, ⟨u, h, r⟩ => ⟨u, e.trans h, r⟩
  | .tab _, ⟨ps, h, z, r⟩ => ⟨ps, e.trans h, z, fun pos cv q => let ⟨c, e1, e2⟩ := r pos cv q; ⟨c, e1, t.c _ _ e2⟩⟩
/-- a new untracked-by-the-store object -/
theorem tx_new {p : Addr} {o : HO} (n : H p = none) : Tx H (upd H p o) := ⟨fun a xs e => by rw [upd_ne (ne_of_none e n)]; exact e, fun a ob xs e => by rw [upd_ne (ne_of_none e n)]; exact e, fun a q e => by rw [upd_ne (ne_of_none e n)]; exact e⟩
theorem con_new {p : Addr} {o : HO} (n : H p = none) (c : Con K H μ) : Con K (upd H p o) μ := fun a m e => by
  have ha : a ≠ p := fun z => by subst z; rw [c.free n] at e; cases e
  exact (c a m e).mono (tx_new n) (upd_ne ha)
theorem fr_new {p : Addr} {o : HO} (n : H p = none) : Fr μ μ H (upd H p o) := fun a u h e => ⟨by rw [upd_ne (ne_of_none e n)]; exact e, h⟩
/-- .. and in the store -/
theorem con_put {p : Addr} {o : HO} {m : MO} (n : H p = none) (c : Con K H μ) (r : MRel K (upd H p o) p m) : Con K (upd H p o) (μ.set p m) := fun a m' e => by
  by_cases ha : a = p
  · subst ha; rw [set_same] at e; cases e; exact r
  · rw [set_ne ha] at e
    exact (c a m' e).mono (tx_new n) (upd_ne ha)
theorem fr_put {p : Addr} {o : HO} {m : MO} (n : H p = none) : Fr μ (μ.set p m) H (upd H p o) := fun a u h e => by
  have ha : a ≠ p := ne_of_none e n
  exact ⟨by rw [upd_ne ha]; exact e, by rw [set_ne ha]; exact h⟩
/-- an object of the store is changed -/
theorem tx_mut {p : Addr} {o : HO} {m : MO} (c : Con K H μ) (h : μ p = some m) : Tx H (upd H p o) :=
  ⟨fun a xs e => by rw [upd_ne (fun z => by subst z; rw [c.tn e] at h; cases h)]; exact e, fun a ob xs e => by rw [upd_ne (fun z => by subst z; rw [c.fn e] at h; cases h)]; exact e, fun a q e => by rw [upd_ne (fun z => by subst z; rw [c.cn e] at h; cases h)]; exact e⟩
theorem con_mut {p : Addr} {o : HO} {m m' : MO} (c : Con K H μ) (h : μ p = some m) (r : MRel K (upd H p o) p m') : Con K (upd H p o) (μ.set p m') := fun a u e => by
  by_cases ha : a = p
  · subst ha; rw [set_same] at e; cases e; exact r
  · rw [set_ne ha] at e
    exact (c a u e).mono (tx_mut c h) (upd_ne ha)
theorem fr_mut {p : Addr} {o : HO} {m m' : MO} (h : μ p = some m) : Fr μ (μ.set p m') H (upd H p o) := fun a u n e => by
  have ha : a ≠ p := fun z => by subst z; rw [n] at h; cases h
  exact ⟨by rw [upd_ne ha]; exact e, by rw [set_ne ha]; exact n⟩
/-- the store forgotten in part -/
def Sub (μ μ' : M) : Prop := ∀ a m, μ a = some m → μ' a = some m
theorem Sub.trans (a : Sub μ μ1) (b : Sub μ1 μ2) : Sub μ μ2 := fun x m h => b x m (a x m h)
theorem Sub.set {p : Addr} {m : MO} (h : μ p = none) : Sub μ (μ.set p m) := fun a m' e => by rw [set_ne (fun z => by subst z; rw [h] at e; cases e)]; exact e
theorem Sub.none (s : Sub μ μ') {a : Addr} (h : μ' a = Option.none) : μ a = Option.none := by
  cases q : μ a with
  | none => rfl
  | some m => rw [s a m q] at h; cases h
end
def AE (K : PySem.W.Frag) (t : TE) (τ : T) (μ : M) (Φ : D → M → Prop) : Prop :=
  ∀ σ H, Slots K H τ σ → Con K H μ → ∀ Q : VK, (∀ d μ' v H', Fr μ μ' H H' → Con K H' μ' → Rel K H' v d → Φ d μ' → Q v H') → t σ H Q
def AA (K : PySem.W.Frag) (t : TA) (τ : T) (μ : M) (Φ : List D → M → Prop) : Prop :=
  ∀ σ H, Slots K H τ σ → Con K H μ → ∀ Q : List V → Hp → Prop, (∀ d μ' v H', Fr μ μ' H H' → Con K H' μ' → Rels K H' v d → Φ d μ' → Q v H') → t σ H Q
def AT (K : PySem.W.Frag) (t : TT) (τ : T) (μ : M) (Φ : Bool → M → Prop) : Prop :=
  ∀ σ H, Slots K H τ σ → Con K H μ → ∀ Q : Bool → Hp → Prop, (∀ b μ' H', Fr μ μ' H H' → Con K H' μ' → Φ b μ' → Q b H') → t σ H Q
structure AEnds where
  nx : T → M → Prop
  rt : D → M → Prop
  bk : T → M → Prop := fun _ _ => False
  ct : T → M → Prop := fun _ _ => False
  /-- what is wished of an exception; what the names of classes stand for; what holds where one is raised -/
  W : WX := fun _ _ _ _ => False
  cn : Str → Option Value := fun _ => none
  xs : Str → Option Addr → T → M → Prop := fun _ _ _ _ => False
/-- the concrete ends that follow from the abstract ones -/
structure EndsOk (K : PySem.W.Frag) (N : AEnds) (μ : M) (H : Hp) (E : Ends) : Prop where
  nx : ∀ τ' μ' σ' H', Fr μ μ' H H' → Con K H' μ' → Slots K H' τ' σ' → N.nx τ' μ' → E.nx σ' H'
  rt : ∀ d μ' v H', Fr μ μ' H H' → Con K H' μ' → Rel K H' v d → N.rt d μ' → E.rt v H'
  bk : ∀ τ' μ' σ' H', Fr μ μ' H H' → Con K H' μ' → Slots K H' τ' σ' → N.bk τ' μ' → E.bk σ' H'
  ct : ∀ τ' μ' σ' H', Fr μ μ' H H' → Con K H' μ' → Slots K H' τ' σ' → N.ct τ' μ' → E.ct σ' H'
  wx : ∀ x dx τ' μ' cls σ' H', N.cn x = some cls → Fr μ μ' H H' → Con K H' μ' → Slots K H' τ' σ' → N.xs x dx τ' μ' → N.W cls dx σ' H'
def AS (K : PySem.W.Frag) (t : TS) (τ : T) (μ : M) (N : AEnds) : Prop :=
  ∀ σ H, Slots K H τ σ → Con K H μ → ∀ E : Ends, EndsOk K N μ H E → t E σ H
/-- a target -/
def AG (K : PySem.W.Frag) (g : TG) (d : D) (τ : T) (μ : M) (Φ : T → M → Prop) : Prop :=
  ∀ σ H v, Slots K H τ σ → Con K H μ → Rel K H v d → ∀ Q : St → Hp → Prop, (∀ τ' μ' σ' H', Fr μ μ' H H' → Con K H' μ' → Slots K H' τ' σ' → Φ τ' μ' → Q σ' H') → g v σ H Q
def AGs (K : PySem.W.Frag) (g : TGs) (ds : List D) (τ : T) (μ : M) (Φ : T → M → Prop) : Prop :=
  ∀ σ H vs, Slots K H τ σ → Con K H μ → Rels K H vs ds → ∀ Q : St → Hp → Prop, (∀ τ' μ' σ' H', Fr μ μ' H H' → Con K H' μ' → Slots K H' τ' σ' → Φ τ' μ' → Q σ' H') → g vs σ H Q
/-- an operation on values -/
def RO (K : PySem.W.Frag) (r : R2) (d e : D) (μ : M) (Φ : D → M → Prop) : Prop :=
  ∀ H x y, Con K H μ → Rel K H x d → Rel K H y e → ∀ Q : VK, (∀ z μ' v H', Fr μ μ' H H' → Con K H' μ' → Rel K H' v z → Φ z μ' → Q v H') → r x y H Q
def RU (K : PySem.W.Frag) (r : V → Hp → VK → Prop) (d : D) (μ : M) (Φ : D → M → Prop) : Prop :=
  ∀ H x, Con K H μ → Rel K H x d → ∀ Q : VK, (∀ z μ' v H', Fr μ μ' H H' → Con K H' μ' → Rel K H' v z → Φ z μ' → Q v H') → r x H Q
def RC (K : PySem.W.Frag) (r : List V → Hp → VK → Prop) (ds : List D) (μ : M) (Φ : D → M → Prop) : Prop :=
  ∀ H xs, Con K H μ → Rels K H xs ds → ∀ Q : VK, (∀ z μ' v H', Fr μ μ' H H' → Con K H' μ' → Rel K H' v z → Φ z μ' → Q v H') → r xs H Q
section
variable {K : PySem.W.Frag} {τ : T} {μ : M} {Φ Ψ : D → M → Prop} {ta tb te : TE} {r : R2} {t u : TT} {x y z d e : D}
theorem AE.imp (h : AE K te τ μ Φ) (k : ∀ d μ', Φ d μ' → Ψ d μ') : AE K te τ μ Ψ := fun σ H s c Q q => h σ H s c Q fun d μ' v H' f c' r p => q d μ' v H' f c' r (k d μ' p)
theorem AT.imp {Φ Ψ : Bool → M → Prop} (h : AT K t τ μ Φ) (k : ∀ d μ', Φ d μ' → Ψ d μ') : AT K t τ μ Ψ := fun σ H s c Q q => h σ H s c Q fun d μ' H' f c' p => q d μ' H' f c' (k d μ' p)
theorem a_var {i : Nat} (h : τ[i]? = some (some d)) (q : Φ d μ) : AE K (tVar i) τ μ Φ := fun σ H s c Q k => by
  obtain ⟨v, e, r⟩ := s.2 i d h
  exact ⟨v, e, k d μ v H Fr.refl c r q⟩
theorem a_int {n : Int} (q : Φ (.int n) μ) : AE K (tC (.int n)) τ μ Φ := fun σ H s c Q k => k _ μ _ H Fr.refl c (.int n) q
theorem a_bl {n : Bool} (q : Φ (.bl n) μ) : AE K (tC (.bl n)) τ μ Φ := fun σ H s c Q k => k _ μ _ H Fr.refl c (.bl n) q
theorem a_str {n : Str} (q : Φ (.str n) μ) : AE K (tC (.str n)) τ μ Φ := fun σ H s c Q k => k _ μ _ H Fr.refl c (.str n) q
theorem a_non (q : Φ .non μ) : AE K (tC .non) τ μ Φ := fun σ H s c Q k => k _ μ _ H Fr.refl c .non q
theorem a_ty {n : String} (q : Φ (.ty n) μ) : AE K (tC (.ty n)) τ μ Φ := fun σ H s c Q k => k _ μ _ H Fr.refl c (.ty n) q
theorem a_op (h : AE K ta τ μ fun d μ1 => AE K tb τ μ1 fun e μ2 => RO K r d e μ2 Φ) : AE K (tOp r ta tb) τ μ Φ := fun σ H s c Q k =>
  h σ H s c _ fun d μ1 v H1 f1 c1 r1 p1 => p1 σ H1 (s.mono (f1.tx c)) c1 _ fun e μ2 u H2 f2 c2 r2 p2 =>
    p2 H2 v u c2 (Rel.mono (f2.tx c1) _ _ r1) r2 Q fun z μ' w H' f c' rz pz => k z μ' w H' ((f1.trans f2).trans f) c' rz pz
theorem a_un {r : V → Hp → VK → Prop} (h : AE K ta τ μ fun d μ1 => RU K r d μ1 Φ) : AE K (tUn r ta) τ μ Φ := fun σ H s c Q k =>
  h σ H s c _ fun d μ1 v H1 f1 c1 r1 p1 => p1 H1 v c1 r1 Q fun z μ' w H' f c' rz pz => k z μ' w H' (f1.trans f) c' rz pz
theorem aa_nil {Φ : List D → M → Prop} (q : Φ [] μ) : AA K tNil τ μ Φ := fun σ H s c Q k => k _ μ _ H Fr.refl c .nil q
theorem aa_cons {Φ : List D → M → Prop} {tr : TA} (h : AE K ta τ μ fun d μ1 => AA K tr τ μ1 fun ds μ2 => Φ (d :: ds) μ2) : AA K (tCons ta tr) τ μ Φ := fun σ H s c Q k =>
  h σ H s c _ fun d μ1 v H1 f1 c1 r1 p1 => p1 σ H1 (s.mono (f1.tx c)) c1 _ fun ds μ2 us H2 f2 c2 r2 p2 => k _ μ2 _ H2 (f1.trans f2) c2 (.cons (Rel.mono (f2.tx c1) _ _ r1) r2) p2
theorem a_tup {ta : TA} (h : AA K ta τ μ fun ds μ1 => ds.length ≤ sizeLine ∧ Φ (.tup ds) μ1) : AE K (tTup ta) τ μ Φ := fun σ H s c Q k =>
  h σ H s c _ fun ds μ1 vs H1 f1 c1 r1 ⟨hz, p1⟩ => ⟨by rw [r1.length]; exact hz, fun p hp => k _ μ1 _ _ (f1.trans (fr_new hp)) (con_new hp c1) (.tup (.inl upd_same) (Rels.mono (tx_new hp) _ _ r1)) p1⟩
theorem a_lst {ta : TA} (h : AA K ta τ μ fun ds μ1 => ds.length ≤ sizeLine ∧ ∀ p, μ1 p = none → Φ (.ref p) (μ1.set p (.lst ds))) : AE K (tLst ta) τ μ Φ := fun σ H s c Q k =>
  h σ H s c _ fun ds μ1 vs H1 f1 c1 r1 ⟨hz, p1⟩ => ⟨by rw [r1.length]; exact hz, fun p hp => k _ _ _ _ (f1.trans (fr_put hp)) (con_put (m := .lst ds) hp c1 ⟨vs, upd_same, Rels.mono (tx_new hp) _ _ r1⟩) (.ref p) (p1 p (c1.free hp))⟩
theorem a_cb {r : List V → Hp → VK → Prop} {ta : TA} (h : AA K ta τ μ fun ds μ1 => RC K r ds μ1 Φ) : AE K (tCB r ta) τ μ Φ := fun σ H s c Q k =>
  h σ H s c _ fun ds μ1 vs H1 f1 c1 r1 p1 => p1 H1 vs c1 r1 Q fun z μ' w H' f c' rz pz => k z μ' w H' (f1.trans f) c' rz pz
theorem a_if (h : AT K t τ μ fun b μ1 => if b = true then AE K ta τ μ1 Φ else AE K tb τ μ1 Φ) : AE K (tIf t ta tb) τ μ Φ := fun σ H s c Q k =>
  h σ H s c _ fun b μ1 H1 f1 c1 p1 => by
    cases b with
    | true => exact (show AE K ta τ μ1 Φ from p1) σ H1 (s.mono (f1.tx c)) c1 Q fun z μ' w H' f c' rz pz => k z μ' w H' (f1.trans f) c' rz pz
    | false => exact (show AE K tb τ μ1 Φ from p1) σ H1 (s.mono (f1.tx c)) c1 Q fun z μ' w H' f c' rz pz => k z μ' w H' (f1.trans f) c' rz pz
theorem a_andV (h : AE K ta τ μ fun d μ1 => ∃ b, d = .bl b ∧ if b = true then AE K tb τ μ1 Φ else Φ (.bl false) μ1) : AE K (tAndV ta tb) τ μ Φ := fun σ H s c Q k =>
  h σ H s c _ fun d μ1 v H1 f1 c1 r1 ⟨b, e, p1⟩ => by
    subst e
    cases r1
    refine ⟨b, rfl, ?_⟩
    cases b with
    | true => exact (show AE K tb τ μ1 Φ from p1) σ H1 (s.mono (f1.tx c)) c1 Q fun z μ' w H' f c' rz pz => k z μ' w H' (f1.trans f) c' rz pz
    | false => exact k _ μ1 _ H1 f1 c1 (.bl false) (show Φ (.bl false) μ1 from p1)
theorem a_orV (h : AE K ta τ μ fun d μ1 => ∃ b, d = .bl b ∧ if b = true then Φ (.bl true) μ1 else AE K tb τ μ1 Φ) : AE K (tOrV ta tb) τ μ Φ := fun σ H s c Q k =>
  h σ H s c _ fun d μ1 v H1 f1 c1 r1 ⟨b, e, p1⟩ => by
    subst e
    cases r1
    refine ⟨b, rfl, ?_⟩
    cases b with
    | true => exact k _ μ1 _ H1 f1 c1 (.bl true) (show Φ (.bl true) μ1 from p1)
    | false => exact (show AE K tb τ μ1 Φ from p1) σ H1 (s.mono (f1.tx c)) c1 Q fun z μ' w H' f c' rz pz => k z μ' w H' (f1.trans f) c' rz pz
theorem a_notV (h : AE K ta τ μ fun d μ1 => ∃ b, d = .bl b ∧ Φ (.bl (!b)) μ1) : AE K (tNotV ta) τ μ Φ := fun σ H s c Q k =>
  h σ H s c _ fun d μ1 v H1 f1 c1 r1 ⟨b, e, p1⟩ => by
    subst e
    cases r1
    exact ⟨b, rfl, k _ μ1 _ H1 f1 c1 (.bl _) p1⟩
variable {Θ : Bool → M → Prop}
theorem at_test (h : AE K te τ μ fun d μ1 => ∃ b, d = .bl b ∧ Θ b μ1) : AT K (tTest te) τ μ Θ := fun σ H s c Q k =>
  h σ H s c _ fun d μ1 v H1 f1 c1 r1 ⟨b, e, p1⟩ => by
    subst e
    cases r1
    exact ⟨b, rfl, k b μ1 H1 f1 c1 p1⟩
theorem at_B (h : AE K te τ μ fun d μ1 => ∃ b, d = .bl b ∧ Θ b μ1) : AT K (tB te) τ μ Θ := fun σ H s c Q k =>
  h σ H s c _ fun d μ1 v H1 f1 c1 r1 ⟨b, e, p1⟩ => by
    subst e
    cases r1
    exact ⟨b, rfl, k b μ1 H1 f1 c1 p1⟩
theorem at_and (h : AT K t τ μ fun b μ1 => if b = true then AT K u τ μ1 Θ else Θ false μ1) : AT K (tAnd t u) τ μ Θ := fun σ H s c Q k =>
  h σ H s c _ fun b μ1 H1 f1 c1 p1 => by
    cases b with
    | true => exact (show AT K u τ μ1 Θ from p1) σ H1 (s.mono (f1.tx c)) c1 Q fun z μ' H' f c' pz => k z μ' H' (f1.trans f) c' pz
    | false => exact k false μ1 H1 f1 c1 (show Θ false μ1 from p1)
theorem at_or (h : AT K t τ μ fun b μ1 => if b = true then Θ true μ1 else AT K u τ μ1 Θ) : AT K (tOr t u) τ μ Θ := fun σ H s c Q k =>
  h σ H s c _ fun b μ1 H1 f1 c1 p1 => by
    cases b with
    | true => exact k true μ1 H1 f1 c1 (show Θ true μ1 from p1)
    | false => exact (show AT K u τ μ1 Θ from p1) σ H1 (s.mono (f1.tx c)) c1 Q fun z μ' H' f c' pz => k z μ' H' (f1.trans f) c' pz
theorem at_not (h : AT K t τ μ fun b μ1 => Θ (!b) μ1) : AT K (tNot t) τ μ Θ := fun σ H s c Q k => h σ H s c _ fun b μ1 H1 f1 c1 p1 => k (!b) μ1 H1 f1 c1 p1
end
end Z
namespace Z
open PySem L2
section
variable {K : PySem.W.Frag} {τ : T} {μ μ1 μ2 : M} {H H1 H2 : Hp} {σ : L2.St} {Φ Ψ : D → M → Prop} {ta tb tc te : TE} {r r' : R2} {t u : TT} {x y z d e : D} {N : AEnds} {ts us : TS} {g : TG} {D0 E : Ends}
theorem EndsOk.step {μ' : M} {H' : Hp} (k : EndsOk K N μ H E) (f : Fr μ μ' H H') : EndsOk K N μ' H' E :=
  ⟨fun a b c d' f' => k.nx a b c d' (f.trans f'), fun a b c d' f' => k.rt a b c d' (f.trans f'), fun a b c d' f' => k.bk a b c d' (f.trans f'), fun a b c d' f' => k.ct a b c d' (f.trans f'), fun x1 x2 x3 x4 x5 x6 x7 x8 f' => k.wx x1 x2 x3 x4 x5 x6 x7 x8 (f.trans f')⟩
theorem s_seq (h : AS K ts τ μ { N with nx := fun τ' μ' => AS K us τ' μ' N }) : AS K (tSeq ts us) τ μ N := fun σ H s c E k =>
  h σ H s c _ ⟨fun τ' μ' σ' H' f c' s' p => p σ' H' s' c' E (k.step f), k.rt, k.bk, k.ct, k.wx⟩
theorem s_next (h : N.nx τ μ) : AS K tNext τ μ N := fun σ H s c E k => k.nx τ μ σ H Fr.refl c s h
theorem s_drop (h : AE K te τ μ fun _ μ' => N.nx τ μ') : AS K (tDrop te) τ μ N := fun σ H s c E k =>
  h σ H s c _ fun d μ' v H' f c' r p => k.nx τ μ' σ H' f c' (s.mono (f.tx c)) p
theorem s_ret (h : AE K te τ μ N.rt) : AS K (tRet te) τ μ N := fun σ H s c E k => h σ H s c _ fun d μ' v H' f c' r p => k.rt d μ' v H' f c' r p
theorem s_retN (h : N.rt .non μ) : AS K tRetN τ μ N := fun σ H s c E k => k.rt .non μ .non H Fr.refl c .non h
theorem s_if (h : AT K t τ μ fun b μ' => if b = true then AS K ts τ μ' N else AS K us τ μ' N) : AS K (tIfS t ts us) τ μ N := fun σ H s c E k =>
  h σ H s c _ fun b μ' H' f c' p => by
    cases b with
    | true => exact (show AS K ts τ μ' N from p) σ H' (s.mono (f.tx c)) c' E (k.step f)
    | false => exact (show AS K us τ μ' N from p) σ H' (s.mono (f.tx c)) c' E (k.step f)
theorem s_asg (h : AE K te τ μ fun d μ' => AG K g d τ μ' N.nx) : AS K (tAsg te g) τ μ N := fun σ H s c E k =>
  h σ H s c _ fun d μ' v H' f c' r p => p σ H' v (s.mono (f.tx c)) c' r _ fun τ2 μ2 σ2 H2 f2 c2 s2 q => k.nx τ2 μ2 σ2 H2 (f.trans f2) c2 s2 q
theorem g_name {i : Nat} {Θ : T → M → Prop} (h : Θ (τ.set i (some d)) μ) : AG K (gName i) d τ μ Θ := fun σ H v s c r Q k => k _ μ _ H Fr.refl c (s.set r i) h
theorem gs_nil {Θ : T → M → Prop} (h : Θ τ μ) : AGs K gNil [] τ μ Θ := fun σ H vs s c r Q k => by
  cases r
  exact ⟨rfl, k τ μ σ H Fr.refl c s h⟩
theorem gs_cons {gs : TGs} {ds : List D} {Θ : T → M → Prop} (h : AG K g d τ μ fun τ' μ' => AGs K gs ds τ' μ' Θ) : AGs K (gCons g gs) (d :: ds) τ μ Θ := fun σ H vs s c r Q k => by
  cases r with
  | cons r1 r2 =>
    rename_i v vs'
    exact ⟨v, vs', rfl, h σ H v s c r1 _ fun τ' μ' σ' H' f c' s' p => p σ' H' vs' s' c' (Rels.mono (f.tx c) _ _ r2) Q fun τ2 μ2 σ2 H2 f2 c2 s2 q => k τ2 μ2 σ2 H2 (f.trans f2) c2 s2 q⟩
theorem g_tup {n : Nat} {gs : TGs} {ds : List D} {Θ : T → M → Prop} (hn : ds.length = n) (h : AGs K gs ds τ μ Θ) : AG K (gTup K n gs) (.tup ds) τ μ Θ := fun σ H v s c r Q k => by
  cases r with
  | tup ht hr => exact ⟨_, _, rfl, ht.sq, by rw [hr.length]; exact hn, h σ H _ s c hr Q k⟩
/-- o[i] = v -/
def ASet (K : PySem.W.Frag) (t : TSet) (o i d : D) (μ : M) (Θ : M → Prop) : Prop :=
  ∀ H a b v, Con K H μ → Rel K H a o → Rel K H b i → Rel K H v d → ∀ Q : Hp → Prop, (∀ μ' H', Fr μ μ' H H' → Con K H' μ' → Θ μ' → Q H') → t a b v H Q
theorem g_sub {to ti : TE} {tset : TSet} {Θ : T → M → Prop} (h : AE K to τ μ fun o μ1 => AE K ti τ μ1 fun i μ2 => ASet K tset o i d μ2 fun μ3 => Θ τ μ3) : AG K (gSub to ti tset) d τ μ Θ := fun σ H v s c r Q k =>
  h σ H s c _ fun o μ1 a H1 f1 c1 r1 p1 => p1 σ H1 (s.mono (f1.tx c)) c1 _ fun i μ2 b H2 f2 c2 r2 p2 =>
    p2 H2 a b v c2 (Rel.mono (f2.tx c1) _ _ r1) r2 (Rel.mono ((f1.trans f2).tx c) _ _ r) _ fun μ3 H3 f3 c3 p3 => k τ μ3 σ H3 ((f1.trans f2).trans f3) c3 (s.mono (((f1.trans f2).trans f3).tx c)) p3
theorem s_par {i j : Nat} {ta : TA} (h : AA K ta τ μ fun ds μ' => ∃ d e, ds = [d, e] ∧ N.nx ((τ.set i (some d)).set j (some e)) μ') : AS K (tPar i j ta) τ μ N := fun σ H s c E k =>
  h σ H s c _ fun ds μ' vs H' f c' r ⟨d, e, q, p⟩ => by
    subst q
    cases r with
    | cons r1 r2 =>
      cases r2 with
      | cons r2 r3 =>
        cases r3
        exact ⟨_, _, rfl, k.nx _ μ' _ H' f c' (((s.mono (f.tx c)).set r1 i).set r2 j) p⟩
/-- a op= b, by values -/
theorem s_aug {i : Nat} {ti : TIp} (hx : τ[i]? = some (some d)) (h : AE K te τ μ fun e μ1 => RO K ti d e μ1 fun z μ2 => N.nx (τ.set i (some z)) μ2) : AS K (tAug i te ti) τ μ N := fun σ H s c E k => by
  obtain ⟨v, e1, r1⟩ := s.2 i d hx
  exact ⟨v, e1, h σ H s c _ fun e μ1 u H1 f1 c1 r2 p1 => p1 H1 v u c1 (Rel.mono (f1.tx c) _ _ r1) r2 _ fun z μ2 w H2 f2 c2 rz p2 =>
    k.nx _ μ2 _ H2 (f1.trans f2) c2 ((s.mono ((f1.trans f2).tx c)).set rz i) p2⟩
theorem AS.imp {nx' bk' ct' : T → M → Prop} {rt' : D → M → Prop} (h : AS K ts τ μ N) (h1 : ∀ a b, N.nx a b → nx' a b) (h2 : ∀ a b, N.rt a b → rt' a b) (h3 : ∀ a b, N.bk a b → bk' a b) (h4 : ∀ a b, N.ct a b → ct' a b) : AS K ts τ μ { N with nx := nx', rt := rt', bk := bk', ct := ct' } := fun σ H s c E q =>
  h σ H s c E ⟨fun a b c' d' f x y p => q.nx a b c' d' f x y (h1 _ _ p), fun a b c' d' f x y p => q.rt a b c' d' f x y (h2 _ _ p), fun a b c' d' f x y p => q.bk a b c' d' f x y (h3 _ _ p), fun a b c' d' f x y p => q.ct a b c' d' f x y (h4 _ _ p), q.wx⟩
/-- the ends of a turn -/
def turnE (N : AEnds) (P : T → M → Prop) : AEnds := { N with nx := P, ct := P, bk := N.nx }
theorem turn_ok {μ0 : M} {H0 : Hp} {P : T → M → Prop} {Pc : L2.St → Hp → Prop} (k : EndsOk K N μ0 H0 E) (f : Fr μ0 μ H0 H) (hp : ∀ τ' μ' σ' H', Fr μ0 μ' H0 H' → Con K H' μ' → Slots K H' τ' σ' → P τ' μ' → Pc σ' H') :
    EndsOk K (turnE N P) μ H { E with nx := Pc, ct := Pc, bk := E.nx } :=
  ⟨fun τ' μ' σ' H' f' c s p => hp τ' μ' σ' H' (f.trans f') c s p, fun d' μ' v H' f' => k.rt d' μ' v H' (f.trans f'), fun τ' μ' σ' H' f' => k.nx τ' μ' σ' H' (f.trans f'), fun τ' μ' σ' H' f' c s p => hp τ' μ' σ' H' (f.trans f') c s p, fun x1 x2 x3 x4 x5 x6 x7 x8 f' => k.wx x1 x2 x3 x4 x5 x6 x7 x8 (f.trans f')⟩
theorem con_back {μ' : M} {a : Addr} {m : MO} (c : Con K H μ') (r : MRel K H a m) : Con K H (μ'.set a m) := fun x u e => by
  by_cases hx : x = a
  · subst hx; rw [set_same] at e; cases e; exact r
  · rw [set_ne hx] at e; exact c x u e
/-- for over a range -/
theorem s_forN {wi : TI} {lo : Int} {n : Nat} {tb : TS} (P : Nat → T → M → Prop) (hw : ∀ σ H, Slots K H τ σ → Con K H μ → ∀ R : It → Hp → Prop, (∀ μ1 H1, Fr μ μ1 H H1 → Con K H1 μ1 → P 0 τ μ1 → R (Itr lo n) H1) → wi σ H R)
    (hs : ∀ (i : Nat) τ' μ', i < n → P i τ' μ' → AG K g (.int (lo + i)) τ' μ' fun τ2 μ2 => AS K tb τ2 μ2 (turnE N (P (i + 1)))) (hd : ∀ τ' μ', P n τ' μ' → N.nx τ' μ') : AS K (tFor wi g tb) τ μ N := fun σ H s c E k =>
  hw σ H s c _ fun μ1 H1 f1 c1 p0 => by
    refine for_range (lo := lo) (n := n) (fun i σ' H' => ∃ τ' μ', Fr μ μ' H H' ∧ Con K H' μ' ∧ Slots K H' τ' σ' ∧ P i τ' μ') ⟨τ, μ1, f1, c1, s.mono (f1.tx c), p0⟩ ?_ ?_
    · rintro i σ' H' hi ⟨τ', μ', f, c', s', p⟩
      refine hs i τ' μ' hi p σ' H' _ s' c' (.int _) _ fun τ2 μ2 σ2 H2 f2 c2 s2 q => ?_
      exact q σ2 H2 s2 c2 _ (turn_ok (k.step f) f2 fun τ3 μ3 σ3 H3 f3 c3 s3 p3 => ⟨τ3, μ3, f.trans f3, c3, s3, p3⟩)
    · rintro σ' H' ⟨τ', μ', f, c', s', p⟩
      exact k.nx τ' μ' σ' H' f c' s' (hd τ' μ' p)
theorem s_for1 {ta : TA} {tb : TS} (n : Int) (P : Nat → T → M → Prop) (h : AA K ta τ μ fun ds μ1 => ds = [.int n] ∧ -(2 ^ 62) ≤ n ∧ n < 2 ^ 62 ∧ P 0 τ μ1)
    (hs : ∀ (i : Nat) τ' μ', (i : Int) < n → P i τ' μ' → AG K g (.int i) τ' μ' fun τ2 μ2 => AS K tb τ2 μ2 (turnE N (P (i + 1)))) (hd : ∀ τ' μ', P n.toNat τ' μ' → N.nx τ' μ') : AS K (tFor (iRng1 ta) g tb) τ μ N := by
  refine s_forN (lo := 0) (n := n.toNat) P (fun σ H s c R k => h σ H s c _ fun ds μ1 vs H1 f1 c1 r1 ⟨e, h1, h2, p⟩ => ?_) (fun i τ' μ' hi p => ?_) hd
  · subst e
    cases r1 with
    | cons r rr =>
      cases r
      cases rr
      exact ⟨n, rfl, h1, h2, k μ1 H1 f1 c1 p⟩
  · rw [Int.zero_add]
    exact hs i τ' μ' (by omega) p
end
end Z
namespace Z
open PySem L2
def seqD (μ : M) : D → Option (List D)
  | .tup ds => some ds
  | .rol ds => some ds
  | .ref a => match μ a with
    | some (.lst ds) => some ds
    | _ => none
  | _ => none
section
variable {K : PySem.W.Frag} {τ : T} {μ μ1 μ2 : M} {H H1 H2 : Hp} {σ : L2.St} {Φ Ψ : D → M → Prop} {ta tb tc te : TE} {r r' : R2} {t u : TT} {x y z d e : D} {N : AEnds} {ts us : TS}
theorem seq_of {v : V} {ds : List D} (c : Con K H μ) (r : Rel K H v d) (h : seqD μ d = some ds) : ∃ a xs, v = .ref a ∧ (SqL K H a xs ∨ SqT K H a xs) ∧ Rels K H xs ds := by
  cases r with
  | tup ht hr => cases h; exact ⟨_, _, rfl, .inr ht.sq, hr⟩
  | rol ht hr => cases h; exact ⟨_, _, rfl, .inl ht.sq, hr⟩
  | ref a =>
    unfold seqD at h
    simp only at h
    split at h
    · rename_i ds' e
      cases h
      obtain ⟨xs, h1, h2⟩ := c _ _ e
      exact ⟨_, xs, rfl, .inl (SqL.of h1), h2⟩
    · cases h
  | non => cases h
  | bl => cases h
  | int => cases h
  | str => cases h
  | ty => cases h
theorem ro_i {f : Int → Int → Int} {i j : Int} (q : Φ (.int (f i j)) μ) : RO K (rI0 fun i j => V.int (f i j)) (.int i) (.int j) μ Φ := fun H x y c r1 r2 Q k => by
  cases r1; cases r2
  exact ⟨i, j, rfl, rfl, k _ μ _ H Fr.refl c (.int _) q⟩
theorem ro_b {f : Int → Int → Bool} {i j : Int} (q : Φ (.bl (f i j)) μ) : RO K (rI0 fun i j => V.bl (f i j)) (.int i) (.int j) μ Φ := fun H x y c r1 r2 Q k => by
  cases r1; cases r2
  exact ⟨i, j, rfl, rfl, k _ μ _ H Fr.refl c (.bl _) q⟩
theorem ro_c {C : Int → Int → Prop} {f : Int → Int → Int} {i j : Int} (hc : C i j) (q : Φ (.int (f i j)) μ) : RO K (rI C fun i j => V.int (f i j)) (.int i) (.int j) μ Φ := fun H x y c r1 r2 Q k => by
  cases r1; cases r2
  exact ⟨i, j, rfl, rfl, hc, k _ μ _ H Fr.refl c (.int _) q⟩
theorem ru_i {f : Int → Int} {i : Int} (q : Φ (.int (f i)) μ) : RU K (rU fun i => V.int (f i)) (.int i) μ Φ := fun H x c r1 Q k => by
  cases r1
  exact ⟨i, rfl, k _ μ _ H Fr.refl c (.int _) q⟩
theorem at_len {xs : List V} {ds : List D} {i : Int} {d : D} (r : Rels K H xs ds) (h : atI ds i = some d) : ∃ v, atI xs i = some v ∧ Rel K H v d := by
  unfold atI at h ⊢
  rw [r.length]
  cases e : ixN ds.length i with
  | none => rw [e] at h; cases h
  | some j =>
    rw [e] at h
    exact r.get h
theorem ro_ix {ds : List D} {i : Int} (hs : seqD μ d = some ds) (hi : atI ds i = some e) (q : Φ e μ) : RO K (rIx K) d (.int i) μ Φ := fun H x y c r1 r2 Q k => by
  cases r2
  obtain ⟨a, xs, rfl, hq, hr⟩ := seq_of c r1 hs
  obtain ⟨v, hv, rv⟩ := at_len hr hi
  rcases hq with hq | hq
  · exact .inl ⟨a, xs, i, v, rfl, rfl, hq, hv, k e μ v H Fr.refl c rv q⟩
  · exact .inr (.inl ⟨a, xs, i, v, rfl, rfl, hq, hv, k e μ v H Fr.refl c rv q⟩)
theorem set_lst {a : Addr} {ds : List D} {i : Int} {j : Nat} {Θ : M → Prop} (h : μ a = some (.lst ds)) (hi : ixN ds.length i = some j) (q : Θ (μ.set a (.lst (ds.set j d)))) : ASet K rSetL (.ref a) (.int i) d μ Θ := fun H x y v c r1 r2 r3 Q k => by
  cases r1; cases r2
  obtain ⟨xs, hx, hr⟩ := c a _ h
  exact ⟨a, xs, i, j, rfl, rfl, hx, by rw [hr.length]; exact hi, k _ _ (fr_mut h) (con_mut (m' := .lst (ds.set j d)) c h ⟨_, upd_same, Rels.mono (tx_mut c h) _ _ (Rels.set r3 j hr)⟩) q⟩
mutual
def D.py : D → PyData
  | .bl b => .bool b
  | .int i => .int i
  | .str s => .str s
  | .tup ds => .tuple (D.pys ds)
  | _ => .none
def D.pys : List D → List PyData
  | [] => []
  | d :: ds => D.py d :: D.pys ds
end
mutual
/-- None, truths, ints, texts and tuples of them -/
def D.plain : D → Bool
  | .non => true
  | .bl _ => true
  | .int _ => true
  | .str _ => true
  | .tup ds => D.plains ds
  | _ => false
def D.plains : List D → Bool
  | [] => true
  | d :: ds => D.plain d && D.plains ds
end
mutual
theorem Rel.dp : ∀ (d : D) (v : V), Rel K H v d → D.plain d = true → Dp K H v (D.py d)
  | .non, _, .non, _ => by simp only [D.py]; exact .non
  | .bl _, _, .bl b, _ => by simp only [D.py]; exact .bl b
  | .int _, _, .int b, _ => by simp only [D.py]; exact .int b
  | .str _, _, .str b, _ => by simp only [D.py]; exact .str b
  | .tup ds, _, .tup h r, p => by simp only [D.py]; exact .tup h.sq (Rels.dp ds _ r (by simpa only [D.plain] using p))
  | .ty _, _, _, p => by simp [D.plain] at p
  | .ref _, _, _, p => by simp [D.plain] at p
  | .rol _, _, _, p => by simp [D.plain] at p
theorem Rels.dp : ∀ (ds : List D) (vs : List V), Rels K H vs ds → D.plains ds = true → DpAll K H vs (D.pys ds)
  | [], _, .nil, _ => by simp only [D.pys]; exact .nil
  | d :: ds, _, .cons a b, p => by
    simp only [D.plains, Bool.and_eq_true] at p
    simp only [D.pys]
    exact .cons (Rel.dp d _ a p.1) (Rels.dp ds _ b p.2)
end
/-- plain and not too deep -/
def D.ok (d : D) : Bool := D.plain d && SeqAt.shaped (D.py d)
def D.eqv (d e : D) : Bool := PyData.eqv (D.py d) (D.py e)
theorem ro_eqD (h1 : D.ok d = true) (h2 : D.ok e = true) (q : Φ (.bl (D.eqv d e)) μ) : RO K (rEqD K) d e μ Φ := fun H x y c r1 r2 Q k => by
  unfold D.ok at h1 h2
  rw [Bool.and_eq_true] at h1 h2
  exact ⟨_, _, Rel.dp _ _ r1 h1.1, Rel.dp _ _ r2 h2.1, h1.2, h2.2, k _ μ _ H Fr.refl c (.bl _) q⟩
theorem ro_neD (h1 : D.ok d = true) (h2 : D.ok e = true) (q : Φ (.bl (!D.eqv d e)) μ) : RO K (rNeD K) d e μ Φ := fun H x y c r1 r2 Q k => by
  unfold D.ok at h1 h2
  rw [Bool.and_eq_true] at h1 h2
  exact ⟨_, _, Rel.dp _ _ r1 h1.1, Rel.dp _ _ r2 h2.1, h1.2, h2.2, k _ μ _ H Fr.refl c (.bl _) q⟩
theorem ro_eqI {i j : Int} (q : Φ (.bl (decide (i = j))) μ) : RO K rEq (.int i) (.int j) μ Φ := fun H x y c r1 r2 Q k => by
  cases r1; cases r2
  refine ⟨rfl, ?_⟩
  have e : decide (V.int i = V.int j) = decide (i = j) := by simp
  rw [e]
  exact k _ μ _ H Fr.refl c (.bl _) q
theorem ro_neI {i j : Int} (q : Φ (.bl (!decide (i = j))) μ) : RO K rNe (.int i) (.int j) μ Φ := fun H x y c r1 r2 Q k => by
  cases r1; cases r2
  refine ⟨rfl, ?_⟩
  have e : decide (V.int i = V.int j) = decide (i = j) := by simp
  rw [e]
  exact k _ μ _ H Fr.refl c (.bl _) q
theorem ro_eqB {i j : Bool} (q : Φ (.bl (decide (i = j))) μ) : RO K rEq (.bl i) (.bl j) μ Φ := fun H x y c r1 r2 Q k => by
  cases r1; cases r2
  refine ⟨rfl, ?_⟩
  have e : decide (V.bl i = V.bl j) = decide (i = j) := by simp
  rw [e]
  exact k _ μ _ H Fr.refl c (.bl _) q
theorem ro_neB {i j : Bool} (q : Φ (.bl (!decide (i = j))) μ) : RO K rNe (.bl i) (.bl j) μ Φ := fun H x y c r1 r2 Q k => by
  cases r1; cases r2
  refine ⟨rfl, ?_⟩
  have e : decide (V.bl i = V.bl j) = decide (i = j) := by simp
  rw [e]
  exact k _ μ _ H Fr.refl c (.bl _) q
theorem rc_abs {i : Int} (q : Φ (.int (if i < 0 then -i else i)) μ) : RC K (fun xs H Q => ∃ i, xs = [V.int i] ∧ Q (.int (if i < 0 then -i else i)) H) [.int i] μ Φ := fun H xs c r1 Q k => by
  cases r1 with
  | cons a b => cases a; cases b; exact ⟨i, rfl, k _ μ _ H Fr.refl c (.int _) q⟩
theorem rc_max {i j : Int} (q : Φ (.int (if j > i then j else i)) μ) : RC K (fun xs H Q => ∃ i j, xs = [V.int i, V.int j] ∧ Q (.int (if j > i then j else i)) H) [.int i, .int j] μ Φ := fun H xs c r1 Q k => by
  cases r1 with
  | cons a b => cases a; cases b with
    | cons a b => cases a; cases b; exact ⟨i, j, rfl, k _ μ _ H Fr.refl c (.int _) q⟩
theorem rc_min {i j : Int} (q : Φ (.int (if j < i then j else i)) μ) : RC K (fun xs H Q => ∃ i j, xs = [V.int i, V.int j] ∧ Q (.int (if j < i then j else i)) H) [.int i, .int j] μ Φ := fun H xs c r1 Q k => by
  cases r1 with
  | cons a b => cases a; cases b with
    | cons a b => cases a; cases b; exact ⟨i, j, rfl, k _ μ _ H Fr.refl c (.int _) q⟩
theorem rc_intB {b : Bool} (q : Φ (.int (if b then 1 else 0)) μ) : RC K (fun xs H Q => (∃ i, xs = [V.int i] ∧ Q (.int i) H) ∨ ∃ k, xs = [V.bl k] ∧ Q (.int (if k then 1 else 0)) H) [.bl b] μ Φ := fun H xs c r1 Q k => by
  cases r1 with
  | cons a b => cases a; cases b; exact .inr ⟨_, rfl, k _ μ _ H Fr.refl c (.int _) q⟩
theorem rc_intI {b : Int} (q : Φ (.int b) μ) : RC K (fun xs H Q => (∃ i, xs = [V.int i] ∧ Q (.int i) H) ∨ ∃ k, xs = [V.bl k] ∧ Q (.int (if k then 1 else 0)) H) [.int b] μ Φ := fun H xs c r1 Q k => by
  cases r1 with
  | cons a b => cases a; cases b; exact .inl ⟨_, rfl, k _ μ _ H Fr.refl c (.int _) q⟩
theorem rc_len {ds : List D} (h : seqD μ d = some ds) (q : Φ (.int ds.length) μ) : RC K (fun xs H Q => ∃ x n, xs = [x] ∧ LenV K x H n ∧ Q (.int n) H) [d] μ Φ := fun H xs c r1 Q k => by
  cases r1 with
  | cons a b =>
    cases b
    obtain ⟨p, xs, rfl, hq, hr⟩ := seq_of c a h
    refine ⟨_, ds.length, rfl, ?_, k _ μ _ H Fr.refl c (.int _) q⟩
    rcases hq with hq | hq
    · exact .inl ⟨xs, hq, hr.length.symm⟩
    · exact .inr ⟨xs, hq, hr.length.symm⟩
end
end Z
namespace Z
open PySem L2
/-- a promise by what it asks and gives over the store: P args store wish -/
abbrev PT3 := List D → M → (D → M → Prop) → Prop
def spI (K : PySem.W.Frag) (P : PT3) : Sp := fun vs H Q _ => ∃ ds μ Φ, Rels K H vs ds ∧ Z.Con K H μ ∧ P ds μ Φ ∧ ∀ d μ' v H', Fr μ μ' H H' → Z.Con K H' μ' → Rel K H' v d → Φ d μ' → Q v H'
def startD (n : Nat) (ds : List D) : T := ds.map some ++ List.replicate (n - ds.length) none
section
variable {K : PySem.W.Frag} {τ : T} {μ μ1 μ2 : M} {H H1 H2 : Hp} {σ : L2.St} {Φ Ψ : D → M → Prop} {ta tb tc te : TE} {r r' : R2} {t u : TT} {x y z d e : D} {N : AEnds} {ts us : TS} {P : PT3} {E : XK}
theorem slots_start {Ns : List Str} : ∀ {vs : List V} {ds : List D}, Rels K H vs ds → Slots K H (startD Ns.length ds) (L2.start Ns vs) := by
  intro vs ds r
  have hl := r.length
  refine ⟨by unfold startD L2.start; simp only [List.length_append, List.length_map, List.length_replicate]; omega, fun i d e => ?_⟩
  unfold startD at e
  by_cases hi : i < ds.length
  · rw [List.getElem?_append_left (by rw [List.length_map]; exact hi), List.getElem?_map] at e
    cases q : ds[i]? with
    | none => rw [q] at e; cases e
    | some d' =>
      rw [q] at e
      have e2 : d' = d := Option.some.inj (Option.some.inj e)
      subst e2
      obtain ⟨v, h1, h2⟩ := r.get q
      refine ⟨v, ?_, h2⟩
      unfold L2.start
      rw [List.getElem?_append_left (by rw [List.length_map]; omega), List.getElem?_map, h1]
      rfl
  · rw [List.getElem?_append_right (by rw [List.length_map]; omega), List.getElem?_replicate] at e
    split at e <;> cases e
theorem spI_len {vs : List V} {Q : VK} {n : Nat} (h : spI K P vs H Q E) (hn : ∀ ds μ Φ, P ds μ Φ → ds.length = n) : vs.length = n := by
  obtain ⟨ds, μ, Φ, r, _, p, _⟩ := h
  rw [r.length]; exact hn _ _ _ p
/-- a body keeps its promise -/
theorem body_ok {Ns : List Str} {vs : List V} {Q : VK} (h : spI K P vs H Q E) (hb : ∀ ds μ Φ, P ds μ Φ → AS K ts (startD Ns.length ds) μ { nx := fun _ μ' => Φ .non μ', rt := Φ }) :
    ts { nx := fun _ H' => Q .non H', rt := Q } (L2.start Ns vs) H := by
  obtain ⟨ds, μ, Φ, r, c, p, k⟩ := h
  exact hb ds μ Φ p _ H (slots_start r) c _ ⟨fun _ μ' _ H' f c' _ q => k .non μ' .non H' f c' .non q, fun d μ' v H' f c' r' q => k d μ' v H' f c' r' q, fun _ _ _ _ _ _ _ q => q.elim, fun _ _ _ _ _ _ _ q => q.elim, fun _ _ _ _ _ _ _ _ _ _ _ q => q.elim⟩
/-- a call -/
theorem a_call {ta : TA} (h : AA K ta τ μ fun ds μ1 => P ds μ1 Φ) : AE K (tCall (spI K P) [] E ta) τ μ Φ := fun σ H s c Q k =>
  h σ H s c _ fun ds μ1 vs H1 f1 c1 r1 p => by
    show spI K P (vs ++ []) H1 Q E
    rw [List.append_nil]
    exact ⟨ds, μ1, Φ, r1, c1, p, fun d μ' v H' f c' r q => k d μ' v H' (f1.trans f) c' r q⟩
end
end Z
namespace Z
open PySem L2
def sets {α : Type} : List (Option α) → List Nat → List α → List (Option α)
  | l, j :: js, d :: ds => sets (l.set j (some d)) js ds
  | l, _, _ => l
theorem wipe_at (σ : L2.St) (i : Nat) : ∀ vs : List Nat, (wipe σ vs)[i]? = if i ∈ vs then (σ[i]?).map fun _ => none else σ[i]?
  | [] => by simp [wipe]
  | v :: vs => by
    have ih := wipe_at σ i vs
    unfold wipe
    by_cases h : v = i
    · subst h
      rw [if_pos (List.mem_cons_self)]
      by_cases hl : v < (wipe σ vs).length
      · rw [List.getElem?_set_self hl]
        rw [wipe_length] at hl
        rw [List.getElem?_eq_getElem hl]
        rfl
      · rw [List.getElem?_eq_none (by rw [List.length_set]; omega)]
        rw [wipe_length] at hl
        rw [List.getElem?_eq_none (by omega)]
        rfl
    · rw [List.getElem?_set_ne h, ih]
      have e : (i ∈ v :: vs) = (i ∈ vs) := by
        rw [List.mem_cons]
        exact propext ⟨fun q => q.elim (fun z => absurd z.symm h) id, .inr⟩
      simp only [e]
theorem wipe_set {σ : L2.St} {j : Nat} {x : Option V} {vs : List Nat} (h : j ∈ vs) : wipe (σ.set j x) vs = wipe σ vs := by
  apply List.ext_getElem?
  intro i
  rw [wipe_at, wipe_at]
  by_cases hi : i ∈ vs
  · rw [if_pos hi, if_pos hi]
    by_cases e : j = i
    · subst e
      by_cases hl : j < σ.length
      · rw [List.getElem?_set_self hl, List.getElem?_eq_getElem hl]; rfl
      · rw [List.getElem?_eq_none (by rw [List.length_set]; omega), List.getElem?_eq_none (by omega)]
    · rw [List.getElem?_set_ne e]
  · rw [if_neg hi, if_neg hi, List.getElem?_set_ne (fun z => hi (by rw [← z]; exact h))]
theorem wipe_wipe {σ : L2.St} {vs : List Nat} : wipe (wipe σ vs) vs = wipe σ vs := by
  apply List.ext_getElem?
  intro i
  rw [wipe_at]
  by_cases hi : i ∈ vs
  · rw [if_pos hi, wipe_at, if_pos hi]
    cases σ[i]? <;> rfl
  · rw [if_neg hi]
theorem wipe_sets {vs : List Nat} : ∀ {σ : L2.St} {js : List Nat} {xs : List V}, (∀ j ∈ js, j ∈ vs) → wipe (sets σ js xs) vs = wipe σ vs
  | σ, [], xs, _ => by unfold sets; rfl
  | σ, j :: js, [], _ => by unfold sets; rfl
  | σ, j :: js, x :: xs, h => by
    unfold sets
    rw [wipe_sets (fun k hk => h k (List.mem_cons_of_mem _ hk)), wipe_set (h j List.mem_cons_self)]
section
variable {K : PySem.W.Frag} {τ : T} {μ μ1 μ2 : M} {H H1 H2 H' : Hp} {σ : L2.St} {Φ Ψ : D → M → Prop} {ta tb tc te : TE} {r r' : R2} {tt : TT} {x y z d e : D} {N : AEnds} {ts us : TS}
theorem slots_sets : ∀ {js : List Nat} {ds : List D} {vs : List V} {τ : T} {σ : L2.St}, Rels K H vs ds → Slots K H τ σ → Slots K H (sets τ js ds) (sets σ js vs)
  | [], _, _, _, _, _, s => by unfold sets; exact s
  | j :: js, _, _, _, _, .nil, s => by unfold sets; exact s
  | j :: js, _, _, _, _, .cons a b, s => by unfold sets; exact slots_sets b (s.set a j)
/-- the slots of a block: all of vs are stored by the target -/
theorem slots_block {js : List Nat} {ds : List D} {vs : List V} (s : Slots K H τ σ) (r : Rels K H vs ds) (hl : ds.length = js.length) : Slots K H (sets τ js ds) (sets (wipe σ js) js vs) := by
  -- a slot that js stores does not hang on what stood there
  have same : ∀ (js0 : List Nat) (js : List Nat) (vs : List V) (σ σ' : L2.St), σ.length = σ'.length → js.length = vs.length → (∀ i, i ∉ js → i ∉ js0 → σ[i]? = σ'[i]?) → (∀ i, i ∈ js0 → i ∉ js → σ[i]? = σ'[i]?) → sets σ js vs = sets σ' js vs := by
    intro js0 js
    induction js with
    | nil =>
      intro vs σ σ' hL _ h1 h2
      unfold sets
      apply List.ext_getElem?
      intro i
      by_cases hi : i ∈ js0
      · exact h2 i hi (by simp)
      · exact h1 i (by simp) hi
    | cons j js ih =>
      intro vs σ σ' hL hV h1 h2
      cases vs with
      | nil => simp at hV
      | cons v vs =>
        unfold sets
        refine ih vs _ _ (by simp [hL]) (by simpa using hV) (fun i hi hi0 => ?_) (fun i hi0 hi => ?_)
        · by_cases e : j = i
          · subst e
            by_cases hl : j < σ.length
            · rw [List.getElem?_set_self hl, List.getElem?_set_self (by omega)]
            · rw [List.getElem?_eq_none (by simp; omega), List.getElem?_eq_none (by simp; omega)]
          · rw [List.getElem?_set_ne e, List.getElem?_set_ne e]
            exact h1 i (by simp [hi]; exact fun z => e z.symm) hi0
        · by_cases e : j = i
          · subst e
            by_cases hl : j < σ.length
            · rw [List.getElem?_set_self hl, List.getElem?_set_self (by omega)]
            · rw [List.getElem?_eq_none (by simp; omega), List.getElem?_eq_none (by simp; omega)]
          · rw [List.getElem?_set_ne e, List.getElem?_set_ne e]
            exact h2 i hi0 (by simp [hi]; exact fun z => e z.symm)
  have e : sets (wipe σ js) js vs = sets σ js vs := by
    refine same [] js vs _ _ (by rw [wipe_length]) (by rw [r.length, hl]) (fun i hi _ => ?_) (fun i hi _ => by simp at hi)
    rw [wipe_at, if_neg hi]
  rw [e]
  exact slots_sets r s
/-- how a target takes an item apart -/
def TgOk (K : PySem.W.Frag) (g : TG) (js : List Nat) (dec : D → List D → Prop) : Prop :=
  ∀ d ds v σ H, dec d ds → Rel K H v d → ∀ Q : L2.St → Hp → Prop, (∀ vs, Rels K H vs ds → Q (sets σ js vs) H) → g v σ H Q
theorem tg_name {j : Nat} : TgOk K (gName j) [j] fun d ds => ds = [d] := fun d ds v σ H h r Q q => by
  subst h
  exact q [v] (.cons r .nil)
theorem tg_2 {i j : Nat} : TgOk K (gTup K 2 (gCons (gName i) (gCons (gName j) gNil))) [i, j] fun d ds => d = .tup ds ∧ ds.length = 2 := fun d ds v σ H h r Q q => by
  obtain ⟨e, hl⟩ := h
  subst e
  cases r with
  | @tup a xs _ ht hr =>
    have hx := hr.length
    match xs, hx.trans hl with
    | [x, y], _ => exact ⟨a, _, rfl, ht.sq, rfl, x, _, rfl, y, _, rfl, rfl, q _ hr⟩
theorem tg_3 {i j k : Nat} : TgOk K (gTup K 3 (gCons (gName i) (gCons (gName j) (gCons (gName k) gNil)))) [i, j, k] fun d ds => d = .tup ds ∧ ds.length = 3 := fun d ds v σ H h r Q q => by
  obtain ⟨e, hl⟩ := h
  subst e
  cases r with
  | @tup a xs _ ht hr =>
    have hx := hr.length
    match xs, hx.trans hl with
    | [x, y, z], _ => exact ⟨a, _, rfl, ht.sq, rfl, x, _, rfl, y, _, rfl, z, _, rfl, rfl, q _ hr⟩
theorem tg_4 {i j k l : Nat} : TgOk K (gTup K 4 (gCons (gName i) (gCons (gName j) (gCons (gName k) (gCons (gName l) gNil))))) [i, j, k, l] fun d ds => d = .tup ds ∧ ds.length = 4 := fun d ds v σ H h r Q q => by
  obtain ⟨e, hl⟩ := h
  subst e
  cases r with
  | @tup a xs _ ht hr =>
    have hx := hr.length
    match xs, hx.trans hl with
    | [x, y, z, w], _ => exact ⟨a, _, rfl, ht.sq, rfl, x, _, rfl, y, _, rfl, z, _, rfl, w, _, rfl, rfl, q _ hr⟩
/-- what a turn of a comprehension must show -/
def LcTurn (K : PySem.W.Frag) (τ : T) (tt : TT) (te : TE) (js : List Nat) (dec : D → List D → Prop) (x : D) (acc : List D) (μ : M) (P : List D → M → Prop) : Prop :=
  ∃ xs, dec x xs ∧ xs.length = js.length ∧ AT K tt (sets τ js xs) μ fun b μ1 => if b = true then AE K te (sets τ js xs) μ1 fun y μ2 => acc.length < sizeLine ∧ P (acc ++ [y]) μ2 else P acc μ1
/-- the list that is made is at Dl, outside of the store -/
structure LcAt (K : PySem.W.Frag) (Dl : Addr) (μ0 : M) (H0 : Hp) (acc : List D) (μ' : M) (H' : Hp) : Prop where
  fr : Fr μ0 μ' H0 H'
  con : Z.Con K H' μ'
  no : μ' Dl = none
  at_ : ∃ vs, H' Dl = some (.lst vs) ∧ Rels K H' vs acc
theorem upd_out {Dl : Addr} {vs : List V} {o : HO} (c : Z.Con K H μ) (no : μ Dl = none) (h : H Dl = some (.lst vs)) (ho : ∀ xs, o ≠ .tup xs) : Tx H (upd H Dl o) ∧ Z.Con K (upd H Dl o) μ := by
  have t : Tx H (upd H Dl o) := ⟨fun a xs e => by rw [upd_ne (fun z => by subst z; rw [h] at e; cases e)]; exact e, fun a ob xs e => by rw [upd_ne (fun z => by subst z; rw [h] at e; cases e)]; exact e,
    fun a q e => by rw [upd_ne (fun z => by subst z; rw [h] at e; unfold LamX.CodeO at e; cases e)]; exact e⟩
  exact ⟨t, fun a m e => (c a m e).mono t (upd_ne (fun z => by subst z; rw [no] at e; cases e))⟩
theorem lc_step {g : TG} {js : List Nat} {dec : D → List D → Prop} {Dl : Addr} {μ0 μ' : M} {H0 : Hp} {acc : List D} {P : List D → M → Prop} {Nx : Hp → Prop} {v : V} (hD : H0 Dl = none) (hg : TgOk K g js dec) (s : Slots K H0 τ σ) (c0 : Z.Con K H0 μ0) (L : LcAt K Dl μ0 H0 acc μ' H') (rx : Rel K H' v x) (ht : LcTurn K τ tt te js dec x acc μ' P)
    (hn : ∀ acc2 μ2 H2, LcAt K Dl μ0 H0 acc2 μ2 H2 → P acc2 μ2 → Nx H2) :
    g v (wipe σ js) H' fun σ2 H2 => wipe σ2 js = wipe σ js ∧ tt σ2 H2 fun b H3 => if b = true then te σ2 H3 fun y H4 => ∃ acc, H4 Dl = some (.lst acc) ∧ acc.length < sizeLine ∧ Nx (upd H4 Dl (.lst (acc ++ [y]))) else Nx H3 := by
  obtain ⟨xs, hd, hl, ht⟩ := ht
  obtain ⟨vs0, hv0, hr0⟩ := L.at_
  refine hg x xs v _ H' hd rx _ fun vs hvs => ⟨by rw [wipe_sets (fun _ h => h), wipe_wipe], ?_⟩
  have s' : Slots K H' (sets τ js xs) (sets (wipe σ js) js vs) := slots_block (s.mono (L.fr.tx c0)) hvs hl
  refine ht _ H' s' L.con _ fun b μ1 H1 f1 c1 p => ?_
  have n1 : μ1 Dl = none := (f1 Dl _ L.no hv0).2
  have h1 : H1 Dl = some (.lst vs0) := (f1 Dl _ L.no hv0).1
  cases b with
  | false => exact hn acc μ1 H1 ⟨L.fr.trans f1, c1, n1, vs0, h1, Rels.mono (f1.tx L.con) _ _ hr0⟩ p
  | true =>
    refine (show AE K te _ μ1 _ from p) _ H1 (s'.mono (f1.tx L.con)) c1 _ fun y μ2 w H2 f2 c2 r2 ⟨hz, p2⟩ => ?_
    have n2 : μ2 Dl = none := (f2 Dl _ n1 h1).2
    have h2 : H2 Dl = some (.lst vs0) := (f2 Dl _ n1 h1).1
    have hr2 : Rels K H2 vs0 acc := Rels.mono ((f1.trans f2).tx L.con) _ _ hr0
    obtain ⟨t3, c3⟩ := upd_out (o := .lst (vs0 ++ [w])) c2 n2 h2 (fun _ z => by cases z)
    refine ⟨vs0, h2, by rw [hr0.length]; exact hz, hn _ μ2 _ ⟨fun a o n e => ?_, c3, n2, _, upd_same, Rels.mono t3 _ _ (hr2.append (.cons r2 .nil))⟩ p2⟩
    have f := (L.fr.trans f1).trans f2
    obtain ⟨e2, m2⟩ := f a o n e
    exact ⟨by rw [upd_ne (ne_of_none e hD)]; exact e2, m2⟩
theorem lc_start {Dl : Addr} (c : Z.Con K H μ) (hD : H Dl = none) : LcAt K Dl μ H [] μ (upd H Dl (.lst [])) :=
  ⟨fr_new hD, con_new hD c, c.free hD, [], upd_same, .nil⟩
theorem lc_end {Dl : Addr} {μ0 μ' : M} {H0 : Hp} {acc : List D} (hD : H0 Dl = none) (L : LcAt K Dl μ0 H0 acc μ' H') : Fr μ0 (μ'.set Dl (.lst acc)) H0 H' ∧ Z.Con K H' (μ'.set Dl (.lst acc)) := by
  obtain ⟨vs, hv, hr⟩ := L.at_
  refine ⟨fun a o n e => ?_, con_back (m := .lst acc) L.con ⟨vs, hv, hr⟩⟩
  obtain ⟨e2, m2⟩ := L.fr a o n e
  exact ⟨e2, by rw [set_ne (ne_of_none e hD)]; exact m2⟩
/-- over a tuple -/
theorem a_lcT {tl : TE} {g : TG} {js : List Nat} {dec : D → List D → Prop} (hg : TgOk K g js dec) 
    (h : AE K tl τ μ fun d μ1 => ∃ (P : Nat → List D → M → Prop) (ds : List D), d = .tup ds ∧ P 0 [] μ1 ∧ (∀ (i : Nat) x acc μ', ds[i]? = some x → P i acc μ' → LcTurn K τ tt te js dec x acc μ' (P (i + 1))) ∧ ∀ acc μ', P ds.length acc μ' → ∀ p, μ' p = none → Φ (.ref p) (μ'.set p (.lst acc))) :
    AE K (tLc (iTup K tl) g tt te js) τ μ Φ := fun σ H s c Q k => h σ H s c _ fun d μ1 v H1 f1 c1 r1 ⟨P, ds, e, p0, hs, hd⟩ => by
  subst e
  cases r1 with
  | @tup a xs _ ha hr =>
    have s1 := s.mono (f1.tx c)
    refine ⟨a, rfl, ⟨xs, ha.sq⟩, fun Dl hD => lc_tup (K := K) (a := a) (xs := xs) (fun i H' => ∃ acc μ', LcAt K Dl μ1 H1 acc μ' H' ∧ P i acc μ') ⟨[], μ1, lc_start c1 hD, p0⟩ (fun i H' _ ⟨acc, μ', L, _⟩ => (ha.mono (L.fr.tx c1)).sq) ?_ ?_⟩
    · rintro i x H' hx ⟨acc, μ', L, p⟩
      obtain ⟨d, hd', rx⟩ := hr.getV hx
      exact lc_step hD hg s1 c1 L (Rel.mono (L.fr.tx c1) _ _ rx) (hs i d acc μ' hd' p) fun acc2 μ2 H2 L2 p2 => ⟨acc2, μ2, L2, p2⟩
    · rintro H' ⟨acc, μ', L, p⟩
      rw [hr.length] at p
      obtain ⟨f2, c2⟩ := lc_end hD L
      exact k _ _ _ H' (f1.trans f2) c2 (.ref Dl) (hd acc μ' p Dl L.no)
/-- pure elements: a filter and a map -/
theorem at_yes {Θ : Bool → M → Prop} (h : Θ true μ) : AT K tYes τ μ Θ := fun σ H s c Q k => k true μ H Fr.refl c h
end
end Z
namespace Z
open PySem L2
section
variable {K : PySem.W.Frag} {τ : T} {μ μ1 μ2 : M} {H H1 H2 H' : Hp} {σ : L2.St} {Φ Ψ : D → M → Prop} {ta tb tc te : TE} {r r' : R2} {tt : TT} {x y z d e : D} {N : AEnds} {ts us : TS}
theorem s_par3 {i j l : Nat} {ta : TA} (h : AA K ta τ μ fun ds μ' => ∃ d e w, ds = [d, e, w] ∧ N.nx (((τ.set i (some d)).set j (some e)).set l (some w)) μ') : AS K (tPar3 i j l ta) τ μ N := fun σ H s c E k =>
  h σ H s c _ fun ds μ' vs H' f c' r ⟨d, e, w, q, p⟩ => by
    subst q
    cases r with
    | cons r1 r2 =>
      cases r2 with
      | cons r2 r3 =>
        cases r3 with
        | cons r3 r4 =>
          cases r4
          exact ⟨_, _, _, rfl, k.nx _ μ' _ H' f c' ((((s.mono (f.tx c)).set r1 i).set r2 j).set r3 l) p⟩
def tyn (μ : M) : D → Option String
  | .non => some "NoneType"
  | .bl _ => some "bool"
  | .int _ => some "int"
  | .str _ => some "str"
  | .tup _ => some "tuple"
  | .rol _ => some "list"
  | .ref a => match μ a with
    | some (.lst _) => some "list"
    | some (.dK _) => some "dict"
    | some (.dT _) => some "dict"
    | _ => none
  | .ty _ => none
theorem tyx_of {v : V} {n : String} (c : Z.Con K H μ) (r : Rel K H v d) (h : tyn μ d = some n) : TyX K H v (.type n) := by
  cases r with
  | non => cases h; exact .base .non
  | bl => cases h; exact .base (.bl _)
  | int => cases h; exact .base (.int _)
  | str => cases h; exact .base (.str _)
  | ty => cases h
  | tup ht hr =>
    cases h
    cases ht with
    | inl ht => exact .base (.tup ht)
  | rol ht hr =>
    cases h
    rcases ht with ⟨o, ht⟩ | ⟨o, its, m, h1, h2, _⟩
    · exact .base (.frz ht)
    · exact .kList h1 h2
  | ref a =>
    unfold tyn at h
    simp only at h
    split at h
    · rename_i e; cases h; obtain ⟨xs, hx, _⟩ := c _ _ e; exact .base (.lst hx)
    · rename_i e; cases h; obtain ⟨xs, hx, _⟩ := c _ _ e; exact .base (.dK hx)
    · rename_i e; cases h; obtain ⟨xs, hx, _⟩ := c _ _ e; exact .base (.dT hx)
    · cases h
theorem rc_isi {n m : String} {b : Bool} (h : tyn μ d = some n) (hk : kitB n m = some b) (q : Φ (.bl b) μ) : RC K (rIsi K) [d, .ty m] μ Φ := fun H xs c r1 Q k => by
  cases r1 with
  | cons a r2 =>
    cases r2 with
    | cons a2 r3 =>
      cases a2; cases r3
      exact ⟨_, _, .type n, .type m, b, rfl, .ty m, tyx_of c a h, kit_ty hk, k _ μ _ H Fr.refl c (.bl _) q⟩
theorem a_chain (h : AE K ta τ μ fun d μ1 => AE K tb τ μ1 fun e μ2 => RO K r d e μ2 fun z μ3 => ∃ b, z = .bl b ∧ if b = true then AE K tc τ μ3 fun w μ4 => RO K r' e w μ4 Φ else Φ (.bl false) μ3) : AE K (tChain r r' ta tb tc) τ μ Φ := fun σ H s c Q k =>
  h σ H s c _ fun d μ1 v H1 f1 c1 r1 p1 => p1 σ H1 (s.mono (f1.tx c)) c1 _ fun e μ2 u H2 f2 c2 r2 p2 =>
    p2 H2 v u c2 (Rel.mono (f2.tx c1) _ _ r1) r2 _ fun z μ3 w H3 f3 c3 rz ⟨b, ez, p3⟩ => by
      subst ez
      cases rz
      refine ⟨b, rfl, ?_⟩
      cases b with
      | false => exact k _ μ3 _ H3 ((f1.trans f2).trans f3) c3 (.bl false) (show Φ (.bl false) μ3 from p3)
      | true =>
        exact (show AE K tc τ μ3 _ from p3) σ H3 (s.mono (((f1.trans f2).trans f3).tx c)) c3 _ fun w μ4 w' H4 f4 c4 r4 p4 =>
          p4 H4 u w' c4 (Rel.mono ((f3.trans f4).tx c2) _ _ r2) r4 Q fun z μ5 o H5 f5 c5 rz pz => k z μ5 o H5 ((((f1.trans f2).trans f3).trans f4).trans f5) c5 rz pz
def rInS (K : PySem.W.Frag) (neg : Bool) : R2 := fun x y H Q => ∃ d ds, Dp K H x d ∧ (Dp K H y (.list ds) ∨ Dp K H y (.tuple ds)) ∧ SeqAt.shaped d = true ∧ SeqAt.shaped (.list ds) = true ∧ Q (.bl (if neg then !ds.any fun z => PyData.eqv z d else ds.any fun z => PyData.eqv z d)) H
theorem op_notInS {X : Cx} (hu : X.A.units + 65 < cLine) : OpR X (compareOp .NotIn) (rInS X.K true) := by
  intro pins s σ H x y v u Q I rx ry h
  obtain ⟨d, ds, hd, he, sd, se, q⟩ := h
  obtain ⟨as, r1⟩ := Dp.reads I d x v hd rx
  rcases he with he | he
  · obtain ⟨bs, r2⟩ := Dp.reads I (.list ds) y u he ry
    exact SeqAt.notIn_list_reads r2 r1 (SeqAt.canLay_of_shaped se) (SeqAt.canLay_of_shaped sd) (PyProof.Rows.room_in_shaped sd hu) ⟨.bl _, H, I, rfl, q⟩
  · obtain ⟨bs, r2⟩ := Dp.reads I (.tuple ds) y u he ry
    exact SeqAt.notIn_tuple_reads r2 r1 (SeqAt.canLay_of_shaped se) (SeqAt.canLay_of_shaped sd) (PyProof.Rows.room_in_shaped sd hu) ⟨.bl _, H, I, rfl, q⟩
theorem seq_dp {v : V} {ds : List D} (c : Z.Con K H μ) (r : Rel K H v d) (h : seqD μ d = some ds) (hp : D.plains ds = true) : Dp K H v (.list (D.pys ds)) ∨ Dp K H v (.tuple (D.pys ds)) := by
  cases r with
  | tup ht hr => cases h; exact .inr (.tup ht.sq (Rels.dp _ _ hr hp))
  | rol ht hr => cases h; exact .inl (.lst ht.sq (Rels.dp _ _ hr hp))
  | ref a =>
    unfold seqD at h
    simp only at h
    split at h
    · rename_i ds' e
      cases h
      obtain ⟨xs, h1, h2⟩ := c _ _ e
      exact .inl (.lst (SqL.of h1) (Rels.dp _ _ h2 hp))
    · cases h
  | non => cases h
  | bl => cases h
  | int => cases h
  | str => cases h
  | ty => cases h
def inD (d : D) (ds : List D) : Bool := ds.any fun z => D.eqv z d
theorem inD_pys (d : D) : ∀ ds : List D, (D.pys ds).any (fun z => PyData.eqv z (D.py d)) = inD d ds
  | [] => by simp [D.pys, inD]
  | x :: ds => by
    have ih := inD_pys d ds
    unfold inD at ih ⊢
    simp only [D.pys, List.any_cons, ih]
    rfl
theorem ro_inS {neg : Bool} {ds : List D} (hs : seqD μ e = some ds) (h1 : D.ok d = true) (h2 : D.ok (.tup ds) = true) (q : Φ (.bl (if neg then !inD d ds else inD d ds)) μ) : RO K (rInS K neg) d e μ Φ := fun H x y c r1 r2 Q k => by
  unfold D.ok at h1 h2
  rw [Bool.and_eq_true] at h1 h2
  have p2 : D.plains ds = true := by simpa only [D.plain] using h2.1
  refine ⟨_, D.pys ds, Rel.dp _ _ r1 h1.1, seq_dp c r2 hs p2, h1.2, ?_, ?_⟩
  · have h3 := h2.2
    simp only [D.py] at h3
    exact h3
  · rw [inD_pys]
    exact k _ μ _ H Fr.refl c (.bl _) q
end
/-- a def of the text with its promise -/
structure Def (P : Program) (w : World) (K : PySem.W.Frag) (mg : Str → Option Value) (base : Heap) (x : Str) (ps : List Str) (k : Nat) (sp : Sp) : Prop where
  ex : ∃ f fd, FnOk P w K mg base CX0 k f fd ps sp ∧ mg x = some (.ref f) ∧ PySem.W.keepIn K (.ref f) = true ∧ Binds K fd ps []
section
variable {X : Cx} {k : Nat} {ps : List Str} {sp : Sp} {x : Str} {p pos : Pos} {e : Expr} {es : List Expr} {t : TA}
theorem pe_def (G : Def X.prog X.w X.K X.mg X.base x ps k sp) (hr : Room k X.A) (hg : Gl X x)
    (ha : PA X (e :: es) t) (hdb : (x == ("__debug__" : Str)) = false := by decide) (he : starEach (e :: es) X.env = (false, eval e X.env) :: starEach es X.env := by rfl) (hpl : (backTo pos (starEach es X.env)).any (·.1) = false := by rfl) :
    PE X (.Call (.Name x p) (e :: es) [] pos) (tCall sp [] E0 t) := by
  obtain ⟨f, fd, F, hm, hk, hb⟩ := G.ex
  exact pe_call F hr hg hm hk hb .nil pass0 ha hdb he hpl
end
end Z
namespace Z
open PySem L2
theorem seq_ref {μ : M} {a : Addr} {ds : List D} (h : μ a = some (.lst ds)) : seqD μ (.ref a) = some ds := by
  show (match μ a with | some (.lst ds) => some ds | _ => none) = some ds
  rw [h]
def Sz (n : Nat) (x : Int) : Prop := x.natAbs < 2 ^ n
instance {n : Nat} {x : Int} : Decidable (Sz n x) := inferInstanceAs (Decidable (x.natAbs < 2 ^ n))
theorem sz_mono {a b : Nat} {x : Int} (h : Sz a x) (l : a ≤ b) : Sz b x := Nat.lt_of_lt_of_le h (Nat.pow_le_pow_right (by decide) l)
theorem sz_add {a b : Nat} {x y : Int} (h : Sz a x) (k : Sz b y) : Sz (max a b + 1) (x + y) := by
  have h1 : x.natAbs < 2 ^ (max a b) := Nat.lt_of_lt_of_le h (Nat.pow_le_pow_right (by decide) (Nat.le_max_left _ _))
  have h2 : y.natAbs < 2 ^ (max a b) := Nat.lt_of_lt_of_le k (Nat.pow_le_pow_right (by decide) (Nat.le_max_right _ _))
  have h3 := Int.natAbs_add_le x y
  unfold Sz
  rw [Nat.pow_succ]
  omega
theorem sz_neg {a : Nat} {x : Int} (h : Sz a x) : Sz a (-x) := by
  unfold Sz
  rw [Int.natAbs_neg]
  exact h
theorem sz_sub {a b : Nat} {x y : Int} (h : Sz a x) (k : Sz b y) : Sz (max a b + 1) (x - y) := by
  rw [Int.sub_eq_add_neg]
  exact sz_add h (sz_neg k)
theorem sz_mul {a b : Nat} {x y : Int} (h : Sz a x) (k : Sz b y) : Sz (a + b) (x * y) := wide_lt h k
theorem sz_mod {a : Nat} {x y : Int} (hy : 0 < y) (k : Sz a y) : Sz a (x % y) := by
  have h1 := Int.emod_nonneg x (by omega : y ≠ 0)
  have h2 := Int.emod_lt_of_pos x hy
  have k' : y.natAbs < 2 ^ a := k
  unfold Sz
  omega
theorem sz_lt {a : Nat} {x y : Int} (h0 : 0 ≤ x) (h1 : x < y) (k : Sz a y) : Sz a x := by
  have k' : y.natAbs < 2 ^ a := k
  unfold Sz
  omega
theorem sz_b {b : Bool} : Sz 1 (if b then 1 else 0) := by cases b <;> decide
theorem sz_128 {x : Int} (h : decide (x.natAbs < 2 ^ 128) = true) : Sz 128 x := of_decide_eq_true h
theorem sz_2 {x : Int} (h : decide (x.natAbs < 2 ^ 2) = true) : Sz 2 x := of_decide_eq_true h
theorem sz_8 {x : Int} (h : decide (x.natAbs < 2 ^ 8) = true) : Sz 8 x := of_decide_eq_true h
theorem sz_32 {x : Int} (h : decide (x.natAbs < 2 ^ 32) = true) : Sz 32 x := of_decide_eq_true h
theorem hu65_of {k : Nat} {A : Around} (hr : Room k A) : A.units + 65 < cLine := by have := hr.un; omega
theorem mulw_of {a b : Nat} {x y : Int} (h : Sz a x) (k : Sz b y) (l : (a + 1) + (b + 1) ≤ 1000000) : CMulW x y :=
  wide_mul (a := a + 1) (b := b + 1) (sz_mono h (Nat.le_succ a)) (sz_mono k (Nat.le_succ b)) (Nat.succ_pos _) (Nat.succ_pos _) l
theorem divw_of {b : Nat} {x y : Int} (h : 0 < y) (k : Sz b y) (l : b + 1 ≤ 9000) : CDivW x y := wide_div (b := b + 1) h (sz_mono k (Nat.le_succ b)) (Nat.succ_pos _) l
abbrev pt (x y : Int) : D := .tup [.int x, .int y]
def sgn (n : Int) : Int := if 0 < n then 1 else if n < 0 then -1 else 0
section
variable {X : Cx} {K : PySem.W.Frag}
theorem ix_seqK (h : X.K = K) : IxR X (rIx K) := by subst h; exact ix_seq
theorem op_eqDK (h : X.K = K) (hu : X.A.units + 64 < cLine) : OpR X (compareOp .Eq) (rEqD K) := by subst h; exact op_eqD hu
theorem op_notInSK (h : X.K = K) (hu : X.A.units + 65 < cLine) : OpR X (compareOp .NotIn) (rInS K true) := by subst h; exact op_notInS hu
theorem call_isiK1 (h : X.K = K) : CallR X (.builtin "isinstance") (rIsi K) := by subst h; exact call_isi
theorem call_lenK (h : X.K = K) : CallR X (.builtin "len") (fun xs H Q => ∃ x n, xs = [x] ∧ LenV K x H n ∧ Q (.int n) H) := by subst h; exact call_len
theorem pi_tupK {tg l : Expr} {tl : TE} (h : X.K = K) (hl : PE X l tl) : PI X tg l (iTup K tl) := by subst h; exact pi_tup hl
end
end Z
namespace Z
open PySem L2
def P_law : PT3 := fun ds μ Φ => ∃ ns : List Int, ds = [.rol (ns.map D.int)] ∧ ns.length ≤ 63 ∧ ∀ μ', Φ (.bl true) μ'
theorem rels_map {K : PySem.W.Frag} {H : Hp} : ∀ ns : List Int, Rels K H (ns.map V.int) (ns.map D.int)
  | [] => .nil
  | n :: ns => .cons (.int n) (rels_map ns)
theorem law_start {K : PySem.W.Frag} {H : Hp} {a : Addr} {ns : List Int} (hl : ns.length ≤ 63) (hO : Only H) (hS : SqL K H a (ns.map V.int)) : spI K P_law [.ref a] H (fun v _ => v = .bl true) fun _ _ _ => False := by
  have hr : RolAt K H a (ns.map V.int) := by
    rcases hS with (h | ⟨o, h⟩) | h
    · rcases hO a with e | ⟨o, xs, e⟩
      · rw [e] at h; cases h
      · rw [e] at h; cases h
    · exact .inl ⟨o, h⟩
    · exact .inr h
  refine ⟨[.rol (ns.map D.int)], fun _ => none, fun d _ => d = .bl true, .cons (.rol hr (rels_map ns)) .nil, fun a m e => (by cases e), ⟨ns, rfl, hl, fun _ => rfl⟩, fun d μ' v H' f c r e => ?_⟩
  subst e
  cases r
  rfl
theorem len_law (ds : List D) (μ : M) (Φ : D → M → Prop) (h : P_law ds μ Φ) : ds.length = 1 := by
  obtain ⟨ns, rfl, _⟩ := h
  rfl
def P_l_cell_at : PT3 := fun ds μ Φ => ∃ (ns : List Int) (k : Int), ds = [.rol (ns.map D.int), .int k] ∧ 0 ≤ k ∧ ∀ z, Φ (.int z) μ
theorem len_l_cell_at (ds : List D) (μ : M) (Φ : D → M → Prop) (h : P_l_cell_at ds μ Φ) : ds.length = 2 := by
  obtain ⟨_, _, rfl, _⟩ := h
  rfl
/-- a bag: what its second number is -/
def BgOk (m : Int) : Prop := 0 ≤ m ∧ m < 2147483648
def P_l_bag : PT3 := fun ds μ Φ => ∃ (ns : List Int) (k : Int), ds = [.rol (ns.map D.int), .int k] ∧ 0 ≤ k ∧ k ≤ 1000 ∧ ∀ p c m, μ p = none → BgOk m → Φ (.ref p) (μ.set p (.lst [.int c, .int m]))
theorem len_l_bag (ds : List D) (μ : M) (Φ : D → M → Prop) (h : P_l_bag ds μ Φ) : ds.length = 2 := by
  obtain ⟨_, _, rfl, _⟩ := h
  rfl
def P_l_take : PT3 := fun ds μ Φ => ∃ (b : Addr) (n c m : Int), ds = [.ref b, .int n] ∧ μ b = some (.lst [.int c, .int m]) ∧ BgOk m ∧ 0 < n ∧ Sz 4000 n ∧ ∀ d c' m', 0 ≤ d → d < n → Sz 4000 d → BgOk m' → Φ (.int d) (μ.set b (.lst [.int c', .int m']))
theorem len_l_take (ds : List D) (μ : M) (Φ : D → M → Prop) (h : P_l_take ds μ Φ) : ds.length = 2 := by
  obtain ⟨_, _, _, _, rfl, _⟩ := h
  rfl
theorem cast_int {Φ : D → M → Prop} {μ : M} {a b : Int} (e : a = b) (h : Φ (.int b) μ) : Φ (.int a) μ := by rw [e]; exact h
theorem iteNT {A B : Prop} (h : B) : if (!true) = true then A else B := h
theorem iteNF {A B : Prop} (h : A) : if (!false) = true then A else B := h
/-- an if whose test is a comparison -/
theorem ite_d {p : Prop} [Decidable p] {A B : Prop} (h1 : p → A) (h2 : ¬ p → B) : if decide p = true then A else B := by
  by_cases h : p
  · rw [if_pos (decide_eq_true h)]; exact h1 h
  · rw [if_neg (by simpa using h)]; exact h2 h
theorem ite_nd {p : Prop} [Decidable p] {A B : Prop} (h1 : ¬ p → A) (h2 : p → B) : if (!decide p) = true then A else B := by
  by_cases h : p
  · rw [if_neg (by simpa using h)]; exact h2 h
  · rw [if_pos (by simpa using h)]; exact h1 h
theorem map_get {ns : List Int} {k : Int} (h0 : 0 ≤ k) (h1 : k < ns.length) : ∃ z, atI (ns.map D.int) k = some (.int z) := by
  obtain ⟨j, rfl⟩ := Int.eq_ofNat_of_zero_le h0
  have hj : j < ns.length := by omega
  exact ⟨ns[j], atI_nat (by rw [List.getElem?_map, List.getElem?_eq_getElem hj]; rfl)⟩
/-- an if, then a word of what holds behind it -/
theorem if_cut {K : PySem.W.Frag} {τ : T} {μ : M} {N : AEnds} {t1 t2 : TS} {b : Bool} (M0 : T → M → Prop) (h1 : b = true → AS K t1 τ μ { N with nx := M0 }) (h2 : b = false → AS K t2 τ μ { N with nx := M0 }) (k : ∀ τ' μ', M0 τ' μ' → N.nx τ' μ') :
    if b = true then AS K t1 τ μ N else AS K t2 τ μ N := by
  cases b with
  | true => rw [if_pos rfl]; exact (h1 rfl).imp k (fun _ _ h => h) (fun _ _ h => h) fun _ _ h => h
  | false => rw [if_neg Bool.false_ne_true]; exact (h2 rfl).imp k (fun _ _ h => h) (fun _ _ h => h) fun _ _ h => h
section
variable {K : PySem.W.Frag} {τ : T} {μ μ1 μ2 : M} {Φ : D → M → Prop} {tl te : TE} {tt : TT}
theorem sets1 {j : Nat} {x : D} : sets τ [j] [x] = τ.set j (some x) := rfl
theorem filt_step {f : D → D} {p : D → Bool} {ds : List D} {i : Nat} {x : D} (h : ds[i]? = some x) : (ds.take (i + 1)).filter p = (ds.take i).filter p ++ (if p x = true then [x] else []) := by
  rw [List.take_add_one, h, List.filter_append]
  congr 1
  simp only [Option.toList_some, List.filter_cons, List.filter_nil]
theorem lc_pure_turn {j : Nat} (f : D → D) (p : D → Bool) {ds : List D} {i : Nat} {x : D} (hz : ds.length < sizeLine) (hx : ds[i]? = some x)
    (ht : AT K tt (τ.set j (some x)) μ1 fun b μ2 => b = p x ∧ μ2 = μ1) (he : p x = true → AE K te (τ.set j (some x)) μ1 fun y μ2 => y = f x ∧ μ2 = μ1) :
    LcTurn K τ tt te [j] (fun d ds => ds = [d]) x (((ds.take i).filter p).map f) μ1 fun acc μ' => μ' = μ1 ∧ acc = ((ds.take (i + 1)).filter p).map f := by
  refine ⟨[x], rfl, rfl, ?_⟩
  rw [sets1]
  refine ht.imp fun b μ' ⟨e1, e2⟩ => ?_
  subst e2
  rw [filt_step (f := f) hx]
  cases b with
  | true =>
    rw [if_pos rfl]
    refine (he e1.symm).imp fun y μ' ⟨e3, e4⟩ => ?_
    subst e4
    refine ⟨?_, rfl, ?_⟩
    · rw [List.length_map]
      have h1 := List.length_filter_le p (ds.take i)
      have h2 : (ds.take i).length ≤ ds.length := by rw [List.length_take]; omega
      omega
    · rw [if_pos e1.symm, List.map_append, e3]
      rfl
  | false =>
    rw [if_neg Bool.false_ne_true]
    refine ⟨rfl, ?_⟩
    rw [if_neg (by rw [← e1]; exact Bool.false_ne_true), List.append_nil]
/-- over a tuple -/
theorem a_lcT_pure {j : Nat} (f : D → D) (p : D → Bool) (h : AE K tl τ μ fun d μ1 => ∃ ds, d = .tup ds ∧ ds.length < sizeLine ∧ (∀ x ∈ ds, AT K tt (τ.set j (some x)) μ1 fun b μ2 => b = p x ∧ μ2 = μ1) ∧ (∀ x ∈ ds, p x = true → AE K te (τ.set j (some x)) μ1 fun y μ2 => y = f x ∧ μ2 = μ1) ∧ ∀ q, μ1 q = none → Φ (.ref q) (μ1.set q (.lst ((ds.filter p).map f)))) :
    AE K (tLc (iTup K tl) (gName j) tt te [j]) τ μ Φ := a_lcT tg_name (h.imp fun d μ1 ⟨ds, e, hz, ht, he, q⟩ => by
  refine ⟨fun i acc μ' => μ' = μ1 ∧ acc = ((ds.take i).filter p).map f, ds, e, ⟨rfl, rfl⟩, ?_, ?_⟩
  · rintro i x acc μ' hx ⟨rfl, rfl⟩
    exact lc_pure_turn f p hz hx (ht x (List.mem_of_getElem? hx)) (he x (List.mem_of_getElem? hx))
  · rintro acc μ' ⟨rfl, rfl⟩ a ha
    rw [List.take_length]
    exact q a ha)
end
end Z
namespace Z
open PySem L2
end Z
namespace Z
open PySem L2
abbrev Fq := Int × Int
abbrev Pl := Fq × Fq
end Z
namespace Z
open PySem L2
section
variable {K : PySem.W.Frag} {μ μ' : M} {Φ : D → M → Prop} {b l : Addr} {X : MO}
theorem ro_isB {a b : Bool} (q : Φ (.bl (decide (a = b))) μ) : RO K rIsB (.bl a) (.bl b) μ Φ := fun H x y c r1 r2 Q k => by
  cases r1; cases r2
  exact ⟨a, b, rfl, rfl, k _ μ _ H Fr.refl c (.bl _) q⟩
theorem ro_notB {a b : Bool} (q : Φ (.bl (!decide (a = b))) μ) : RO K rNotB (.bl a) (.bl b) μ Φ := fun H x y c r1 r2 Q k => by
  cases r1; cases r2
  exact ⟨a, b, rfl, rfl, k _ μ _ H Fr.refl c (.bl _) q⟩
end
structure Gd (n : Nat) (p : Fq) : Prop where
  pos : 0 < p.2
  s1 : Sz n p.1
  s2 : Sz n p.2
structure GdP (n : Nat) (p : Pl) : Prop where
  x : Gd n p.1
  y : Gd n p.2
theorem Gd.mono {n m : Nat} {p : Fq} (h : Gd n p) (l : n ≤ m) : Gd m p := ⟨h.pos, sz_mono h.s1 l, sz_mono h.s2 l⟩
theorem GdP.mono {n m : Nat} {p : Pl} (h : GdP n p) (l : n ≤ m) : GdP m p := ⟨h.x.mono l, h.y.mono l⟩
end Z
namespace Z
open PySem L2
def AO (K : PySem.W.Frag) (to : TO) (τ : T) (μ : M) (Θ : Option Int → M → Prop) : Prop :=
  ∀ σ H, Slots K H τ σ → Z.Con K H μ → ∀ R : Option Int → Hp → Prop, (∀ o μ' H', Fr μ μ' H H' → Z.Con K H' μ' → Θ o μ' → R o H') → to σ H R
/-- what a slice of d answers -/
def RS (K : PySem.W.Frag) (r : V → Option Int → Option Int → Hp → VK → Prop) (d : D) (lo hi : Option Int) (μ : M) (Φ : D → M → Prop) : Prop :=
  ∀ H x, Z.Con K H μ → Rel K H x d → ∀ Q : VK, (∀ z μ' v H', Fr μ μ' H H' → Z.Con K H' μ' → Rel K H' v z → Φ z μ' → Q v H') → r x lo hi H Q
def cutD (ds : List D) (lo hi : Option Int) : List D := (ds.drop (HT.sIx ds.length 0 lo)).take (HT.sIx ds.length ds.length hi - HT.sIx ds.length 0 lo)
section
variable {K : PySem.W.Frag} {τ : T} {μ μ1 μ2 : M} {H H1 H2 H' : Hp} {σ : L2.St} {Φ : D → M → Prop} {ta tl te : TE} {to tp : TO} {Θ : Option Int → M → Prop} {d e : D}
theorem ao_no (h : Θ none μ) : AO K tNoPart τ μ Θ := fun σ H s c R k => k none μ H Fr.refl c h
theorem ao_pt (h : AE K te τ μ fun d μ1 => ∃ i, d = .int i ∧ Θ (some i) μ1) : AO K (tPart te) τ μ Θ := fun σ H s c R k => h σ H s c _ fun d μ1 v H1 f1 c1 r1 ⟨i, e, q⟩ => by
  subst e
  cases r1
  exact ⟨i, rfl, k (some i) μ1 H1 f1 c1 q⟩
theorem a_sl {r : V → Option Int → Option Int → Hp → VK → Prop} (h : AE K te τ μ fun d μ1 => AO K to τ μ1 fun lo μ2 => AO K tp τ μ2 fun hi μ3 => RS K r d lo hi μ3 Φ) : AE K (L2.tSl r te to tp) τ μ Φ := fun σ H s c Q k =>
  h σ H s c _ fun d μ1 v H1 f1 c1 r1 p1 => p1 σ H1 (s.mono (f1.tx c)) c1 _ fun lo μ2 H2 f2 c2 p2 => p2 σ H2 (s.mono ((f1.trans f2).tx c)) c2 _ fun hi μ3 H3 f3 c3 p3 =>
    p3 H3 v c3 (Rel.mono ((f2.trans f3).tx c1) _ _ r1) Q fun z μ' w H' f c' rz pz => k z μ' w H' (((f1.trans f2).trans f3).trans f) c' rz pz
theorem Rels.cut {vs : List V} {ds : List D} (lo hi : Option Int) (r : Rels K H vs ds) : Rels K H (cutV vs lo hi) (cutD ds lo hi) := by
  unfold cutV cutD
  rw [r.length]
  exact (r.drop _).take _
theorem rs_ref {a : Addr} {ds : List D} {lo hi : Option Int} (h : μ a = some (.lst ds)) (q : ∀ p, μ p = none → Φ (.ref p) (μ.set p (.lst (cutD ds lo hi)))) : RS K (rSlL K) (.ref a) lo hi μ Φ := fun H x c r Q k => by
  cases r
  obtain ⟨xs, hx, hr⟩ := c a _ h
  exact ⟨a, xs, rfl, SqL.of hx, fun p hp => k _ _ _ _ (fr_put hp) (con_put (m := .lst (cutD ds lo hi)) hp c ⟨_, upd_same, Rels.mono (tx_new hp) _ _ (hr.cut lo hi)⟩) (.ref p) (q p (c.free hp))⟩
theorem rs_rol {ds : List D} {lo hi : Option Int} (q : ∀ p, μ p = none → Φ (.ref p) (μ.set p (.lst (cutD ds lo hi)))) : RS K (rSlL K) (.rol ds) lo hi μ Φ := fun H x c r Q k => by
  cases r with
  | @rol a xs _ ht hr => exact ⟨a, xs, rfl, ht.sq, fun p hp => k _ _ _ _ (fr_put hp) (con_put (m := .lst (cutD ds lo hi)) hp c ⟨_, upd_same, Rels.mono (tx_new hp) _ _ (hr.cut lo hi)⟩) (.ref p) (q p (c.free hp))⟩
/-- two lists of the store, put together -/
theorem ro_cat {a b : Addr} {ds es : List D} (h1 : μ a = some (.lst ds)) (h2 : μ b = some (.lst es)) (hz : ds.length + es.length ≤ sizeLine) (q : ∀ p, μ p = none → Φ (.ref p) (μ.set p (.lst (ds ++ es)))) : RO K rCat (.ref a) (.ref b) μ Φ := fun H x y c r1 r2 Q k => by
  cases r1
  cases r2
  obtain ⟨xs, hx, hr⟩ := c a _ h1
  obtain ⟨ys, hy, hr2⟩ := c b _ h2
  exact ⟨a, b, xs, ys, rfl, rfl, hx, hy, by rw [hr.length, hr2.length]; exact hz, fun p hp => k _ _ _ _ (fr_put hp) (con_put (m := .lst (ds ++ es)) hp c ⟨_, upd_same, Rels.mono (tx_new hp) _ _ (hr.append hr2)⟩) (.ref p) (q p (c.free hp))⟩
end
end Z
namespace Z
open PySem L2
end Z
namespace Z
open PySem L2
section
variable {K : PySem.W.Frag} {τ : T} {μ μ1 μ2 : M} {H H1 H2 H' : Hp} {σ : L2.St} {Φ : D → M → Prop} {ta tl te : TE} {tt tt1 : TT} {g g1 : TG} {wi wi1 : TI} {d e : D}
theorem cutD_all {ds : List D} {lo hi : Option Int} (h : HT.sIx ds.length 0 lo = 0 ∧ HT.sIx ds.length ds.length hi = ds.length) : cutD ds lo hi = ds := by
  unfold cutD
  rw [h.1, h.2]
  simp
theorem rs_tupA {ds : List D} {lo hi : Option Int} (q : Φ (.tup (cutD ds lo hi)) μ) : RS K (rSlA K) (.tup ds) lo hi μ Φ := fun H x c r Q k => by
  cases r with
  | @tup a xs _ ht hr =>
    refine ⟨a, xs, rfl, ht.sq, fun hw => ?_, fun hw p hp => k _ μ _ _ (fr_new hp) (con_new hp c) (.tup (.inl upd_same) (Rels.mono (tx_new hp) _ _ (hr.cut lo hi))) q⟩
    rw [hr.length] at hw
    rw [cutD_all hw] at q
    exact k _ μ _ _ Fr.refl c (.tup ht hr) q
theorem ro_catA {ds es : List D} (hz : ds.length + es.length ≤ sizeLine) (q : Φ (.tup (ds ++ es)) μ) : RO K (rCatA K) (.tup ds) (.tup es) μ Φ := fun H x y c r1 r2 Q k => by
  cases r1 with
  | @tup a xs _ ht hr =>
    cases r2 with
    | @tup b ys _ ht2 hr2 =>
      refine ⟨a, b, xs, ys, rfl, rfl, ht.sq, ht2.sq, by rw [hr.length, hr2.length]; exact hz, fun z => ?_, fun _ z => ?_, fun _ _ p hp => ?_⟩
      · subst z; cases hr; exact k _ μ _ _ Fr.refl c (.tup ht2 hr2) q
      · subst z; cases hr2; rw [List.append_nil] at q; exact k _ μ _ _ Fr.refl c (.tup ht hr) q
      · exact k _ μ _ _ (fr_new hp) (con_new hp c) (.tup (.inl upd_same) (Rels.mono (tx_new hp) _ _ (hr.append hr2))) q
variable {Ψ : List D → M → (M → M) → Prop}
end
end Z
namespace Z
open PySem L2
/-- plain, and n deep at most -/
structure OkN (n : Nat) (d : D) : Prop where
  p : D.plain d = true
  l : (D.py d).canLay0 = true
  d : (D.py d).depth ≤ n
theorem OkN.mono {n m : Nat} {d : D} (h : OkN n d) (l : n ≤ m) : OkN m d := ⟨h.p, h.l, Nat.le_trans h.d l⟩
theorem OkN.ok {n : Nat} {d : D} (h : OkN n d) (l : n ≤ 64) : D.ok d = true := by
  unfold D.ok SeqAt.shaped
  rw [h.p, h.l, decide_eq_true (Nat.le_trans h.d l)]
  rfl
end Z
namespace Z
open PySem L2
end Z
namespace W
open PySem L2 Z
local macro_rules | `(tactic| walk_at "mu") => `(tactic| first
  | assumption
  | exact set_same
  | (refine Eq.trans (set_ne ?_) ?_; (first | assumption | (apply Ne.symm; assumption) | (intro h; subst h; simp_all)); walk_at "mu"))
local macro_rules | `(tactic| walk_at "seq") => `(tactic| first
  | rfl
  | (refine seq_ref ?_; walk_at "mu"))
local macro_rules | `(tactic| walk_at "sz") => `(tactic| first
  | assumption
  | (refine sz_2 ?_; decide)
  | (refine sz_8 ?_; decide)
  | (refine sz_32 ?_; decide)
  | (refine sz_128 ?_; decide +kernel)
  | ((with_reducible refine sz_add (a := ?a) (b := ?b) ?h ?k); (case h => walk_at "sz"); (case k => walk_at "sz"))
  | ((with_reducible refine sz_sub (a := ?a) (b := ?b) ?h ?k); (case h => walk_at "sz"); (case k => walk_at "sz"))
  | ((with_reducible refine sz_mul (a := ?a) (b := ?b) ?h ?k); (case h => walk_at "sz"); (case k => walk_at "sz"))
  | ((with_reducible refine sz_neg ?_) <;> walk_at "sz")
  | with_reducible exact sz_b
  | ((with_reducible refine sz_mod ?h1 ?h2); (case h1 => omega); (case h2 => walk_at "sz")))
local macro_rules | `(tactic| walk_at "szN") => `(tactic| first
  | assumption
  | (refine sz_mono (a := ?a) ?h ?l; (case h => walk_at "sz"); (case l => first | decide | omega)))
local macro_rules | `(tactic| walk_at "cond") => `(tactic| first
  | assumption
  | (refine mulw_of (a := ?a) (b := ?b) ?h ?k ?l; (case h => walk_at "sz"); (case k => walk_at "sz"); (case l => first | decide | omega))
  | (refine divw_of (b := ?b) ?h ?k ?l; (case h => omega); (case k => walk_at "sz"); (case l => first | decide | omega))
  | (show (0 : Int) < _; first | assumption | omega | decide)
  | (refine ⟨?_, ?_, ?_⟩ <;> first | assumption | decide | omega))
local macro_rules | `(tactic| walk_at "nf") => `(tactic| ((try simp only [List.set_cons_zero, List.set_cons_succ, Int.reduceToNat, Int.reducePow]); (try dsimp only)))
local macro_rules | `(tactic| walk_at "z1") => `(tactic| first
  | (with_reducible refine s_seq ?_)
  | ((with_reducible refine s_asgX ?_); (first | refine x_meth ?_ | refine x_call ?_))
  | (with_reducible refine s_asg ?_)
  | ((with_reducible refine s_ret ?_); (try dsimp only))
  | ((with_reducible refine s_next ?_); (try dsimp only))
  | ((with_reducible refine s_dropX ?_); (first | refine x_meth ?_ | refine x_call ?_))
  | (with_reducible refine s_drop ?_)
  | ((with_reducible refine s_retN ?_); (try dsimp only))
  | (with_reducible refine s_par ?_)
  | (with_reducible refine s_par3 ?_)
  | ((with_reducible refine g_name ?_); walk_at "nf")
  | ((with_reducible refine g_tup ?zn ?_); (case zn => rfl))
  | (with_reducible refine gs_cons ?_)
  | ((with_reducible refine gs_nil ?_); (try dsimp only))
  | ((with_reducible refine s_aug (d := ?zd) ?zh ?_); (case zh => rfl))
  | ((with_reducible refine a_var (d := ?zd) ?zh ?_); (case zh => rfl))
  | (with_reducible refine a_int ?_)
  | (with_reducible refine a_bl ?_)
  | (with_reducible refine a_str ?_)
  | (with_reducible refine a_non ?_)
  | (with_reducible refine a_ty ?_)
  | (with_reducible refine a_cref ?_)
  | (with_reducible refine a_revT ?_)
  | (with_reducible refine ro_neS ?_)
  | (with_reducible refine a_op ?_)
  | (with_reducible refine a_un ?_)
  | (with_reducible refine aa_cons ?_)
  | (with_reducible refine aa_nil ?_)
  | ((with_reducible refine a_tup ?_))
  | ((with_reducible refine a_lst ?_))
  | ((with_reducible refine a_lenSc (dec := ?zd) ?zt ?_); (case zt => first | exact tg_4 | exact tg_2 | exact tg_3 | exact tg_name))
  | (with_reducible refine a_cb ?_)
  | (with_reducible refine a_call ?_)
  | (with_reducible refine a_callX ?_)
  | (with_reducible refine a_methX ?_)
  | (with_reducible refine a_methI ?_)
  | (with_reducible refine rc_max3 ?_)
  | (with_reducible refine a_if ?_)
  | (with_reducible refine a_andV ?_)
  | (with_reducible refine a_orV ?_)
  | (with_reducible refine a_notV ?_)
  | (with_reducible refine at_test ?_)
  | (with_reducible refine at_B ?_)
  | (with_reducible refine at_and ?_)
  | (with_reducible refine at_or ?_)
  | (with_reducible refine at_not ?_)
  | (with_reducible refine at_yes ?_)
  | (with_reducible refine a_chain ?_)
  | (with_reducible refine a_chain3 ?_)
  | (with_reducible refine s_if ?_)
  | (with_reducible refine g_sub ?_)
  | (with_reducible refine ro_i ?_)
  | (with_reducible refine ru_i ?_)
  | (with_reducible refine ro_b ?_)
  | ((with_reducible refine ro_c (C := CPow) ?zc ?_); (case zc => walk_at "cond"); walk_at "nf")
  | ((with_reducible refine ro_c ?zc ?_); (case zc => walk_at "cond"))
  | ((with_reducible refine ro_ix (ds := ?zd) (e := ?ze) ?zs ?zi ?_); (case zs => walk_at "seq"); (case zi => rfl))
  | ((with_reducible refine set_lst (ds := ?zd) (j := ?zj) ?zs ?zi ?_); (case zs => walk_at "mu"); (case zi => rfl); walk_at "nf")
  | (with_reducible refine a_sl ?_)
  | (with_reducible refine ao_no ?_)
  | (with_reducible refine ao_pt ?_)
  | ((with_reducible refine rs_ref (ds := ?zd) ?zs ?_); (case zs => walk_at "mu"))
  | (with_reducible refine rs_rol ?_)
  | (with_reducible refine rs_tupA ?_)
  | ((with_reducible refine ro_catA ?zl ?_); (case zl => exact Nat.le_of_ble_eq_true rfl))
  | ((with_reducible refine ro_cat (ds := ?zd) (es := ?ze) ?zs ?zt ?zl ?_); (case zs => walk_at "mu"); (case zt => walk_at "mu"); (case zl => exact Nat.le_of_ble_eq_true rfl))
  | (with_reducible refine iteT ?_)
  | (with_reducible refine iteF ?_)
  | (with_reducible refine iteNT ?_)
  | (with_reducible refine iteNF ?_)
  | ((with_reducible refine ro_eqD ?h1 ?h2 ?_); (case h1 => rfl); (case h2 => rfl))
  | ((with_reducible refine ro_neD ?h1 ?h2 ?_); (case h1 => rfl); (case h2 => rfl))
  | ((with_reducible refine ro_inS (ds := ?zd) ?zs ?h1 ?h2 ?_); (case zs => walk_at "seq"); (case h1 => rfl); (case h2 => rfl); (try simp only [if_true, if_false, Bool.false_eq_true]))
  | (with_reducible refine ro_isB ?_)
  | (with_reducible refine ro_isN ?_)
  | (with_reducible refine ro_notN ?_)
  | (with_reducible refine ro_notB ?_)
  | (with_reducible refine ro_eqI ?_)
  | (with_reducible refine ro_neI ?_)
  | (with_reducible refine ro_eqB ?_)
  | (with_reducible refine ro_neB ?_)
  | (with_reducible refine rc_intB ?_)
  | (with_reducible refine rc_intI ?_)
  | (with_reducible refine rc_abs ?_)
  | (with_reducible refine rc_min ?_)
  | (with_reducible refine rc_max ?_)
  | ((with_reducible refine rc_len (ds := ?zd) ?zs ?_); (case zs => walk_at "seq"))
  | ((with_reducible refine rc_isi (n := ?zn) (b := ?zb) ?zs ?zk ?_); (case zs => rfl); (case zk => first | rfl | decide +kernel))
  | (with_reducible refine ⟨_, rfl, ?_⟩)
  | ((with_reducible refine ⟨_, _, rfl, ?_⟩); walk_at "nf")
  | ((with_reducible refine ⟨_, _, _, rfl, ?_⟩); walk_at "nf")
  | (refine ⟨Nat.le_of_ble_eq_true rfl, ?_⟩))
local macro_rules | `(tactic| walk_at "go") => `(tactic| repeat (walk_at "z1"))
def top (i : Nat) : Stmt := PySem.Challenge.pw_rubberroutes_k02_sides_of_lines.main.body.getD i (.Pass ⟨0, 0, 0, 0⟩)
abbrev s_sign_of : Stmt := top 1
abbrev N_sign_of : List Str := ["number"]
theorem sc_sign_of : FnScope N_sign_of ["number"] (defScope s_sign_of) := ⟨rfl, rfl, rfl, by decide +kernel, rfl, by decide +kernel, by decide +kernel⟩
abbrev s_side : Stmt := top 2
abbrev N_side : List Str := ["one", "other", "third", "along", "up"]
theorem sc_side : FnScope N_side ["one", "other", "third"] (defScope s_side) := ⟨rfl, rfl, rfl, by decide +kernel, rfl, by decide +kernel, by decide +kernel⟩
abbrev s_l_cell_at : Stmt := top 4
abbrev N_l_cell_at : List Str := ["_law_script", "_law_k"]
theorem sc_l_cell_at : FnScope N_l_cell_at ["_law_script", "_law_k"] (defScope s_l_cell_at) := ⟨rfl, rfl, rfl, by decide +kernel, rfl, by decide +kernel, by decide +kernel⟩
abbrev s_l_bag : Stmt := top 5
abbrev N_l_bag : List Str := ["_law_script", "_law_at", "_law_primes", "_law_cell", "_law_mix", "_law_k", "_law_one"]
theorem sc_l_bag : FnScope N_l_bag ["_law_script", "_law_at"] (defScope s_l_bag) := ⟨rfl, rfl, rfl, by decide +kernel, rfl, by decide +kernel, by decide +kernel⟩
abbrev s_l_take : Stmt := top 6
abbrev N_l_take : List Str := ["_law_bag_here", "_law_many", "_law_digit"]
theorem sc_l_take : FnScope N_l_take ["_law_bag_here", "_law_many"] (defScope s_l_take) := ⟨rfl, rfl, rfl, by decide +kernel, rfl, by decide +kernel, by decide +kernel⟩
abbrev s_l_whole : Stmt := top 7
abbrev N_l_whole : List Str := ["_law_thing"]
theorem sc_l_whole : FnScope N_l_whole ["_law_thing"] (defScope s_l_whole) := ⟨rfl, rfl, rfl, by decide +kernel, rfl, by decide +kernel, by decide +kernel⟩
abbrev s_l_spot : Stmt := top 8
abbrev N_l_spot : List Str := ["_law_bag_here", "_law_most"]
theorem sc_l_spot : FnScope N_l_spot ["_law_bag_here", "_law_most"] (defScope s_l_spot) := ⟨rfl, rfl, rfl, by decide +kernel, rfl, by decide +kernel, by decide +kernel⟩
abbrev s_l_area : Stmt := top 9
abbrev N_l_area : List Str := ["_law_a", "_law_b", "_law_c", "_law_total"]
theorem sc_l_area : FnScope N_l_area ["_law_a", "_law_b", "_law_c"] (defScope s_l_area) := ⟨rfl, rfl, rfl, by decide +kernel, rfl, by decide +kernel, by decide +kernel⟩
abbrev s_law : Stmt := top 10
abbrev N_law : List Str := ["_law_script", "_law_k", "_law_bag_here", "_law_most", "_law_a", "_law_b", "_law_c", "_law_often", "_law_area_here", "_law_due", "_law_told", "_law_move", "_law_moved", "_law_spot_here"]
theorem sc_law : FnScope N_law ["_law_script"] (defScope s_law) := ⟨rfl, rfl, rfl, by decide +kernel, rfl, by decide +kernel, by decide +kernel⟩
structure Bs (mg : Str → Option Value) : Prop where
  b_bool : mg "bool" = none
  b_int : mg "int" = none
  b_isinstance : mg "isinstance" = none
  b_len : mg "len" = none
  b_min : mg "min" = none
  b_range : mg "range" = none
section
variable {P : Program} {w : World} {K : PySem.W.Frag} {mg : Str → Option Value} {base : Heap}
def P_sign_of : PT3 := fun ds μ Φ => ∃ n, ds = [.int n] ∧ Φ (.int (sgn n)) μ
theorem len_sign_of (ds : List D) (μ : M) (Φ : D → M → Prop) (h : P_sign_of ds μ Φ) : ds.length = 1 := by
  obtain ⟨_, rfl, _⟩ := h
  rfl
def area (a b c : Int × Int) : Int := (b.1 - a.1) * (c.2 - a.2) - (b.2 - a.2) * (c.1 - a.1)
def P_side : PT3 := fun ds μ Φ => ∃ x1 y1 x2 y2 x3 y3 : Int, ds = [pt x1 y1, pt x2 y2, pt x3 y3] ∧ Sz 4096 x1 ∧ Sz 4096 y1 ∧ Sz 4096 x2 ∧ Sz 4096 y2 ∧ Sz 4096 x3 ∧ Sz 4096 y3 ∧ Φ (.int (sgn (area (x1, y1) (x2, y2) (x3, y3)))) μ
theorem len_side (ds : List D) (μ : M) (Φ : D → M → Prop) (h : P_side ds μ Φ) : ds.length = 3 := by
  obtain ⟨_, _, _, _, _, _, rfl, _⟩ := h
  rfl
theorem use_side {μ : M} {Φ : D → M → Prop} {x1 y1 x2 y2 x3 y3 : Int} (s1 : Sz 4096 x1) (s2 : Sz 4096 y1) (s3 : Sz 4096 x2) (s4 : Sz 4096 y2) (s5 : Sz 4096 x3) (s6 : Sz 4096 y3) (q : Φ (.int (sgn (area (x1, y1) (x2, y2) (x3, y3)))) μ) : P_side [pt x1 y1, pt x2 y2, pt x3 y3] μ Φ :=
  ⟨x1, y1, x2, y2, x3, y3, rfl, s1, s2, s3, s4, s5, s6, q⟩
theorem ok_sign_of {f : Addr} {fd : FuncData} (F : Fun K "sign_of" "sign_of" s_sign_of f fd) (B : Bs mg) : FnOk P w K mg base CX0 1 f fd ["number"] (spI K P_sign_of) := by
  refine F.ok sc_sign_of (fun vs H Q E h => spI_len h len_sign_of) (fun cdv A outer s H vs Q E hr h => ?_)
  have hu65 := hu65_of hr
  refine ⟨_, (pss_one (ps_ret (pe_op op_sub (pe_callTy call_int1 (by rfl) B.b_int (by decide +kernel) (pa_cons (pe_cmpR op_gt (pv 0) pe_int (by first | exact nomark _ | rfl)) pa_nil)) (pe_callTy call_int1 (by rfl) B.b_int (by decide +kernel) (pa_cons (pe_cmpR op_lt (pv 0) pe_int (by first | exact nomark _ | rfl)) pa_nil))))), body_ok h (fun ds μ Φ p => ?_)⟩
  (try dsimp only [cxOf, Cx.nox, Cx.wish, List.map_cons, List.map_nil])
  obtain ⟨n, rfl, q⟩ := p
  show AS K _ [some _] _ _
  walk_at "go"
  refine cast_int ?_ q
  unfold sgn
  by_cases h1 : 0 < n <;> by_cases h2 : n < 0 <;> simp [h1, h2] <;> omega
theorem ok_side {f : Addr} {fd : FuncData} (F : Fun K "side" "side" s_side f fd) (B : Bs mg) (G_sign_of : Def P w K mg base "sign_of" ["number"] 1 (spI K P_sign_of)) : FnOk P w K mg base CX0 2 f fd ["one", "other", "third"] (spI K P_side) := by
  refine F.ok sc_side (fun vs H Q E h => spI_len h len_side) (fun cdv A outer s H vs Q E hr h => ?_)
  have hu65 := hu65_of hr
  refine ⟨_, (pss_cons (ps_par (i := 3) (j := 4) rfl sc_side.nd rfl rfl (by decide) rfl rfl (pa_cons (pe_op op_sub (pe_ix (ix_seqK (K := K) rfl) (pv 1) pe_int (fun _ _ => rfl)) (pe_ix (ix_seqK (K := K) rfl) (pv 0) pe_int (fun _ _ => rfl))) (pa_cons (pe_op op_sub (pe_ix (ix_seqK (K := K) rfl) (pv 1) pe_int (fun _ _ => rfl)) (pe_ix (ix_seqK (K := K) rfl) (pv 0) pe_int (fun _ _ => rfl))) pa_nil)) (by rfl))
      (pss_one (ps_ret (pe_def G_sign_of (hr.mono (by decide)) (by rfl) (pa_cons (pe_op op_sub (pe_op op_mulW (pv 3) (pe_op op_sub (pe_ix (ix_seqK (K := K) rfl) (pv 2) pe_int (fun _ _ => rfl)) (pe_ix (ix_seqK (K := K) rfl) (pv 0) pe_int (fun _ _ => rfl)))) (pe_op op_mulW (pv 4) (pe_op op_sub (pe_ix (ix_seqK (K := K) rfl) (pv 2) pe_int (fun _ _ => rfl)) (pe_ix (ix_seqK (K := K) rfl) (pv 0) pe_int (fun _ _ => rfl))))) pa_nil))))), body_ok h (fun ds μ Φ p => ?_)⟩
  (try dsimp only [cxOf, Cx.nox, Cx.wish, List.map_cons, List.map_nil])
  obtain ⟨x1, y1, x2, y2, x3, y3, rfl, s1, s2, s3, s4, s5, s6, q⟩ := p
  show AS K _ [some _, some _, some _, none, none] _ _
  walk_at "go"
  exact ⟨_, rfl, q⟩
theorem use_cell {μ : M} {Φ : D → M → Prop} {ns : List Int} {k : Int} (h : 0 ≤ k) (q : ∀ z, Φ (.int z) μ) : P_l_cell_at [.rol (ns.map D.int), .int k] μ Φ := ⟨ns, k, rfl, h, q⟩
theorem use_take {μ : M} {Φ : D → M → Prop} {b : Addr} {n c m : Int} (h : μ b = some (.lst [.int c, .int m])) (hm : BgOk m) (hn : 0 < n) (hz : Sz 4000 n) (q : ∀ d c' m', 0 ≤ d → d < n → Sz 4000 d → BgOk m' → Φ (.int d) (μ.set b (.lst [.int c', .int m']))) : P_l_take [.ref b, .int n] μ Φ := ⟨b, n, c, m, rfl, h, hm, hn, hz, q⟩
theorem prime_at {k : Int} (h0 : 0 ≤ k) (h1 : k < 9) : ∃ p : Int, atI [D.int 99991, D.int 99971, D.int 99961, D.int 99929, D.int 99923, D.int 99907, D.int 99901, D.int 99881, D.int 99877] k = some (.int p) ∧ 0 < p := by
  have h : k = 0 ∨ k = 1 ∨ k = 2 ∨ k = 3 ∨ k = 4 ∨ k = 5 ∨ k = 6 ∨ k = 7 ∨ k = 8 := by omega
  rcases h with h | h | h | h | h | h | h | h | h <;> subst h <;> exact ⟨_, rfl, by decide⟩
theorem ok_l_cell_at {f : Addr} {fd : FuncData} (F : Fun K "_law_cell_at" "_law_cell_at" s_l_cell_at f fd) (B : Bs mg) : FnOk P w K mg base CX0 1 f fd ["_law_script", "_law_k"] (spI K P_l_cell_at) := by
  refine F.ok sc_l_cell_at (fun vs H Q E h => spI_len h len_l_cell_at) (fun cdv A outer s H vs Q E hr h => ?_)
  have hu65 := hu65_of hr
  refine ⟨_, (pss_cons (ps_if (pt_cmpR op_lt (pv 1) (pe_callB (call_lenK (K := K) rfl) (by rfl) B.b_len (by decide +kernel) (pa_cons (pv 0) pa_nil)) (by first | exact nomark _ | rfl)) (pss_one (ps_ret (pe_ix (ix_seqK (K := K) rfl) (pv 0) (pv 1) (fun _ _ => rfl)))) pss_nil)
      (pss_one (ps_ret pe_int))), body_ok h (fun ds μ Φ p => ?_)⟩
  (try dsimp only [cxOf, Cx.nox, Cx.wish, List.map_cons, List.map_nil])
  obtain ⟨ns, k, rfl, h0, q⟩ := p
  show AS K _ [some _, some _] _ _
  walk_at "go"
  refine ite_d (fun h => ?_) (fun h => ?_)
  · obtain ⟨z, hz⟩ := map_get (ns := ns) h0 (by simpa using h)
    walk_at "go"
    refine ro_ix rfl hz ?_
    exact q z
  · walk_at "go"
    exact q 0
theorem ok_l_bag {f : Addr} {fd : FuncData} (F : Fun K "_law_bag" "_law_bag" s_l_bag f fd) (B : Bs mg) (G_l_cell_at : Def P w K mg base "_law_cell_at" ["_law_script", "_law_k"] 1 (spI K P_l_cell_at)) : FnOk P w K mg base CX0 2 f fd ["_law_script", "_law_at"] (spI K P_l_bag) := by
  refine F.ok sc_l_bag (fun vs H Q E h => spI_len h len_l_bag) (fun cdv A outer s H vs Q E hr h => ?_)
  have hu65 := hu65_of hr
  refine ⟨_, (pss_cons (ps_set (i := 2) sc_l_bag.nd rfl (by first | exact Or.inl rfl | exact Or.inr rfl) (pe_tup (pa_cons pe_int (pa_cons pe_int (pa_cons pe_int (pa_cons pe_int (pa_cons pe_int (pa_cons pe_int (pa_cons pe_int (pa_cons pe_int (pa_cons pe_int pa_nil)))))))))))
      (pss_cons (ps_set (i := 3) sc_l_bag.nd rfl (by first | exact Or.inl rfl | exact Or.inr rfl) (pe_def G_l_cell_at (hr.mono (by decide)) (by rfl) (pa_cons (pv 0) (pa_cons (pv 1) pa_nil))))
      (pss_cons (ps_set (i := 4) sc_l_bag.nd rfl (by first | exact Or.inl rfl | exact Or.inr rfl) (pe_op op_add (pe_op op_mulW pe_int (pv 1)) pe_int))
      (pss_cons (ps_for PassesOwn.never rfl (pi_range1 (by rfl) B.b_range (pa_cons pe_int pa_nil)) (pg_name (i := 5) sc_l_bag.nd rfl (by first | exact Or.inl rfl | exact Or.inr rfl))
      (pss_cons (ps_set (i := 6) sc_l_bag.nd rfl (by first | exact Or.inl rfl | exact Or.inr rfl) (pe_op op_add (pe_op op_add (pe_op op_mod (pe_def G_l_cell_at (hr.mono (by decide)) (by rfl) (pa_cons (pv 0) (pa_cons (pe_op op_add (pv 1) (pv 5)) pa_nil))) (pe_op op_pow pe_int pe_int)) (pe_op op_mulW pe_int (pv 5))) pe_int))
      (pss_one (ps_set (i := 4) sc_l_bag.nd rfl (by first | exact Or.inl rfl | exact Or.inr rfl) (pe_op op_mod (pe_op op_add (pe_op op_mulW (pv 4) pe_int) (pe_op op_mod (pe_op op_pow (pv 6) pe_int) (pe_ix (ix_seqK (K := K) rfl) (pv 2) (pv 5) (fun _ _ => rfl)))) pe_int)))))
      (pss_cons (ps_if (pt_cmpR op_lt (pv 3) (pe_op op_pow pe_int pe_int) (by first | exact nomark _ | rfl)) (pss_one (ps_set (i := 3) sc_l_bag.nd rfl (by first | exact Or.inl rfl | exact Or.inr rfl) pe_int)) pss_nil)
      (pss_one (ps_ret (pe_lst (pa_cons (pv 3) (pa_cons (pe_op op_add (pv 4) pe_int) pa_nil)))))))))), body_ok h (fun ds μ Φ p => ?_)⟩
  (try dsimp only [cxOf, Cx.nox, Cx.wish, List.map_cons, List.map_nil])
  obtain ⟨ns, k, rfl, h0, h1, q⟩ := p
  show AS K _ [some _, some _, none, none, none, none, none] _ _
  have sk : Sz 31 k := by unfold Sz; omega
  walk_at "go"
  refine use_cell h0 fun cell => ?_
  walk_at "go"
  refine s_for1 9 (fun i τ' μ' => μ' = μ ∧ ∃ (mix : Int) (o5 o6 : Option D), τ' = [some (.rol (ns.map D.int)), some (.int k), some (.tup [D.int 99991, D.int 99971, D.int 99961, D.int 99929, D.int 99923, D.int 99907, D.int 99901, D.int 99881, D.int 99877]), some (.int cell), some (.int mix), o5, o6] ∧ 0 ≤ mix ∧ mix < 2147483629) ?_ ?_ ?_
  · walk_at "go"
    exact ⟨rfl, by decide, by decide, rfl, 7919 * k + 29, none, none, rfl, by omega, by omega⟩
  · rintro i τ' μ' hi ⟨rfl, mix, o5, o6, rfl, m0, m1⟩
    have sm : Sz 31 mix := by unfold Sz; omega
    have si : Sz 31 (i : Int) := by unfold Sz; omega
    obtain ⟨pr, hp, hp0⟩ := prime_at (k := (i : Int)) (by omega) hi
    walk_at "go"
    refine use_cell (by omega) fun z => ?_
    walk_at "go"
    refine ro_ix rfl hp ?_
    walk_at "go"
    exact ⟨rfl, _, _, _, rfl, Int.emod_nonneg _ (by decide), Int.emod_lt_of_pos _ (by decide)⟩
  · rintro τ' μ' ⟨rfl, mix, o5, o6, rfl, m0, m1⟩
    walk_at "go"
    refine ite_d (fun h => ?_) (fun h => ?_)
    · walk_at "go"
      exact fun a ha => q a _ _ ha ⟨by omega, by omega⟩
    · walk_at "go"
      exact fun a ha => q a _ _ ha ⟨by omega, by omega⟩
theorem ok_l_take {f : Addr} {fd : FuncData} (F : Fun K "_law_take" "_law_take" s_l_take f fd) (B : Bs mg) : FnOk P w K mg base CX0 1 f fd ["_law_bag_here", "_law_many"] (spI K P_l_take) := by
  refine F.ok sc_l_take (fun vs H Q E h => spI_len h len_l_take) (fun cdv A outer s H vs Q E hr h => ?_)
  have hu65 := hu65_of hr
  refine ⟨_, (pss_cons (ps_if (pt_cmpR op_gt (pe_ix (ix_seqK (K := K) rfl) (pv 0) pe_int (fun _ _ => rfl)) pe_int (by first | exact nomark _ | rfl)) (pss_cons (ps_set (i := 2) sc_l_take.nd rfl (by first | exact Or.inl rfl | exact Or.inr rfl) (pe_op op_mod (pe_ix (ix_seqK (K := K) rfl) (pv 0) pe_int (fun _ _ => rfl)) (pv 1)))
      (pss_cons (ps_asg (pe_op op_fdivW (pe_ix (ix_seqK (K := K) rfl) (pv 0) pe_int (fun _ _ => rfl)) (pv 1)) (pg_sub (pv 0) pe_int set_list))
      (pss_one (ps_ret (pv 2))))) pss_nil)
      (pss_cons (ps_asg (pe_op op_mod (pe_op op_mulW (pe_ix (ix_seqK (K := K) rfl) (pv 0) pe_int (fun _ _ => rfl)) pe_int) pe_int) (pg_sub (pv 0) pe_int set_list))
      (pss_one (ps_ret (pe_op op_mod (pe_op op_mod (pe_op op_mod (pe_op op_pow (pe_ix (ix_seqK (K := K) rfl) (pv 0) pe_int (fun _ _ => rfl)) pe_int) pe_int) pe_int) (pv 1)))))), body_ok h (fun ds μ Φ p => ?_)⟩
  (try dsimp only [cxOf, Cx.nox, Cx.wish, List.map_cons, List.map_nil])
  obtain ⟨b, n, c, m, rfl, hb, hm, hn, hz, q⟩ := p
  show AS K _ [some _, some _, none] _ _
  have sm : Sz 31 m := by unfold Sz; have := hm.1; have := hm.2; omega
  walk_at "go"
  refine ite_d (fun h => ?_) (fun h => ?_)
  · walk_at "go"
    exact q _ _ _ (Int.emod_nonneg _ (by omega)) (Int.emod_lt_of_pos _ hn) (sz_mod hn hz) hm
  · walk_at "go"
    exact q _ _ _ (Int.emod_nonneg _ (by omega)) (Int.emod_lt_of_pos _ hn) (sz_mod hn hz) ⟨Int.emod_nonneg _ (by decide), by have := Int.emod_lt_of_pos (m * 48271) (show (0 : Int) < 2147483647 by decide); omega⟩
def P_l_whole : PT3 := fun ds μ Φ => ∃ n : Int, ds = [.int n] ∧ Φ (.bl true) μ
theorem len_l_whole (ds : List D) (μ : M) (Φ : D → M → Prop) (h : P_l_whole ds μ Φ) : ds.length = 1 := by
  obtain ⟨_, rfl, _⟩ := h
  rfl
def P_l_spot : PT3 := fun ds μ Φ => ∃ (b : Addr) (n c m : Int), ds = [.ref b, .int n] ∧ μ b = some (.lst [.int c, .int m]) ∧ BgOk m ∧ 0 ≤ n ∧ Sz 300 n ∧ ∀ x y c' m', Sz 400 x → Sz 400 y → BgOk m' → Φ (pt x y) (μ.set b (.lst [.int c', .int m']))
theorem len_l_spot (ds : List D) (μ : M) (Φ : D → M → Prop) (h : P_l_spot ds μ Φ) : ds.length = 2 := by
  obtain ⟨_, _, _, _, rfl, _⟩ := h
  rfl
theorem use_spot {μ : M} {Φ : D → M → Prop} {b : Addr} {n c m : Int} (h : μ b = some (.lst [.int c, .int m])) (hm : BgOk m) (hn : 0 ≤ n) (hz : Sz 300 n) (q : ∀ x y c' m', Sz 400 x → Sz 400 y → BgOk m' → Φ (pt x y) (μ.set b (.lst [.int c', .int m']))) : P_l_spot [.ref b, .int n] μ Φ := ⟨b, n, c, m, rfl, h, hm, hn, hz, q⟩
def P_l_area : PT3 := fun ds μ Φ => ∃ x1 y1 x2 y2 x3 y3 : Int, ds = [pt x1 y1, pt x2 y2, pt x3 y3] ∧ Sz 4096 x1 ∧ Sz 4096 y1 ∧ Sz 4096 x2 ∧ Sz 4096 y2 ∧ Sz 4096 x3 ∧ Sz 4096 y3 ∧ Φ (.int (area (x1, y1) (x2, y2) (x3, y3))) μ
theorem len_l_area (ds : List D) (μ : M) (Φ : D → M → Prop) (h : P_l_area ds μ Φ) : ds.length = 3 := by
  obtain ⟨_, _, _, _, _, _, rfl, _⟩ := h
  rfl
theorem use_area {μ : M} {Φ : D → M → Prop} {x1 y1 x2 y2 x3 y3 : Int} (s1 : Sz 4096 x1) (s2 : Sz 4096 y1) (s3 : Sz 4096 x2) (s4 : Sz 4096 y2) (s5 : Sz 4096 x3) (s6 : Sz 4096 y3) (q : Φ (.int (area (x1, y1) (x2, y2) (x3, y3))) μ) : P_l_area [pt x1 y1, pt x2 y2, pt x3 y3] μ Φ :=
  ⟨x1, y1, x2, y2, x3, y3, rfl, s1, s2, s3, s4, s5, s6, q⟩
theorem use_bag {μ : M} {Φ : D → M → Prop} {ns : List Int} {k : Int} (h0 : 0 ≤ k) (h1 : k ≤ 1000) (q : ∀ p c m, μ p = none → BgOk m → Φ (.ref p) (μ.set p (.lst [.int c, .int m]))) : P_l_bag [.rol (ns.map D.int), .int k] μ Φ := ⟨ns, k, rfl, h0, h1, q⟩
theorem area_flip (a b c : Int × Int) : area b a c = - area a b c := by unfold area; grind
theorem area_round (a b c : Int × Int) : area b c a = area a b c := by unfold area; grind
theorem area_round2 (a b c : Int × Int) : area c a b = area a b c := by unfold area; grind
theorem area_flip2 (a b c : Int × Int) : area a c b = - area a b c := by unfold area; grind
theorem area_end1 (a b : Int × Int) : area a b a = 0 := by unfold area; grind
theorem area_end2 (a b : Int × Int) : area a b b = 0 := by unfold area; grind
theorem area_move (a b c m : Int × Int) : area (a.1 + m.1, a.2 + m.2) (b.1 + m.1, b.2 + m.2) (c.1 + m.1, c.2 + m.2) = area a b c := by unfold area; grind
theorem sgn_neg (n : Int) : sgn (-n) = 0 - sgn n := by
  unfold sgn
  by_cases h1 : 0 < n <;> by_cases h2 : n < 0 <;> simp [h1, h2] <;> omega
theorem sgn_due (n : Int) : ((if decide (0 < n) = true then 1 else 0) - (if decide (n < 0) = true then 1 else 0) : Int) = sgn n := by
  unfold sgn
  by_cases h1 : 0 < n <;> by_cases h2 : n < 0 <;> simp [h1, h2] <;> omega
theorem menu {d : Int} (h0 : 0 ≤ d) (h1 : d < 4) : ∃ z : Int, atI [D.int 2, D.int 9, D.int 1000, D.int 100000000000000000000000000000] d = some (.int z) ∧ 0 < z ∧ Sz 128 z := by
  have h : d = 0 ∨ d = 1 ∨ d = 2 ∨ d = 3 := by omega
  rcases h with h | h | h | h <;> subst h <;> exact ⟨_, rfl, by decide, by decide⟩
theorem ok_l_whole {f : Addr} {fd : FuncData} (F : Fun K "_law_whole" "_law_whole" s_l_whole f fd) (B : Bs mg) : FnOk P w K mg base CX0 1 f fd ["_law_thing"] (spI K P_l_whole) := by
  refine F.ok sc_l_whole (fun vs H Q E h => spI_len h len_l_whole) (fun cdv A outer s H vs Q E hr h => ?_)
  have hu65 := hu65_of hr
  refine ⟨_, (pss_one (ps_ret (pe_and (pe_callB (call_isiK1 (K := K) rfl) (by rfl) B.b_isinstance (by decide +kernel) (pa_cons (pv 0) (pa_cons (pe_bltn (v := .ty "int") (by rfl) B.b_int (by decide +kernel) rfl) pa_nil))) (pe_one (pe_not (pe_callB (call_isiK1 (K := K) rfl) (by rfl) B.b_isinstance (by decide +kernel) (pa_cons (pv 0) (pa_cons (pe_bltn (v := .ty "bool") (by rfl) B.b_bool (by decide +kernel) rfl) pa_nil)))))))), body_ok h (fun ds μ Φ p => ?_)⟩
  (try dsimp only [cxOf, Cx.nox, Cx.wish, List.map_cons, List.map_nil])
  obtain ⟨n, rfl, q⟩ := p
  show AS K _ [some _] _ _
  walk_at "go"
  exact q
theorem ok_l_spot {f : Addr} {fd : FuncData} (F : Fun K "_law_spot" "_law_spot" s_l_spot f fd) (B : Bs mg) (G_l_take : Def P w K mg base "_law_take" ["_law_bag_here", "_law_many"] 1 (spI K P_l_take)) : FnOk P w K mg base CX0 2 f fd ["_law_bag_here", "_law_most"] (spI K P_l_spot) := by
  refine F.ok sc_l_spot (fun vs H Q E h => spI_len h len_l_spot) (fun cdv A outer s H vs Q E hr h => ?_)
  have hu65 := hu65_of hr
  refine ⟨_, (pss_one (ps_ret (pe_tup (pa_cons (pe_op op_sub (pe_def G_l_take (hr.mono (by decide)) (by rfl) (pa_cons (pv 0) (pa_cons (pe_op op_add (pe_op op_mulW pe_int (pv 1)) pe_int) pa_nil))) (pv 1)) (pa_cons (pe_op op_sub (pe_def G_l_take (hr.mono (by decide)) (by rfl) (pa_cons (pv 0) (pa_cons (pe_op op_add (pe_op op_mulW pe_int (pv 1)) pe_int) pa_nil))) (pv 1)) pa_nil))))), body_ok h (fun ds μ Φ p => ?_)⟩
  (try dsimp only [cxOf, Cx.nox, Cx.wish, List.map_cons, List.map_nil])
  obtain ⟨b, n, c, m, rfl, hb, hm, hn, hz, q⟩ := p
  show AS K _ [some _, some _] _ _
  walk_at "go"
  refine use_take hb hm (by omega) (by walk_at "szN") fun d1 c1 m1 a1 a2 s1 hm1 => ?_
  walk_at "go"
  refine use_take set_same hm1 (by omega) (by walk_at "szN") fun d2 c2 m2 b1 b2 s2 hm2 => ?_
  walk_at "go"
  rw [set_set]
  have z2 : Sz 350 (2 * n + 1) := by walk_at "szN"
  have t1 : Sz 350 d1 := sz_lt a1 a2 z2
  have t2 : Sz 350 d2 := sz_lt b1 b2 z2
  exact q _ _ _ _ (by walk_at "szN") (by walk_at "szN") hm2
theorem ok_l_area {f : Addr} {fd : FuncData} (F : Fun K "_law_area" "_law_area" s_l_area f fd) (B : Bs mg) : FnOk P w K mg base CX0 1 f fd ["_law_a", "_law_b", "_law_c"] (spI K P_l_area) := by
  refine F.ok sc_l_area (fun vs H Q E h => spI_len h len_l_area) (fun cdv A outer s H vs Q E hr h => ?_)
  have hu65 := hu65_of hr
  refine ⟨_, (pss_cons (ps_set (i := 3) sc_l_area.nd rfl (by first | exact Or.inl rfl | exact Or.inr rfl) (pe_op op_add (pe_op op_sub (pe_op op_mulW (pe_ix (ix_seqK (K := K) rfl) (pv 0) pe_int (fun _ _ => rfl)) (pe_ix (ix_seqK (K := K) rfl) (pv 1) pe_int (fun _ _ => rfl))) (pe_op op_mulW (pe_ix (ix_seqK (K := K) rfl) (pv 1) pe_int (fun _ _ => rfl)) (pe_ix (ix_seqK (K := K) rfl) (pv 0) pe_int (fun _ _ => rfl)))) (pe_op op_mulW (pe_ix (ix_seqK (K := K) rfl) (pv 1) pe_int (fun _ _ => rfl)) (pe_ix (ix_seqK (K := K) rfl) (pv 2) pe_int (fun _ _ => rfl)))))
      (pss_one (ps_ret (pe_op op_sub (pe_op op_add (pe_op op_sub (pv 3) (pe_op op_mulW (pe_ix (ix_seqK (K := K) rfl) (pv 2) pe_int (fun _ _ => rfl)) (pe_ix (ix_seqK (K := K) rfl) (pv 1) pe_int (fun _ _ => rfl)))) (pe_op op_mulW (pe_ix (ix_seqK (K := K) rfl) (pv 2) pe_int (fun _ _ => rfl)) (pe_ix (ix_seqK (K := K) rfl) (pv 0) pe_int (fun _ _ => rfl)))) (pe_op op_mulW (pe_ix (ix_seqK (K := K) rfl) (pv 0) pe_int (fun _ _ => rfl)) (pe_ix (ix_seqK (K := K) rfl) (pv 2) pe_int (fun _ _ => rfl))))))), body_ok h (fun ds μ Φ p => ?_)⟩
  (try dsimp only [cxOf, Cx.nox, Cx.wish, List.map_cons, List.map_nil])
  obtain ⟨x1, y1, x2, y2, x3, y3, rfl, s1, s2, s3, s4, s5, s6, q⟩ := p
  show AS K _ [some _, some _, some _, none] _ _
  walk_at "go"
  refine cast_int ?_ q
  unfold area
  grind
theorem ok_law {f : Addr} {fd : FuncData} (F : Fun K "law" "law" s_law f fd) (B : Bs mg) (G_l_area : Def P w K mg base "_law_area" ["_law_a", "_law_b", "_law_c"] 1 (spI K P_l_area)) (G_l_bag : Def P w K mg base "_law_bag" ["_law_script", "_law_at"] 2 (spI K P_l_bag)) (G_l_spot : Def P w K mg base "_law_spot" ["_law_bag_here", "_law_most"] 2 (spI K P_l_spot)) (G_l_take : Def P w K mg base "_law_take" ["_law_bag_here", "_law_many"] 1 (spI K P_l_take)) (G_l_whole : Def P w K mg base "_law_whole" ["_law_thing"] 1 (spI K P_l_whole)) (G_side : Def P w K mg base "side" ["one", "other", "third"] 2 (spI K P_side)) : FnOk P w K mg base CX0 4 f fd ["_law_script"] (spI K P_law) := by
  refine F.ok sc_law (fun vs H Q E h => spI_len h len_law) (fun cdv A outer s H vs Q E hr h => ?_)
  have hu65 := hu65_of hr
  refine ⟨_, (pss_cons (ps_for PassesOwn.never rfl (pi_range1 (by rfl) B.b_range (pa_cons (pe_op op_add pe_int (pe_callB (call_min2 rfl) (by rfl) B.b_min (by decide +kernel) (pa_cons pe_int (pa_cons (pe_callB (call_lenK (K := K) rfl) (by rfl) B.b_len (by decide +kernel) (pa_cons (pv 0) pa_nil)) pa_nil)))) pa_nil)) (pg_name (i := 1) sc_law.nd rfl (by first | exact Or.inl rfl | exact Or.inr rfl))
      (pss_cons (ps_set (i := 2) sc_law.nd rfl (by first | exact Or.inl rfl | exact Or.inr rfl) (pe_def G_l_bag (hr.mono (by decide)) (by rfl) (pa_cons (pv 0) (pa_cons (pv 1) pa_nil))))
      (pss_cons (ps_set (i := 3) sc_law.nd rfl (by first | exact Or.inl rfl | exact Or.inr rfl) (pe_ix (ix_seqK (K := K) rfl) (pe_lst (pa_cons pe_int (pa_cons pe_int (pa_cons pe_int (pa_cons (pe_op op_pow pe_int pe_int) pa_nil))))) (pe_def G_l_take (hr.mono (by decide)) (by rfl) (pa_cons (pv 2) (pa_cons pe_int pa_nil))) (fun _ _ => rfl)))
      (pss_cons (ps_par3 (i := 4) (j := 5) (l := 6) rfl sc_law.nd rfl rfl rfl (by decide) (by decide) (by decide) rfl rfl rfl (pa_cons (pe_def G_l_spot (hr.mono (by decide)) (by rfl) (pa_cons (pv 2) (pa_cons (pv 3) pa_nil))) (pa_cons (pe_def G_l_spot (hr.mono (by decide)) (by rfl) (pa_cons (pv 2) (pa_cons (pv 3) pa_nil))) (pa_cons (pe_def G_l_spot (hr.mono (by decide)) (by rfl) (pa_cons (pv 2) (pa_cons (pv 3) pa_nil))) pa_nil))) (by rfl))
      (pss_cons (ps_if (pt_cmpR (op_eqDK (K := K) rfl hr.units) (pv 4) (pv 5) (by first | exact nomark _ | rfl)) (pss_one (ps_set (i := 5) sc_law.nd rfl (by first | exact Or.inl rfl | exact Or.inr rfl) (pe_tup (pa_cons (pe_op op_add (pe_op op_add (pe_ix (ix_seqK (K := K) rfl) (pv 4) pe_int (fun _ _ => rfl)) pe_int) (pe_def G_l_take (hr.mono (by decide)) (by rfl) (pa_cons (pv 2) (pa_cons (pv 3) pa_nil)))) (pa_cons (pe_ix (ix_seqK (K := K) rfl) (pv 4) pe_int (fun _ _ => rfl)) pa_nil))))) pss_nil)
      (pss_cons (ps_if (pt_cmpR op_eq (pe_def G_l_take (hr.mono (by decide)) (by rfl) (pa_cons (pv 2) (pa_cons pe_int pa_nil))) pe_int (by first | exact nomark _ | rfl)) (pss_cons (ps_set (i := 7) sc_law.nd rfl (by first | exact Or.inl rfl | exact Or.inr rfl) (pe_op op_sub (pe_def G_l_take (hr.mono (by decide)) (by rfl) (pa_cons (pv 2) (pa_cons pe_int pa_nil))) pe_int))
      (pss_one (ps_set (i := 6) sc_law.nd rfl (by first | exact Or.inl rfl | exact Or.inr rfl) (pe_tup (pa_cons (pe_op op_add (pe_ix (ix_seqK (K := K) rfl) (pv 4) pe_int (fun _ _ => rfl)) (pe_op op_mulW (pv 7) (pe_op op_sub (pe_ix (ix_seqK (K := K) rfl) (pv 5) pe_int (fun _ _ => rfl)) (pe_ix (ix_seqK (K := K) rfl) (pv 4) pe_int (fun _ _ => rfl))))) (pa_cons (pe_op op_add (pe_ix (ix_seqK (K := K) rfl) (pv 4) pe_int (fun _ _ => rfl)) (pe_op op_mulW (pv 7) (pe_op op_sub (pe_ix (ix_seqK (K := K) rfl) (pv 5) pe_int (fun _ _ => rfl)) (pe_ix (ix_seqK (K := K) rfl) (pv 4) pe_int (fun _ _ => rfl))))) pa_nil)))))) pss_nil)
      (pss_cons (ps_set (i := 8) sc_law.nd rfl (by first | exact Or.inl rfl | exact Or.inr rfl) (pe_def G_l_area (hr.mono (by decide)) (by rfl) (pa_cons (pv 4) (pa_cons (pv 5) (pa_cons (pv 6) pa_nil)))))
      (pss_cons (ps_set (i := 9) sc_law.nd rfl (by first | exact Or.inl rfl | exact Or.inr rfl) (pe_op op_sub (pe_callTy call_int1 (by rfl) B.b_int (by decide +kernel) (pa_cons (pe_cmpR op_gt (pv 8) pe_int (by first | exact nomark _ | rfl)) pa_nil)) (pe_callTy call_int1 (by rfl) B.b_int (by decide +kernel) (pa_cons (pe_cmpR op_lt (pv 8) pe_int (by first | exact nomark _ | rfl)) pa_nil))))
      (pss_cons (ps_set (i := 10) sc_law.nd rfl (by first | exact Or.inl rfl | exact Or.inr rfl) (pe_def G_side (hr.mono (by decide)) (by rfl) (pa_cons (pv 4) (pa_cons (pv 5) (pa_cons (pv 6) pa_nil)))))
      (pss_cons (ps_if (PW.pt (pw_or (pt_not (pt_val (pe_def G_l_whole (hr.mono (by decide)) (by rfl) (pa_cons (pv 10) pa_nil)))) (pw_or (pt_cmpR op_ne (pv 10) (pv 9) (by first | exact nomark _ | rfl)) (pw_or1 (pt_cmpR op_ne (pe_def G_side (hr.mono (by decide)) (by rfl) (pa_cons (pv 5) (pa_cons (pv 4) (pa_cons (pv 6) pa_nil)))) (pe_op op_sub pe_int (pv 9)) (by first | exact nomark _ | rfl)))))) (pss_one (ps_ret pe_bl)) pss_nil)
      (pss_cons (ps_if (pt_cmpR (op_notInSK (K := K) rfl hu65) (pv 6) (pe_tup (pa_cons (pv 4) (pa_cons (pv 5) pa_nil))) (by first | exact nomark _ | rfl)) (pss_cons (ps_if (PW.pt (pw_or (pt_cmpR op_ne (pe_def G_side (hr.mono (by decide)) (by rfl) (pa_cons (pv 5) (pa_cons (pv 6) (pa_cons (pv 4) pa_nil)))) (pv 9) (by first | exact nomark _ | rfl)) (pw_or1 (pt_cmpR op_ne (pe_def G_side (hr.mono (by decide)) (by rfl) (pa_cons (pv 6) (pa_cons (pv 4) (pa_cons (pv 5) pa_nil)))) (pv 9) (by first | exact nomark _ | rfl))))) (pss_one (ps_ret pe_bl)) pss_nil)
      (pss_one (ps_if (pt_cmpR op_ne (pe_def G_side (hr.mono (by decide)) (by rfl) (pa_cons (pv 4) (pa_cons (pv 6) (pa_cons (pv 5) pa_nil)))) (pe_op op_sub pe_int (pv 9)) (by first | exact nomark _ | rfl)) (pss_one (ps_ret pe_bl)) pss_nil))) pss_nil)
      (pss_cons (ps_if (PW.pt (pw_or (pt_cmpR op_ne (pe_def G_side (hr.mono (by decide)) (by rfl) (pa_cons (pv 4) (pa_cons (pv 5) (pa_cons (pv 4) pa_nil)))) pe_int (by first | exact nomark _ | rfl)) (pw_or1 (pt_cmpR op_ne (pe_def G_side (hr.mono (by decide)) (by rfl) (pa_cons (pv 4) (pa_cons (pv 5) (pa_cons (pv 5) pa_nil)))) pe_int (by first | exact nomark _ | rfl))))) (pss_one (ps_ret pe_bl)) pss_nil)
      (pss_cons (ps_set (i := 11) sc_law.nd rfl (by first | exact Or.inl rfl | exact Or.inr rfl) (pe_def G_l_spot (hr.mono (by decide)) (by rfl) (pa_cons (pv 2) (pa_cons (pe_op op_pow pe_int pe_int) pa_nil))))
      (pss_cons (ps_setLc (i := 12) (own := [("_law_spot_here", 13)]) (g := gName 13) (tt := tYes) rfl sc_law.nd rfl rfl (sw_true rfl rfl rfl (by decide +kernel)) (pi_tupK (K := K) rfl (pe_tup (pa_cons (pv 4) (pa_cons (pv 5) (pa_cons (pv 6) pa_nil))))) (blkOk_by (own := [("_law_spot_here", 13)]) (N := N_law) (sc := defScope s_law) (by decide +kernel)) (fun _ _ _ _ _ => (pg_name (i := 13) sc_law.nd rfl (by first | exact Or.inl rfl | exact Or.inr rfl))) (fun _ _ _ _ _ => pts_nil) (fun _ _ _ _ _ => (pe_tup (pa_cons (pe_op op_add (pe_ix (ix_seqK (K := K) rfl) (pv 13) pe_int (fun _ _ => rfl)) (pe_ix (ix_seqK (K := K) rfl) (pv 11) pe_int (fun _ _ => rfl))) (pa_cons (pe_op op_add (pe_ix (ix_seqK (K := K) rfl) (pv 13) pe_int (fun _ _ => rfl)) (pe_ix (ix_seqK (K := K) rfl) (pv 11) pe_int (fun _ _ => rfl))) pa_nil)))))
      (pss_one (ps_if (pt_cmpR op_ne (pe_def G_side (hr.mono (by decide)) (by rfl) (pa_cons (pe_ix (ix_seqK (K := K) rfl) (pv 12) pe_int (fun _ _ => rfl)) (pa_cons (pe_ix (ix_seqK (K := K) rfl) (pv 12) pe_int (fun _ _ => rfl)) (pa_cons (pe_ix (ix_seqK (K := K) rfl) (pv 12) pe_int (fun _ _ => rfl)) pa_nil)))) (pv 9) (by first | exact nomark _ | rfl)) (pss_one (ps_ret pe_bl)) pss_nil))))))))))))))))
      (pss_one (ps_ret pe_bl))), body_ok h (fun ds μ Φ p => ?_)⟩
  (try dsimp only [cxOf, Cx.nox, Cx.wish, List.map_cons, List.map_nil])
  obtain ⟨ns, rfl, hl, q⟩ := p
  show AS K _ [some _, none, none, none, none, none, none, none, none, none, none, none, none, none] _ _
  walk_at "go"
  refine s_for1 (1 + if ((ns.map D.int).length : Int) < 6 then ((ns.map D.int).length : Int) else 6) (fun i τ' μ' => ∃ o1 o2 o3 o4 o5 o6 o7 o8 o9 o10 o11 o12 o13 : Option D, τ' = [some (.rol (ns.map D.int)), o1, o2, o3, o4, o5, o6, o7, o8, o9, o10, o11, o12, o13]) ?h ?hs ?hd
  case h =>
    walk_at "go"
    refine ⟨rfl, ?_, ?_, ?_⟩
    · split <;> omega
    · split <;> omega
    · exact ⟨_, _, _, _, _, _, _, _, _, _, _, _, _, rfl⟩
  case hd =>
    rintro τ' μ' ⟨o1, o2, o3, o4, o5, o6, o7, o8, o9, o10, o11, o12, o13, rfl⟩
    walk_at "go"
    exact q _
  case hs =>
    rintro i τ' μ' hi ⟨o1, o2, o3, o4, o5, o6, o7, o8, o9, o10, o11, o12, o13, rfl⟩
    have hi6 : (i : Int) ≤ 6 := by split at hi <;> omega
    walk_at "go"
    refine use_bag (by omega) (by omega) fun b c m hb hm => ?_
    walk_at "go"
    intro l hl0
    have hlb : l ≠ b := fun z => by subst z; rw [set_same] at hl0; cases hl0
    walk_at "go"
    refine use_take (by walk_at "mu") hm (by decide) (by walk_at "szN") fun d c1 m1 a1 a2 s1 hm1 => ?_
    obtain ⟨z, hz, hz0, hzs⟩ := menu a1 a2
    walk_at "go"
    refine ro_ix (by walk_at "seq") hz ?_
    walk_at "go"
    refine use_spot (by walk_at "mu") hm1 (by omega) (by walk_at "szN") fun x1 y1 c2 m2 sx1 sy1 hm2 => ?_
    walk_at "go"
    refine use_spot (by walk_at "mu") hm2 (by omega) (by walk_at "szN") fun x2 y2 c3 m3 sx2 sy2 hm3 => ?_
    walk_at "go"
    refine use_spot (by walk_at "mu") hm3 (by omega) (by walk_at "szN") fun x3 y3 c4 m4 sx3 sy3 hm4 => ?_
    walk_at "go"
    refine if_cut (fun τ' μ' => ∃ x y c m o7 : _, BgOk m ∧ Sz 402 x ∧ Sz 402 y ∧ μ' b = some (.lst [.int c, .int m]) ∧ τ' = [some (D.rol (List.map D.int ns)), some (D.int i), some (D.ref b), some (D.int z), some (pt x1 y1), some (pt x y), some (pt x3 y3), o7, o8, o9, o10, o11, o12, o13]) (fun _ => ?_) (fun _ => ?_) ?_
    · walk_at "go"
      refine use_take (by walk_at "mu") hm4 hz0 (by walk_at "szN") fun d5 c5 m5 e1 e2 e3 hm5 => ?_
      walk_at "go"
      have t5 : Sz 128 d5 := sz_lt e1 e2 hzs
      exact ⟨_, _, _, _, _, hm5, by walk_at "szN", by walk_at "szN", set_same, rfl⟩
    · walk_at "go"
      exact ⟨_, _, _, _, _, hm4, by walk_at "szN", by walk_at "szN", set_same, rfl⟩
    rintro τ' μ' ⟨x2', y2', c5, m5, o7', hm5, sx2', sy2', hb5, rfl⟩
    dsimp only
    walk_at "go"
    refine use_take hb5 hm5 (by decide) (by walk_at "szN") fun d6 c6 m6 _ _ _ hm6 => ?_
    walk_at "go"
    refine if_cut (fun τ' μ' => ∃ x y c m o7 : _, BgOk m ∧ Sz 1000 x ∧ Sz 1000 y ∧ μ' b = some (.lst [.int c, .int m]) ∧ τ' = [some (D.rol (List.map D.int ns)), some (D.int i), some (D.ref b), some (D.int z), some (pt x1 y1), some (pt x2' y2'), some (pt x y), o7, o8, o9, o10, o11, o12, o13]) (fun _ => ?_) (fun _ => ?_) ?_
    · walk_at "go"
      refine use_take (by walk_at "mu") hm6 (by decide) (by walk_at "szN") fun d7 c7 m7 g1 g2 g3 hm7 => ?_
      have t7 : Sz 8 d7 := sz_lt g1 g2 (by decide)
      walk_at "go"
      exact ⟨_, _, _, _, _, hm7, by walk_at "szN", by walk_at "szN", set_same, rfl⟩
    · walk_at "go"
      exact ⟨_, _, _, _, _, hm6, by walk_at "szN", by walk_at "szN", set_same, rfl⟩
    rintro τ' μ' ⟨x3', y3', c8, m8, o7'', hm8, sx3', sy3', hb8, rfl⟩
    dsimp only
    walk_at "go"
    refine use_area (by walk_at "szN") (by walk_at "szN") (by walk_at "szN") (by walk_at "szN") (by walk_at "szN") (by walk_at "szN") ?_
    walk_at "go"
    simp only [sgn_due]
    refine use_side (by walk_at "szN") (by walk_at "szN") (by walk_at "szN") (by walk_at "szN") (by walk_at "szN") (by walk_at "szN") ?_
    walk_at "go"
    refine ⟨_, rfl, ?_⟩
    walk_at "go"
    refine ite_nd (fun h => absurd rfl h) (fun _ => ?_)
    walk_at "go"
    refine use_side (by walk_at "szN") (by walk_at "szN") (by walk_at "szN") (by walk_at "szN") (by walk_at "szN") (by walk_at "szN") ?_
    walk_at "go"
    refine ite_nd (fun h => absurd (by rw [area_flip, sgn_neg]) h) (fun _ => ?_)
    walk_at "go"
    refine if_cut (fun τ2 μ2 => μ2 = μ' ∧ τ2 = [some (D.rol (List.map D.int ns)), some (D.int i), some (D.ref b), some (D.int z), some (pt x1 y1), some (pt x2' y2'), some (pt x3' y3'), o7'', some (D.int (area (x1, y1) (x2', y2') (x3', y3'))), some (D.int (sgn (area (x1, y1) (x2', y2') (x3', y3')))), some (D.int (sgn (area (x1, y1) (x2', y2') (x3', y3')))), o11, o12, o13]) (fun _ => ?_) (fun _ => ?_) ?_
    · walk_at "go"
      refine use_side (by walk_at "szN") (by walk_at "szN") (by walk_at "szN") (by walk_at "szN") (by walk_at "szN") (by walk_at "szN") ?_
      walk_at "go"
      refine ite_nd (fun h => absurd (by rw [area_round]) h) (fun _ => ?_)
      walk_at "go"
      refine use_side (by walk_at "szN") (by walk_at "szN") (by walk_at "szN") (by walk_at "szN") (by walk_at "szN") (by walk_at "szN") ?_
      walk_at "go"
      refine ite_nd (fun h => absurd (by rw [area_round2]) h) (fun _ => ?_)
      walk_at "go"
      refine use_side (by walk_at "szN") (by walk_at "szN") (by walk_at "szN") (by walk_at "szN") (by walk_at "szN") (by walk_at "szN") ?_
      walk_at "go"
      refine ite_nd (fun h => absurd (by rw [area_flip2, sgn_neg]) h) (fun _ => ?_)
      walk_at "go"
      exact ⟨rfl, rfl⟩
    · walk_at "go"
      exact ⟨rfl, rfl⟩
    rintro τ2 μ2 ⟨rfl, rfl⟩
    dsimp only
    walk_at "go"
    refine use_side (by walk_at "szN") (by walk_at "szN") (by walk_at "szN") (by walk_at "szN") (by walk_at "szN") (by walk_at "szN") ?_
    walk_at "go"
    refine ite_nd (fun h => absurd (by rw [area_end1]; rfl) h) (fun _ => ?_)
    walk_at "go"
    refine use_side (by walk_at "szN") (by walk_at "szN") (by walk_at "szN") (by walk_at "szN") (by walk_at "szN") (by walk_at "szN") ?_
    walk_at "go"
    refine ite_nd (fun h => absurd (by rw [area_end2]; rfl) h) (fun _ => ?_)
    walk_at "go"
    refine use_spot (by walk_at "mu") hm8 (by decide) (by walk_at "szN") fun x4 y4 c9 m9 sx4 sy4 hm9 => ?_
    walk_at "go"
    refine a_lcT_pure (fun d => match d with | .tup [.int x, .int y] => pt (x + x4) (y + y4) | d => d) (fun _ => true) ?_
    walk_at "go"
    refine ⟨fun x hx => at_yes ⟨rfl, rfl⟩, fun x hx _ => ?_, fun l2 hl2 => ?_⟩
    · simp only [List.mem_cons, List.not_mem_nil, or_false] at hx
      rcases hx with rfl | rfl | rfl
      · walk_at "go"
        exact ⟨rfl, rfl⟩
      · walk_at "go"
        exact ⟨rfl, rfl⟩
      · walk_at "go"
        exact ⟨rfl, rfl⟩
    · simp only [List.filter_cons, List.filter_nil, if_true, List.map_cons, List.map_nil]
      walk_at "go"
      refine use_side (by walk_at "szN") (by walk_at "szN") (by walk_at "szN") (by walk_at "szN") (by walk_at "szN") (by walk_at "szN") ?_
      walk_at "go"
      refine ite_nd (fun h => absurd (congrArg sgn (area_move (x1, y1) (x2', y2') (x3', y3') (x4, y4))) h) (fun _ => ?_)
      walk_at "go"
      exact ⟨_, _, _, _, _, _, _, _, _, _, _, _, _, rfl⟩
end
theorem all_mk {l : PySem.W.OpenLaw} {w : World} {K : PySem.W.Frag} {h : Heap} {mg : Str → Option Value} {fa : Addr} (X : K.In h) (G : h.Ns mainGlobals mg) (hfa : mg "law" = some (.ref fa))
    {f1 f2 f3 f4 f5 f6 f7 f8 f9 : Addr}
    {od1 an1 od2 an2 od3 an3 od4 an4 od5 an5 od6 an6 od7 an7 od8 an8 od9 an9 : Option Addr}
    {sl1 sl2 sl3 sl4 sl5 sl6 sl7 sl8 sl9 : Array (Option Value)}
    {oc1 kV1 dc1 pm1 cd1 ct1 oc2 kV2 dc2 pm2 cd2 ct2 oc3 kV3 dc3 pm3 cd3 ct3 oc4 kV4 dc4 pm4 cd4 ct4 oc5 kV5 dc5 pm5 cd5 ct5 oc6 kV6 dc6 pm6 cd6 ct6 oc7 kV7 dc7 pm7 cd7 ct7 oc8 kV8 dc8 pm8 cd8 ct8 oc9 kV9 dc9 pm9 cd9 ct9 : Value}
    (a1 : PySem.W.nsIn K mainGlobals "sign_of" = some (some (.ref f1)))
    (l1 : K.lookup f1 = some ⟨oc1, od1, .func (PySem.W.fnOf "sign_of" "sign_of" (defArgs s_sign_of) (defBody s_sign_of) (defScope s_sign_of) .none kV1 dc1 pm1 an1 cd1 ct1), sl1⟩)
    (c1 : PySem.W.codeIn K cd1 "sign_of" = true)
    (k1 : PySem.W.keepIn K (.ref f1) = true)
    (a2 : PySem.W.nsIn K mainGlobals "side" = some (some (.ref f2)))
    (l2 : K.lookup f2 = some ⟨oc2, od2, .func (PySem.W.fnOf "side" "side" (defArgs s_side) (defBody s_side) (defScope s_side) .none kV2 dc2 pm2 an2 cd2 ct2), sl2⟩)
    (c2 : PySem.W.codeIn K cd2 "side" = true)
    (k2 : PySem.W.keepIn K (.ref f2) = true)
    (a3 : PySem.W.nsIn K mainGlobals "_law_cell_at" = some (some (.ref f3)))
    (l3 : K.lookup f3 = some ⟨oc3, od3, .func (PySem.W.fnOf "_law_cell_at" "_law_cell_at" (defArgs s_l_cell_at) (defBody s_l_cell_at) (defScope s_l_cell_at) .none kV3 dc3 pm3 an3 cd3 ct3), sl3⟩)
    (c3 : PySem.W.codeIn K cd3 "_law_cell_at" = true)
    (k3 : PySem.W.keepIn K (.ref f3) = true)
    (a4 : PySem.W.nsIn K mainGlobals "_law_bag" = some (some (.ref f4)))
    (l4 : K.lookup f4 = some ⟨oc4, od4, .func (PySem.W.fnOf "_law_bag" "_law_bag" (defArgs s_l_bag) (defBody s_l_bag) (defScope s_l_bag) .none kV4 dc4 pm4 an4 cd4 ct4), sl4⟩)
    (c4 : PySem.W.codeIn K cd4 "_law_bag" = true)
    (k4 : PySem.W.keepIn K (.ref f4) = true)
    (a5 : PySem.W.nsIn K mainGlobals "_law_take" = some (some (.ref f5)))
    (l5 : K.lookup f5 = some ⟨oc5, od5, .func (PySem.W.fnOf "_law_take" "_law_take" (defArgs s_l_take) (defBody s_l_take) (defScope s_l_take) .none kV5 dc5 pm5 an5 cd5 ct5), sl5⟩)
    (c5 : PySem.W.codeIn K cd5 "_law_take" = true)
    (k5 : PySem.W.keepIn K (.ref f5) = true)
    (a6 : PySem.W.nsIn K mainGlobals "_law_whole" = some (some (.ref f6)))
    (l6 : K.lookup f6 = some ⟨oc6, od6, .func (PySem.W.fnOf "_law_whole" "_law_whole" (defArgs s_l_whole) (defBody s_l_whole) (defScope s_l_whole) .none kV6 dc6 pm6 an6 cd6 ct6), sl6⟩)
    (c6 : PySem.W.codeIn K cd6 "_law_whole" = true)
    (k6 : PySem.W.keepIn K (.ref f6) = true)
    (a7 : PySem.W.nsIn K mainGlobals "_law_spot" = some (some (.ref f7)))
    (l7 : K.lookup f7 = some ⟨oc7, od7, .func (PySem.W.fnOf "_law_spot" "_law_spot" (defArgs s_l_spot) (defBody s_l_spot) (defScope s_l_spot) .none kV7 dc7 pm7 an7 cd7 ct7), sl7⟩)
    (c7 : PySem.W.codeIn K cd7 "_law_spot" = true)
    (k7 : PySem.W.keepIn K (.ref f7) = true)
    (a8 : PySem.W.nsIn K mainGlobals "_law_area" = some (some (.ref f8)))
    (l8 : K.lookup f8 = some ⟨oc8, od8, .func (PySem.W.fnOf "_law_area" "_law_area" (defArgs s_l_area) (defBody s_l_area) (defScope s_l_area) .none kV8 dc8 pm8 an8 cd8 ct8), sl8⟩)
    (c8 : PySem.W.codeIn K cd8 "_law_area" = true)
    (k8 : PySem.W.keepIn K (.ref f8) = true)
    (a9 : PySem.W.nsIn K mainGlobals "law" = some (some (.ref f9)))
    (l9 : K.lookup f9 = some ⟨oc9, od9, .func (PySem.W.fnOf "law" "law" (defArgs s_law) (defBody s_law) (defScope s_law) .none kV9 dc9 pm9 an9 cd9 ct9), sl9⟩)
    (c9 : PySem.W.codeIn K cd9 "law" = true)
    (k9 : PySem.W.keepIn K (.ref f9) = true)
    (z_bool : PySem.W.nsIn K mainGlobals "bool" = some none)
    (z_int : PySem.W.nsIn K mainGlobals "int" = some none)
    (z_isinstance : PySem.W.nsIn K mainGlobals "isinstance" = some none)
    (z_len : PySem.W.nsIn K mainGlobals "len" = some none)
    (z_min : PySem.W.nsIn K mainGlobals "min" = some none)
    (z_range : PySem.W.nsIn K mainGlobals "range" = some none) :
    ∃ fd : FuncData, (∀ (s : Shared) (v : Value), BindsTo s fd ⟨[v], []⟩ [("_law_script", v)]) ∧ ∀ base : Heap, K.In base → base.Ns mainGlobals mg → FnOk l.prog w K mg base CX0 4 fa fd ["_law_script"] (spI K P_law) := by
  have e := hfa.symm.trans (PySem.W.mg_of X G a9)
  cases e
  have B : Bs mg := ⟨PySem.W.mg_none_of X G z_bool, PySem.W.mg_none_of X G z_int, PySem.W.mg_none_of X G z_isinstance, PySem.W.mg_none_of X G z_len, PySem.W.mg_none_of X G z_min, PySem.W.mg_none_of X G z_range⟩
  have F1 := fun_mk (st := s_sign_of) l1 c1 k1
  have F2 := fun_mk (st := s_side) l2 c2 k2
  have F3 := fun_mk (st := s_l_cell_at) l3 c3 k3
  have F4 := fun_mk (st := s_l_bag) l4 c4 k4
  have F5 := fun_mk (st := s_l_take) l5 c5 k5
  have F6 := fun_mk (st := s_l_whole) l6 c6 k6
  have F7 := fun_mk (st := s_l_spot) l7 c7 k7
  have F8 := fun_mk (st := s_l_area) l8 c8 k8
  have F9 := fun_mk (st := s_law) l9 c9 k9
  refine ⟨PySem.W.fnOf "law" "law" (defArgs s_law) (defBody s_law) (defScope s_law) .none kV9 dc9 pm9 an9 cd9 ct9, fun s v => .of_eq rfl, fun base _ _ => ?_⟩
  have b1 := F1.binds (ps := ["number"]) fun _ _ _ _ _ _ us hl => match us, hl with | [_], _ => rfl
  have G1 : Def l.prog w K mg base "sign_of" ["number"] 1 (spI K P_sign_of) := ⟨f1, _, ok_sign_of F1 B, PySem.W.mg_of X G a1, k1, b1⟩
  have b2 := F2.binds (ps := ["one", "other", "third"]) fun _ _ _ _ _ _ us hl => match us, hl with | [_, _, _], _ => rfl
  have G2 : Def l.prog w K mg base "side" ["one", "other", "third"] 2 (spI K P_side) := ⟨f2, _, ok_side F2 B G1, PySem.W.mg_of X G a2, k2, b2⟩
  have b3 := F3.binds (ps := ["_law_script", "_law_k"]) fun _ _ _ _ _ _ us hl => match us, hl with | [_, _], _ => rfl
  have G3 : Def l.prog w K mg base "_law_cell_at" ["_law_script", "_law_k"] 1 (spI K P_l_cell_at) := ⟨f3, _, ok_l_cell_at F3 B, PySem.W.mg_of X G a3, k3, b3⟩
  have b4 := F4.binds (ps := ["_law_script", "_law_at"]) fun _ _ _ _ _ _ us hl => match us, hl with | [_, _], _ => rfl
  have G4 : Def l.prog w K mg base "_law_bag" ["_law_script", "_law_at"] 2 (spI K P_l_bag) := ⟨f4, _, ok_l_bag F4 B G3, PySem.W.mg_of X G a4, k4, b4⟩
  have b5 := F5.binds (ps := ["_law_bag_here", "_law_many"]) fun _ _ _ _ _ _ us hl => match us, hl with | [_, _], _ => rfl
  have G5 : Def l.prog w K mg base "_law_take" ["_law_bag_here", "_law_many"] 1 (spI K P_l_take) := ⟨f5, _, ok_l_take F5 B, PySem.W.mg_of X G a5, k5, b5⟩
  have b6 := F6.binds (ps := ["_law_thing"]) fun _ _ _ _ _ _ us hl => match us, hl with | [_], _ => rfl
  have G6 : Def l.prog w K mg base "_law_whole" ["_law_thing"] 1 (spI K P_l_whole) := ⟨f6, _, ok_l_whole F6 B, PySem.W.mg_of X G a6, k6, b6⟩
  have b7 := F7.binds (ps := ["_law_bag_here", "_law_most"]) fun _ _ _ _ _ _ us hl => match us, hl with | [_, _], _ => rfl
  have G7 : Def l.prog w K mg base "_law_spot" ["_law_bag_here", "_law_most"] 2 (spI K P_l_spot) := ⟨f7, _, ok_l_spot F7 B G5, PySem.W.mg_of X G a7, k7, b7⟩
  have b8 := F8.binds (ps := ["_law_a", "_law_b", "_law_c"]) fun _ _ _ _ _ _ us hl => match us, hl with | [_, _, _], _ => rfl
  have G8 : Def l.prog w K mg base "_law_area" ["_law_a", "_law_b", "_law_c"] 1 (spI K P_l_area) := ⟨f8, _, ok_l_area F8 B, PySem.W.mg_of X G a8, k8, b8⟩
  exact ok_law F9 B G8 G4 G7 G5 G6 G2
theorem walk {l : PySem.W.OpenLaw} {q : Program} {loose : List Str} {XP : (Str → Option Value) → Heap → Prop} {YP : World → Heap → Prop} {d : DefRec} {K : Params → PySem.W.Frag} (hn : l.most = some 63) (hdf : d.params.defaults = [])
    (hY : ∀ (w : World) (h : Heap), YP w h → (K w.params).In h)
    (F : ∀ (w : World) (mg : Str → Option Value) (fa : Addr) (h : Heap), (K w.params).In h → h.Ns mainGlobals mg → mg d.name = some (.ref fa) →
      ∃ fd : FuncData, (∀ (s : Shared) (u : Value), BindsTo s fd ⟨[u], []⟩ [("_law_script", u)]) ∧ ∀ base : Heap, (K w.params).In base → base.Ns mainGlobals mg → FnOk l.prog w (K w.params) mg base CX0 4 fa fd ["_law_script"] (spI (K w.params) P_law)) :
    PySem.W.WalkO q loose XP YP l.row.toRowW d [] (fun f vs => PySem.call f vs) :=
  L2.walk_of (n := 63) (k := 4) (x := "_law_script") (CX := fun _ => CX0) (sp := fun w => spI (K w.params) P_law) hn (by decide) hdf ⟨rfl, by decide, by decide⟩ hY F (fun _ _ a ns hl hO hS => law_start hl hO hS) fun _ _ _ _ _ z => z
end W
open PySem PySem.W PyProof.Rows in
set_option maxRecDepth 100000 in
set_option maxHeartbeats 0 in
theorem PySem.Challenge.cw_rubberroutes_k02_sides_of_lines_holds : PySem.Challenge.rw_rubberroutes_k02_sides_of_lines.Holds := by
  w_on; o_law; k_head; (case hw => w_witness2)
  k_fill
  refine W.walk (l := PySem.Challenge.rw_rubberroutes_k02_sides_of_lines) rfl rfl (fun w h Y => by first | exact PySem.W.kIn_of Y | exact PySem.W.km_in_of Y) ?F
  case F =>
    intro w mg fa h KX G hmg
    refine' W.all_mk KX G hmg ?a1 ?l1 ?c1 ?k1 ?a2 ?l2 ?c2 ?k2 ?a3 ?l3 ?c3 ?k3 ?a4 ?l4 ?c4 ?k4 ?a5 ?l5 ?c5 ?k5 ?a6 ?l6 ?c6 ?k6 ?a7 ?l7 ?c7 ?k7 ?a8 ?l8 ?c8 ?k8 ?a9 ?l9 ?c9 ?k9 ?z_bool ?z_int ?z_isinstance ?z_len ?z_min ?z_range
    (case a1 => k_is)
    (case l1 => k_is)
    (case c1 => k_is)
    (case k1 => k_is)
    (case a2 => k_is)
    (case l2 => k_is)
    (case c2 => k_is)
    (case k2 => k_is)
    (case a3 => k_is)
    (case l3 => k_is)
    (case c3 => k_is)
    (case k3 => k_is)
    (case a4 => k_is)
    (case l4 => k_is)
    (case c4 => k_is)
    (case k4 => k_is)
    (case a5 => k_is)
    (case l5 => k_is)
    (case c5 => k_is)
    (case k5 => k_is)
    (case a6 => k_is)
    (case l6 => k_is)
    (case c6 => k_is)
    (case k6 => k_is)
    (case a7 => k_is)
    (case l7 => k_is)
    (case c7 => k_is)
    (case k7 => k_is)
    (case a8 => k_is)
    (case l8 => k_is)
    (case c8 => k_is)
    (case k8 => k_is)
    (case a9 => k_is)
    (case l9 => k_is)
    (case c9 => k_is)
    (case k9 => k_is)
    (case z_bool => k_is)
    (case z_int => k_is)
    (case z_isinstance => k_is)
    (case z_len => k_is)
    (case z_min => k_is)
    (case z_range => k_is)
