import PyProof.Rows.All
import Wide.All
import OpenK.AllK
import Wide.FinOn
import HandS.ForMost
import HandS.Wide
import HandS.IsInst
import HandS.Deep
import HandS.Style
import HandS.Zip
import HandS.Defaults
import HandS.TryOnly
import HandS.Zip0
import KE.KDictZip
import KE.KItemsList
import HandS.ListItems
import HandS.TupAny
import HandS.ExcOwn
import HandS.Lambda
import PySem.Challenge.RW_rubberroutes_k42_lines_that_meet
set_option Elab.async false
set_option linter.all false
set_option maxRecDepth 100000
set_option maxHeartbeats 4000000
namespace Z
open PySem L2
inductive D where
  | non | bl (b : Bool) | int (i : Int) | str (s : Str) | ty (n : String) | tup (ds : List D) | rol (ds : List D) | ref (a : Addr)
inductive MO where
  | lst (ds : List D) | dK (kvs : List (Key × D)) | dT (kvs : List (List Key × D)) | ins (C dx : Addr) (fs : List (Str × D)) | xd (fs : List (Str × D)) | fT (od : Obj) (vs : List (List Key × V)) (kvs : List (List Key × D)) | fK (od : Obj) (vs : List (Key × V)) (kvs : List (Key × D)) | fTp (od : Obj) (ds : List D) | xo (od : Obj) (C : Addr) | tab (q : Str)
abbrev M := Addr → Option MO
def M.set (μ : M) (a : Addr) (m : MO) : M := fun b => if b = a then some m else μ b
theorem set_same {μ : M} {a : Addr} {m : MO} : μ.set a m a = some m := by unfold M.set; rw [if_pos rfl]
theorem set_ne {μ : M} {a b : Addr} {m : MO} (h : b ≠ a) : μ.set a m b = μ b := by unfold M.set; rw [if_neg h]
inductive TupAt (K : PySem.W.Frag) (H : Hp) (a : Addr) (xs : List V) : Prop
  | inl (h : H a = some (.tup xs)) : TupAt K H a xs
def RolAt (K : PySem.W.Frag) (H : Hp) (a : Addr) (xs : List V) : Prop :=
  (∃ o, H a = some (.frz o (.lst xs))) ∨ ∃ (o : Obj) (its : Array Value) (n : Nat), K.lookup a = some o ∧ o.cls = .type "list" ∧ o.dict = none ∧ o.data = .seq its n ∧ its.size ≤ sizeLine ∧ Vals xs its.toList
theorem TupAt.sq {K : PySem.W.Frag} {H : Hp} {a : Addr} {xs : List V} (h : TupAt K H a xs) : SqT K H a xs := by
  cases h with
  | inl h => exact .inl (.inl h)
theorem RolAt.sq {K : PySem.W.Frag} {H : Hp} {a : Addr} {xs : List V} (h : RolAt K H a xs) : SqL K H a xs := by
  rcases h with ⟨o, h⟩ | h
  · exact .inl (.inr ⟨o, h⟩)
  · exact .inr h
mutual
inductive Rel (K : PySem.W.Frag) (H : Hp) : V → D → Prop
  | non : Rel K H .non .non
  | bl (b : Bool) : Rel K H (.bl b) (.bl b)
  | int (i : Int) : Rel K H (.int i) (.int i)
  | str (s : Str) : Rel K H (.str s) (.str s)
  | ty (n : String) : Rel K H (.ty n) (.ty n)
  | ref (a : Addr) : Rel K H (.ref a) (.ref a)
  | tup {a : Addr} {xs : List V} {ds : List D} : TupAt K H a xs → Rels K H xs ds → Rel K H (.ref a) (.tup ds)
  | rol {a : Addr} {xs : List V} {ds : List D} : RolAt K H a xs → Rels K H xs ds → Rel K H (.ref a) (.rol ds)
inductive Rels (K : PySem.W.Frag) (H : Hp) : List V → List D → Prop
  | nil : Rels K H [] []
  | cons {v : V} {vs : List V} {d : D} {ds : List D} : Rel K H v d → Rels K H vs ds → Rels K H (v :: vs) (d :: ds)
end
/-- field lists, pair lists -/
def RelKV {κ : Type} (K : PySem.W.Frag) (H : Hp) : List (κ × V) → List (κ × D) → Prop := Paired fun p q => p.1 = q.1 ∧ Rel K H p.2 q.2
def MRel (K : PySem.W.Frag) (H : Hp) (a : Addr) : MO → Prop
  | .lst ds => ∃ vs, H a = some (.lst vs) ∧ Rels K H vs ds
  | .dK kvs => ∃ vs, H a = some (.dK vs) ∧ RelKV K H vs kvs
  | .dT kvs => ∃ vs, H a = some (.dT vs) ∧ RelKV K H vs kvs
  | .ins C dx fs => ∃ vs, H a = some (.ins C dx vs) ∧ RelKV K H vs fs
  | .xd fs => ∃ vs, H a = some (.xd vs) ∧ RelKV K H vs fs
  | .fT od us kvs => ∃ vs, H a = some (.frz od (.dT vs)) ∧ RelKV K H vs kvs ∧ vs = us
  | .fK od us kvs => ∃ vs, H a = some (.frz od (.dK vs)) ∧ RelKV K H vs kvs ∧ vs = us
  | .fTp od ds => ∃ vs, H a = some (.frz od (.tup vs)) ∧ Rels K H vs ds ∧ od.dict = none
  | .xo od C => ∃ z : Addr, H a = some (.frz od (.own z)) ∧ od.cls = .ref C ∧ ∃ vs, od.data = .fields vs
  | .tab q => ∃ ps : Array Value, H a = some (.tbl ps) ∧ TriplesOk ps.toList ∧ ∀ (pos : Pos) (cv : Value), codeAmong pos ps.toList = some cv → ∃ c, cv = .ref c ∧ H c = some (LamX.CodeO c q)
def Con (K : PySem.W.Frag) (H : Hp) (μ : M) : Prop := ∀ a m, μ a = some m → MRel K H a m
abbrev T := List (Option D)
def Slots (K : PySem.W.Frag) (H : Hp) (τ : T) (σ : St) : Prop := τ.length = σ.length ∧ ∀ (i : Nat) (d : D), τ[i]? = some (some d) → ∃ v, σ[i]? = some (some v) ∧ Rel K H v d
/-- what is tracked outside of the store stays, and stays outside -/
def Fr (μ μ' : M) (H H' : Hp) : Prop := ∀ a o, μ a = none → H a = some o → H' a = some o ∧ μ' a = none
section
variable {K : PySem.W.Frag} {H H' H1 H2 : Hp} {μ μ' μ1 μ2 : M} {τ : T} {σ : St}
theorem Fr.refl : Fr μ μ H H := fun _ _ h e => ⟨e, h⟩
theorem Fr.trans (a : Fr μ μ1 H H1) (b : Fr μ1 μ2 H1 H2) : Fr μ μ2 H H2 := fun x o h e => let ⟨e1, h1⟩ := a x o h e; b x o h1 e1
theorem Con.tn (c : Con K H μ) {a : Addr} {xs : List V} (e : H a = some (.tup xs)) : μ a = none := by
  cases q : μ a with
  | none => rfl
  | some m =>
    have r := c a m q
    cases m <;> (obtain ⟨vs, h, _⟩ := r; rw [e] at h; cases h)
theorem Con.fn (c : Con K H μ) {a : Addr} {o : Obj} {u : List V} (e : H a = some (.frz o (.lst u))) : μ a = none := by
  cases q : μ a with
  | none => rfl
  | some m =>
    have r := c a m q
    cases m <;> (obtain ⟨vs, h, _⟩ := r; rw [e] at h; cases h)
theorem Con.free (c : Con K H μ) {a : Addr} (e : H a = none) : μ a = none := by
  cases q : μ a with
  | none => rfl
  | some m =>
    have r := c a m q
    cases m <;> (obtain ⟨vs, h, _⟩ := r; rw [e] at h; cases h)
/-- tuples and read-only lists stay -/
structure Tx (H H' : Hp) : Prop where
  t : ∀ a xs, H a = some (.tup xs) → H' a = some (.tup xs)
  l : ∀ a o xs, H a = some (.frz o (.lst xs)) → H' a = some (.frz o (.lst xs))
  c : ∀ a q, H a = some (LamX.CodeO a q) → H' a = some (LamX.CodeO a q)
theorem Con.cn (c : Con K H μ) {a : Addr} {q : Str} (e : H a = some (LamX.CodeO a q)) : μ a = none := by
  cases h : μ a with
  | none => rfl
  | some m =>
    have r := c a m h
    unfold LamX.CodeO at e
    cases m <;> (obtain ⟨vs, h, _⟩ := r; rw [e] at h; cases h)
theorem Tx.trans (a : Tx H H1) (b : Tx H1 H2) : Tx H H2 := ⟨fun x xs h => b.t x xs (a.t x xs h), fun x o xs h => b.l x o xs (a.l x o xs h), fun x q h => b.c x q (a.c x q h)⟩
theorem Fr.tx (f : Fr μ μ' H H') (c : Con K H μ) : Tx H H' := ⟨fun a xs e => (f a _ (c.tn e) e).1, fun a o xs e => (f a _ (c.fn e) e).1, fun a q e => (f a _ (c.cn e) e).1⟩
theorem TupAt.mono {a : Addr} {xs : List V} (t : Tx H H') (h : TupAt K H a xs) : TupAt K H' a xs := by
  cases h with
  | inl h => exact .inl (t.t _ _ h)
theorem RolAt.mono {a : Addr} {xs : List V} (t : Tx H H') (h : RolAt K H a xs) : RolAt K H' a xs := by
  rcases h with ⟨o, h⟩ | h
  · exact .inl ⟨o, t.l _ _ _ h⟩
  · exact .inr h
mutual
theorem Rel.mono (t : Tx H H') : ∀ (d : D) (v : V), Rel K H v d → Rel K H' v d
  | .non, _, .non => .non
  | .bl _, _, .bl b => .bl b
  | .int _, _, .int b => .int b
  | .str _, _, .str b => .str b
  | .ty _, _, .ty b => .ty b
  | .ref _, _, .ref b => .ref b
  | .tup ds, _, .tup h r => .tup (h.mono t) (Rels.mono t ds _ r)
  | .rol ds, _, .rol h r => .rol (h.mono t) (Rels.mono t ds _ r)
theorem Rels.mono (t : Tx H H') : ∀ (ds : List D) (vs : List V), Rels K H vs ds → Rels K H' vs ds
  | [], _, .nil => .nil
  | d :: ds, _, .cons a b => .cons (Rel.mono t d _ a) (Rels.mono t ds _ b)
end
theorem RelKV.mono {κ : Type} (t : Tx H H') : ∀ {xs : List (κ × V)} {ys : List (κ × D)}, RelKV K H xs ys → RelKV K H' xs ys
  | _, _, .nil => .nil
  | _, _, .cons a b => .cons ⟨a.1, Rel.mono t _ _ a.2⟩ (RelKV.mono t b)
theorem Slots.mono (t : Tx H H') (s : Slots K H τ σ) : Slots K H' τ σ := ⟨s.1, fun i d e => let ⟨v, h, r⟩ := s.2 i d e; ⟨v, h, Rel.mono t d v r⟩⟩
theorem Rels.length : ∀ {vs : List V} {ds : List D}, Rels K H vs ds → vs.length = ds.length
  | _, _, .nil => rfl
  | _, _, .cons _ b => by rw [List.length_cons, List.length_cons, Rels.length b]
theorem Rels.append : ∀ {vs ws : List V} {ds es : List D}, Rels K H vs ds → Rels K H ws es → Rels K H (vs ++ ws) (ds ++ es)
  | _, _, _, _, .nil, h => h
  | _, _, _, _, .cons a b, h => .cons a (Rels.append b h)
theorem Rels.get : ∀ {vs : List V} {ds : List D} {i : Nat} {d : D}, Rels K H vs ds → ds[i]? = some d → ∃ v, vs[i]? = some v ∧ Rel K H v d
  | _, _, i, d, .nil, e => by simp at e
  | _, _, 0, d, .cons a _, e => ⟨_, rfl, by simp at e; subst e; exact a⟩
  | _, _, i + 1, d, .cons _ b, e => by
    obtain ⟨v, h1, h2⟩ := Rels.get (i := i) (d := d) b (by simpa using e)
    exact ⟨v, by simpa using h1, h2⟩
theorem Rels.getV : ∀ {vs : List V} {ds : List D} {i : Nat} {v : V}, Rels K H vs ds → vs[i]? = some v → ∃ d, ds[i]? = some d ∧ Rel K H v d
  | _, _, i, d, .nil, e => by simp at e
  | _, _, 0, d, .cons a _, e => ⟨_, rfl, by simp at e; subst e; exact a⟩
  | _, _, i + 1, d, .cons _ b, e => by
    obtain ⟨v, h1, h2⟩ := Rels.getV (i := i) (v := d) b (by simpa using e)
    exact ⟨v, by simpa using h1, h2⟩
theorem Rels.set {v : V} {d : D} (r : Rel K H v d) : ∀ {vs : List V} {ds : List D} (i : Nat), Rels K H vs ds → Rels K H (vs.set i v) (ds.set i d)
  | _, _, _, .nil => .nil
  | _, _, 0, .cons _ b => .cons r b
  | _, _, i + 1, .cons a b => .cons a (Rels.set r i b)
theorem Rels.reverse : ∀ {vs : List V} {ds : List D}, Rels K H vs ds → Rels K H vs.reverse ds.reverse
  | _, _, .nil => .nil
  | _, _, .cons a b => by rw [List.reverse_cons, List.reverse_cons]; exact (Rels.reverse b).append (.cons a .nil)
theorem Rels.take : ∀ {vs : List V} {ds : List D} (n : Nat), Rels K H vs ds → Rels K H (vs.take n) (ds.take n)
  | _, _, 0, _ => .nil
  | _, _, _ + 1, .nil => .nil
  | _, _, n + 1, .cons a b => .cons a (Rels.take n b)
theorem Rels.drop : ∀ {vs : List V} {ds : List D} (n : Nat), Rels K H vs ds → Rels K H (vs.drop n) (ds.drop n)
  | _, _, 0, h => h
  | _, _, _ + 1, .nil => .nil
  | _, _, n + 1, .cons _ b => Rels.drop n b
theorem Slots.set {v : V} {d : D} (s : Slots K H τ σ) (r : Rel K H v d) (i : Nat) : Slots K H (τ.set i (some d)) (σ.set i (some v)) := by
  refine ⟨by rw [List.length_set, List.length_set]; exact s.1, fun j e h => ?_⟩
  by_cases hj : i = j
  · subst hj
    by_cases hi : i < τ.length
    · rw [List.getElem?_set_self hi] at h
      cases h
      exact ⟨v, by rw [List.getElem?_set_self (by rw [← s.1]; exact hi)], r⟩
    · rw [List.getElem?_eq_none (by rw [List.length_set]; omega)] at h; cases h
  · rw [List.getElem?_set_ne hj] at h
    obtain ⟨v', e', r'⟩ := s.2 j e h
    exact ⟨v', by rw [List.getElem?_set_ne hj]; exact e', r'⟩
/-- objects other than p are as they were: the store but p is borne again -/
theorem MRel.mono (t : Tx H H') {a : Addr} (e : H' a = H a) : ∀ {m : MO}, MRel K H a m → MRel K H' a m
  | .lst _, ⟨vs, h, r⟩ => ⟨vs, e.trans h, Rels.mono t _ _ r⟩
  | .dK _, ⟨vs, h, r⟩ => ⟨vs, e.trans h, RelKV.mono t r⟩
  | .dT _, ⟨vs, h, r⟩ => ⟨vs, e.trans h, RelKV.mono t r⟩
  | .ins _ _ _, ⟨vs, h, r⟩ => ⟨vs, e.trans h, RelKV.mono t r⟩
  | .xd _, ⟨vs, h, r⟩ => ⟨vs, e.trans h, RelKV.mono t r⟩
  | .fT _ _ _, ⟨vs, h, r, z⟩ => ⟨vs, e.trans h, RelKV.mono t r, z⟩
  | .fK _ _ _, ⟨vs, h, r, z⟩ => ⟨vs, e.trans h, RelKV.mono t r, z⟩
  | .fTp _ _, ⟨vs, h, r, z⟩ => ⟨vs, e.trans h, Rels.mono t _ _ r, z⟩
  | .xo _ _, ⟨u, h, r⟩ => ⟨u, e.trans h, r⟩
  | .tab _, ⟨ps, h, z, r⟩ => ⟨ps, e.trans h, z, fun pos cv q => let ⟨c, e1, e2⟩ := r pos cv q; ⟨c, e1, t.c _ _ e2⟩⟩
/-- a new untracked-by-the-store object -/
theorem tx_new {p : Addr} {o : HO} (n : H p = none) : Tx H (upd H p o) := ⟨fun a xs e => by rw [upd_ne (ne_of_none e n)]; exact e, fun a ob xs e => by rw [upd_ne (ne_of_none e n)]; exact e, fun a q e => by rw [upd_ne (ne_of_none e n)]; exact e⟩
theorem con_new {p : Addr} {o : HO} (n : H p = none) (c : Con K H μ) : Con K (upd H p o) μ := fun a m e => by
  have ha : a ≠ p := fun z => by subst z; rw [c.free n] at e; cases e
  exact (c a m e).mono (tx_new n) (upd_ne ha)
theorem fr_new {p : Addr} {o : HO} (n : H p = none) : Fr μ μ H (upd H p o) := fun a u h e => ⟨by rw [upd_ne (ne_of_none e n)]; exact e, h⟩
/-- .. and in the store -/
theorem con_put {p : Addr} {o : HO} {m : MO} (n : H p = none) (c : Con K H μ) (r : MRel K (upd H p o) p m) : Con K (upd H p o) (μ.set p m) := fun a m' e => by
  by_cases ha : a = p
  · subst ha; rw [set_same] at e; cases e; exact r
  · rw [set_ne ha] at e
    exact (c a m' e).mono (tx_new n) (upd_ne ha)
theorem fr_put {p : Addr} {o : HO} {m : MO} (n : H p = none) : Fr μ (μ.set p m) H (upd H p o) := fun a u h e => by
  have ha : a ≠ p := ne_of_none e n
  exact ⟨by rw [upd_ne ha]; exact e, by rw [set_ne ha]; exact h⟩
/-- an object of the store is changed -/
theorem tx_mut {p : Addr} {o : HO} {m : MO} (c : Con K H μ) (h : μ p = some m) : Tx H (upd H p o) :=
  ⟨fun a xs e => by rw [upd_ne (fun z => by subst z; rw [c.tn e] at h; cases h)]; exact e, fun a ob xs e => by rw [upd_ne (fun z => by subst z; rw [c.fn e] at h; cases h)]; exact e, fun a q e => by rw [upd_ne (fun z => by subst z; rw [c.cn e] at h; cases h)]; exact e⟩
theorem con_mut {p : Addr} {o : HO} {m m' : MO} (c : Con K H μ) (h : μ p = some m) (r : MRel K (upd H p o) p m') : Con K (upd H p o) (μ.set p m') := fun a u e => by
  by_cases ha : a = p
  · subst ha; rw [set_same] at e; cases e; exact r
  · rw [set_ne ha] at e
    exact (c a u e).mono (tx_mut c h) (upd_ne ha)
theorem fr_mut {p : Addr} {o : HO} {m m' : MO} (h : μ p = some m) : Fr μ (μ.set p m') H (upd H p o) := fun a u n e => by
  have ha : a ≠ p := fun z => by subst z; rw [n] at h; cases h
  exact ⟨by rw [upd_ne ha]; exact e, by rw [set_ne ha]; exact n⟩
/-- the store forgotten in part -/
def Sub (μ μ' : M) : Prop := ∀ a m, μ a = some m → μ' a = some m
theorem Sub.refl : Sub μ μ := fun _ _ h => h
theorem Sub.trans (a : Sub μ μ1) (b : Sub μ1 μ2) : Sub μ μ2 := fun x m h => b x m (a x m h)
theorem Sub.set {p : Addr} {m : MO} (h : μ p = none) : Sub μ (μ.set p m) := fun a m' e => by rw [set_ne (fun z => by subst z; rw [h] at e; cases e)]; exact e
theorem Con.sub (s : Sub μ μ') (c : Con K H μ') : Con K H μ := fun a m e => c a m (s a m e)
theorem Sub.none (s : Sub μ μ') {a : Addr} (h : μ' a = Option.none) : μ a = Option.none := by
  cases q : μ a with
  | none => rfl
  | some m => rw [s a m q] at h; cases h
theorem Fr.sub (f : Fr μ μ1 H H1) (s : Sub μ2 μ1) : Fr μ μ2 H H1 := fun a o n e => let ⟨e1, h1⟩ := f a o n e; ⟨e1, s.none h1⟩
end
def AE (K : PySem.W.Frag) (t : TE) (τ : T) (μ : M) (Φ : D → M → Prop) : Prop :=
  ∀ σ H, Slots K H τ σ → Con K H μ → ∀ Q : VK, (∀ d μ' v H', Fr μ μ' H H' → Con K H' μ' → Rel K H' v d → Φ d μ' → Q v H') → t σ H Q
def AA (K : PySem.W.Frag) (t : TA) (τ : T) (μ : M) (Φ : List D → M → Prop) : Prop :=
  ∀ σ H, Slots K H τ σ → Con K H μ → ∀ Q : List V → Hp → Prop, (∀ d μ' v H', Fr μ μ' H H' → Con K H' μ' → Rels K H' v d → Φ d μ' → Q v H') → t σ H Q
def AT (K : PySem.W.Frag) (t : TT) (τ : T) (μ : M) (Φ : Bool → M → Prop) : Prop :=
  ∀ σ H, Slots K H τ σ → Con K H μ → ∀ Q : Bool → Hp → Prop, (∀ b μ' H', Fr μ μ' H H' → Con K H' μ' → Φ b μ' → Q b H') → t σ H Q
structure AEnds where
  nx : T → M → Prop
  rt : D → M → Prop
  bk : T → M → Prop := fun _ _ => False
  ct : T → M → Prop := fun _ _ => False
  /-- what is wished of an exception; what the names of classes stand for; what holds where one is raised -/
  W : WX := fun _ _ _ _ => False
  cn : Str → Option Value := fun _ => none
  xs : Str → Option Addr → T → M → Prop := fun _ _ _ _ => False
/-- the concrete ends that follow from the abstract ones -/
structure EndsOk (K : PySem.W.Frag) (N : AEnds) (μ : M) (H : Hp) (E : Ends) : Prop where
  nx : ∀ τ' μ' σ' H', Fr μ μ' H H' → Con K H' μ' → Slots K H' τ' σ' → N.nx τ' μ' → E.nx σ' H'
  rt : ∀ d μ' v H', Fr μ μ' H H' → Con K H' μ' → Rel K H' v d → N.rt d μ' → E.rt v H'
  bk : ∀ τ' μ' σ' H', Fr μ μ' H H' → Con K H' μ' → Slots K H' τ' σ' → N.bk τ' μ' → E.bk σ' H'
  ct : ∀ τ' μ' σ' H', Fr μ μ' H H' → Con K H' μ' → Slots K H' τ' σ' → N.ct τ' μ' → E.ct σ' H'
  wx : ∀ x dx τ' μ' cls σ' H', N.cn x = some cls → Fr μ μ' H H' → Con K H' μ' → Slots K H' τ' σ' → N.xs x dx τ' μ' → N.W cls dx σ' H'
def AS (K : PySem.W.Frag) (t : TS) (τ : T) (μ : M) (N : AEnds) : Prop :=
  ∀ σ H, Slots K H τ σ → Con K H μ → ∀ E : Ends, EndsOk K N μ H E → t E σ H
/-- a target -/
def AG (K : PySem.W.Frag) (g : TG) (d : D) (τ : T) (μ : M) (Φ : T → M → Prop) : Prop :=
  ∀ σ H v, Slots K H τ σ → Con K H μ → Rel K H v d → ∀ Q : St → Hp → Prop, (∀ τ' μ' σ' H', Fr μ μ' H H' → Con K H' μ' → Slots K H' τ' σ' → Φ τ' μ' → Q σ' H') → g v σ H Q
def AGs (K : PySem.W.Frag) (g : TGs) (ds : List D) (τ : T) (μ : M) (Φ : T → M → Prop) : Prop :=
  ∀ σ H vs, Slots K H τ σ → Con K H μ → Rels K H vs ds → ∀ Q : St → Hp → Prop, (∀ τ' μ' σ' H', Fr μ μ' H H' → Con K H' μ' → Slots K H' τ' σ' → Φ τ' μ' → Q σ' H') → g vs σ H Q
/-- an operation on values -/
def RO (K : PySem.W.Frag) (r : R2) (d e : D) (μ : M) (Φ : D → M → Prop) : Prop :=
  ∀ H x y, Con K H μ → Rel K H x d → Rel K H y e → ∀ Q : VK, (∀ z μ' v H', Fr μ μ' H H' → Con K H' μ' → Rel K H' v z → Φ z μ' → Q v H') → r x y H Q
def RU (K : PySem.W.Frag) (r : V → Hp → VK → Prop) (d : D) (μ : M) (Φ : D → M → Prop) : Prop :=
  ∀ H x, Con K H μ → Rel K H x d → ∀ Q : VK, (∀ z μ' v H', Fr μ μ' H H' → Con K H' μ' → Rel K H' v z → Φ z μ' → Q v H') → r x H Q
def RC (K : PySem.W.Frag) (r : List V → Hp → VK → Prop) (ds : List D) (μ : M) (Φ : D → M → Prop) : Prop :=
  ∀ H xs, Con K H μ → Rels K H xs ds → ∀ Q : VK, (∀ z μ' v H', Fr μ μ' H H' → Con K H' μ' → Rel K H' v z → Φ z μ' → Q v H') → r xs H Q
section
variable {K : PySem.W.Frag} {τ : T} {μ : M} {Φ Ψ : D → M → Prop} {ta tb te : TE} {r : R2} {t u : TT} {x y z d e : D}
theorem AE.imp (h : AE K te τ μ Φ) (k : ∀ d μ', Φ d μ' → Ψ d μ') : AE K te τ μ Ψ := fun σ H s c Q q => h σ H s c Q fun d μ' v H' f c' r p => q d μ' v H' f c' r (k d μ' p)
theorem AT.imp {Φ Ψ : Bool → M → Prop} (h : AT K t τ μ Φ) (k : ∀ d μ', Φ d μ' → Ψ d μ') : AT K t τ μ Ψ := fun σ H s c Q q => h σ H s c Q fun d μ' H' f c' p => q d μ' H' f c' (k d μ' p)
theorem a_var {i : Nat} (h : τ[i]? = some (some d)) (q : Φ d μ) : AE K (tVar i) τ μ Φ := fun σ H s c Q k => by
  obtain ⟨v, e, r⟩ := s.2 i d h
  exact ⟨v, e, k d μ v H Fr.refl c r q⟩
theorem a_int {n : Int} (q : Φ (.int n) μ) : AE K (tC (.int n)) τ μ Φ := fun σ H s c Q k => k _ μ _ H Fr.refl c (.int n) q
theorem a_bl {n : Bool} (q : Φ (.bl n) μ) : AE K (tC (.bl n)) τ μ Φ := fun σ H s c Q k => k _ μ _ H Fr.refl c (.bl n) q
theorem a_str {n : Str} (q : Φ (.str n) μ) : AE K (tC (.str n)) τ μ Φ := fun σ H s c Q k => k _ μ _ H Fr.refl c (.str n) q
theorem a_non (q : Φ .non μ) : AE K (tC .non) τ μ Φ := fun σ H s c Q k => k _ μ _ H Fr.refl c .non q
theorem a_ty {n : String} (q : Φ (.ty n) μ) : AE K (tC (.ty n)) τ μ Φ := fun σ H s c Q k => k _ μ _ H Fr.refl c (.ty n) q
theorem a_op (h : AE K ta τ μ fun d μ1 => AE K tb τ μ1 fun e μ2 => RO K r d e μ2 Φ) : AE K (tOp r ta tb) τ μ Φ := fun σ H s c Q k =>
  h σ H s c _ fun d μ1 v H1 f1 c1 r1 p1 => p1 σ H1 (s.mono (f1.tx c)) c1 _ fun e μ2 u H2 f2 c2 r2 p2 =>
    p2 H2 v u c2 (Rel.mono (f2.tx c1) _ _ r1) r2 Q fun z μ' w H' f c' rz pz => k z μ' w H' ((f1.trans f2).trans f) c' rz pz
theorem a_un {r : V → Hp → VK → Prop} (h : AE K ta τ μ fun d μ1 => RU K r d μ1 Φ) : AE K (tUn r ta) τ μ Φ := fun σ H s c Q k =>
  h σ H s c _ fun d μ1 v H1 f1 c1 r1 p1 => p1 H1 v c1 r1 Q fun z μ' w H' f c' rz pz => k z μ' w H' (f1.trans f) c' rz pz
theorem aa_nil {Φ : List D → M → Prop} (q : Φ [] μ) : AA K tNil τ μ Φ := fun σ H s c Q k => k _ μ _ H Fr.refl c .nil q
theorem aa_cons {Φ : List D → M → Prop} {tr : TA} (h : AE K ta τ μ fun d μ1 => AA K tr τ μ1 fun ds μ2 => Φ (d :: ds) μ2) : AA K (tCons ta tr) τ μ Φ := fun σ H s c Q k =>
  h σ H s c _ fun d μ1 v H1 f1 c1 r1 p1 => p1 σ H1 (s.mono (f1.tx c)) c1 _ fun ds μ2 us H2 f2 c2 r2 p2 => k _ μ2 _ H2 (f1.trans f2) c2 (.cons (Rel.mono (f2.tx c1) _ _ r1) r2) p2
theorem a_tup {ta : TA} (h : AA K ta τ μ fun ds μ1 => ds.length ≤ sizeLine ∧ Φ (.tup ds) μ1) : AE K (tTup ta) τ μ Φ := fun σ H s c Q k =>
  h σ H s c _ fun ds μ1 vs H1 f1 c1 r1 ⟨hz, p1⟩ => ⟨by rw [r1.length]; exact hz, fun p hp => k _ μ1 _ _ (f1.trans (fr_new hp)) (con_new hp c1) (.tup (.inl upd_same) (Rels.mono (tx_new hp) _ _ r1)) p1⟩
theorem a_lst {ta : TA} (h : AA K ta τ μ fun ds μ1 => ds.length ≤ sizeLine ∧ ∀ p, μ1 p = none → Φ (.ref p) (μ1.set p (.lst ds))) : AE K (tLst ta) τ μ Φ := fun σ H s c Q k =>
  h σ H s c _ fun ds μ1 vs H1 f1 c1 r1 ⟨hz, p1⟩ => ⟨by rw [r1.length]; exact hz, fun p hp => k _ _ _ _ (f1.trans (fr_put hp)) (con_put (m := .lst ds) hp c1 ⟨vs, upd_same, Rels.mono (tx_new hp) _ _ r1⟩) (.ref p) (p1 p (c1.free hp))⟩
theorem a_cb {r : List V → Hp → VK → Prop} {ta : TA} (h : AA K ta τ μ fun ds μ1 => RC K r ds μ1 Φ) : AE K (tCB r ta) τ μ Φ := fun σ H s c Q k =>
  h σ H s c _ fun ds μ1 vs H1 f1 c1 r1 p1 => p1 H1 vs c1 r1 Q fun z μ' w H' f c' rz pz => k z μ' w H' (f1.trans f) c' rz pz
theorem a_if (h : AT K t τ μ fun b μ1 => if b = true then AE K ta τ μ1 Φ else AE K tb τ μ1 Φ) : AE K (tIf t ta tb) τ μ Φ := fun σ H s c Q k =>
  h σ H s c _ fun b μ1 H1 f1 c1 p1 => by
    cases b with
    | true => exact (show AE K ta τ μ1 Φ from p1) σ H1 (s.mono (f1.tx c)) c1 Q fun z μ' w H' f c' rz pz => k z μ' w H' (f1.trans f) c' rz pz
    | false => exact (show AE K tb τ μ1 Φ from p1) σ H1 (s.mono (f1.tx c)) c1 Q fun z μ' w H' f c' rz pz => k z μ' w H' (f1.trans f) c' rz pz
theorem a_andV (h : AE K ta τ μ fun d μ1 => ∃ b, d = .bl b ∧ if b = true then AE K tb τ μ1 Φ else Φ (.bl false) μ1) : AE K (tAndV ta tb) τ μ Φ := fun σ H s c Q k =>
  h σ H s c _ fun d μ1 v H1 f1 c1 r1 ⟨b, e, p1⟩ => by
    subst e
    cases r1
    refine ⟨b, rfl, ?_⟩
    cases b with
    | true => exact (show AE K tb τ μ1 Φ from p1) σ H1 (s.mono (f1.tx c)) c1 Q fun z μ' w H' f c' rz pz => k z μ' w H' (f1.trans f) c' rz pz
    | false => exact k _ μ1 _ H1 f1 c1 (.bl false) (show Φ (.bl false) μ1 from p1)
theorem a_orV (h : AE K ta τ μ fun d μ1 => ∃ b, d = .bl b ∧ if b = true then Φ (.bl true) μ1 else AE K tb τ μ1 Φ) : AE K (tOrV ta tb) τ μ Φ := fun σ H s c Q k =>
  h σ H s c _ fun d μ1 v H1 f1 c1 r1 ⟨b, e, p1⟩ => by
    subst e
    cases r1
    refine ⟨b, rfl, ?_⟩
    cases b with
    | true => exact k _ μ1 _ H1 f1 c1 (.bl true) (show Φ (.bl true) μ1 from p1)
    | false => exact (show AE K tb τ μ1 Φ from p1) σ H1 (s.mono (f1.tx c)) c1 Q fun z μ' w H' f c' rz pz => k z μ' w H' (f1.trans f) c' rz pz
theorem a_notV (h : AE K ta τ μ fun d μ1 => ∃ b, d = .bl b ∧ Φ (.bl (!b)) μ1) : AE K (tNotV ta) τ μ Φ := fun σ H s c Q k =>
  h σ H s c _ fun d μ1 v H1 f1 c1 r1 ⟨b, e, p1⟩ => by
    subst e
    cases r1
    exact ⟨b, rfl, k _ μ1 _ H1 f1 c1 (.bl _) p1⟩
variable {Θ : Bool → M → Prop}
theorem at_test (h : AE K te τ μ fun d μ1 => ∃ b, d = .bl b ∧ Θ b μ1) : AT K (tTest te) τ μ Θ := fun σ H s c Q k =>
  h σ H s c _ fun d μ1 v H1 f1 c1 r1 ⟨b, e, p1⟩ => by
    subst e
    cases r1
    exact ⟨b, rfl, k b μ1 H1 f1 c1 p1⟩
theorem at_B (h : AE K te τ μ fun d μ1 => ∃ b, d = .bl b ∧ Θ b μ1) : AT K (tB te) τ μ Θ := fun σ H s c Q k =>
  h σ H s c _ fun d μ1 v H1 f1 c1 r1 ⟨b, e, p1⟩ => by
    subst e
    cases r1
    exact ⟨b, rfl, k b μ1 H1 f1 c1 p1⟩
theorem at_and (h : AT K t τ μ fun b μ1 => if b = true then AT K u τ μ1 Θ else Θ false μ1) : AT K (tAnd t u) τ μ Θ := fun σ H s c Q k =>
  h σ H s c _ fun b μ1 H1 f1 c1 p1 => by
    cases b with
    | true => exact (show AT K u τ μ1 Θ from p1) σ H1 (s.mono (f1.tx c)) c1 Q fun z μ' H' f c' pz => k z μ' H' (f1.trans f) c' pz
    | false => exact k false μ1 H1 f1 c1 (show Θ false μ1 from p1)
theorem at_or (h : AT K t τ μ fun b μ1 => if b = true then Θ true μ1 else AT K u τ μ1 Θ) : AT K (tOr t u) τ μ Θ := fun σ H s c Q k =>
  h σ H s c _ fun b μ1 H1 f1 c1 p1 => by
    cases b with
    | true => exact k true μ1 H1 f1 c1 (show Θ true μ1 from p1)
    | false => exact (show AT K u τ μ1 Θ from p1) σ H1 (s.mono (f1.tx c)) c1 Q fun z μ' H' f c' pz => k z μ' H' (f1.trans f) c' pz
theorem at_not (h : AT K t τ μ fun b μ1 => Θ (!b) μ1) : AT K (tNot t) τ μ Θ := fun σ H s c Q k => h σ H s c _ fun b μ1 H1 f1 c1 p1 => k (!b) μ1 H1 f1 c1 p1
end
end Z
namespace Z
open PySem L2
section
variable {K : PySem.W.Frag} {τ : T} {μ μ1 μ2 : M} {H H1 H2 : Hp} {σ : L2.St} {Φ Ψ : D → M → Prop} {ta tb tc te : TE} {r r' : R2} {t u : TT} {x y z d e : D} {N : AEnds} {ts us : TS} {g : TG} {D0 E : Ends}
theorem EndsOk.step {μ' : M} {H' : Hp} (k : EndsOk K N μ H E) (f : Fr μ μ' H H') : EndsOk K N μ' H' E :=
  ⟨fun a b c d' f' => k.nx a b c d' (f.trans f'), fun a b c d' f' => k.rt a b c d' (f.trans f'), fun a b c d' f' => k.bk a b c d' (f.trans f'), fun a b c d' f' => k.ct a b c d' (f.trans f'), fun x1 x2 x3 x4 x5 x6 x7 x8 f' => k.wx x1 x2 x3 x4 x5 x6 x7 x8 (f.trans f')⟩
theorem s_seq (h : AS K ts τ μ { N with nx := fun τ' μ' => AS K us τ' μ' N }) : AS K (tSeq ts us) τ μ N := fun σ H s c E k =>
  h σ H s c _ ⟨fun τ' μ' σ' H' f c' s' p => p σ' H' s' c' E (k.step f), k.rt, k.bk, k.ct, k.wx⟩
theorem s_next (h : N.nx τ μ) : AS K tNext τ μ N := fun σ H s c E k => k.nx τ μ σ H Fr.refl c s h
theorem s_drop (h : AE K te τ μ fun _ μ' => N.nx τ μ') : AS K (tDrop te) τ μ N := fun σ H s c E k =>
  h σ H s c _ fun d μ' v H' f c' r p => k.nx τ μ' σ H' f c' (s.mono (f.tx c)) p
theorem s_ret (h : AE K te τ μ N.rt) : AS K (tRet te) τ μ N := fun σ H s c E k => h σ H s c _ fun d μ' v H' f c' r p => k.rt d μ' v H' f c' r p
theorem s_retN (h : N.rt .non μ) : AS K tRetN τ μ N := fun σ H s c E k => k.rt .non μ .non H Fr.refl c .non h
theorem s_if (h : AT K t τ μ fun b μ' => if b = true then AS K ts τ μ' N else AS K us τ μ' N) : AS K (tIfS t ts us) τ μ N := fun σ H s c E k =>
  h σ H s c _ fun b μ' H' f c' p => by
    cases b with
    | true => exact (show AS K ts τ μ' N from p) σ H' (s.mono (f.tx c)) c' E (k.step f)
    | false => exact (show AS K us τ μ' N from p) σ H' (s.mono (f.tx c)) c' E (k.step f)
theorem s_asg (h : AE K te τ μ fun d μ' => AG K g d τ μ' N.nx) : AS K (tAsg te g) τ μ N := fun σ H s c E k =>
  h σ H s c _ fun d μ' v H' f c' r p => p σ H' v (s.mono (f.tx c)) c' r _ fun τ2 μ2 σ2 H2 f2 c2 s2 q => k.nx τ2 μ2 σ2 H2 (f.trans f2) c2 s2 q
theorem g_name {i : Nat} {Θ : T → M → Prop} (h : Θ (τ.set i (some d)) μ) : AG K (gName i) d τ μ Θ := fun σ H v s c r Q k => k _ μ _ H Fr.refl c (s.set r i) h
theorem gs_nil {Θ : T → M → Prop} (h : Θ τ μ) : AGs K gNil [] τ μ Θ := fun σ H vs s c r Q k => by
  cases r
  exact ⟨rfl, k τ μ σ H Fr.refl c s h⟩
theorem gs_cons {gs : TGs} {ds : List D} {Θ : T → M → Prop} (h : AG K g d τ μ fun τ' μ' => AGs K gs ds τ' μ' Θ) : AGs K (gCons g gs) (d :: ds) τ μ Θ := fun σ H vs s c r Q k => by
  cases r with
  | cons r1 r2 =>
    rename_i v vs'
    exact ⟨v, vs', rfl, h σ H v s c r1 _ fun τ' μ' σ' H' f c' s' p => p σ' H' vs' s' c' (Rels.mono (f.tx c) _ _ r2) Q fun τ2 μ2 σ2 H2 f2 c2 s2 q => k τ2 μ2 σ2 H2 (f.trans f2) c2 s2 q⟩
theorem g_tup {n : Nat} {gs : TGs} {ds : List D} {Θ : T → M → Prop} (hn : ds.length = n) (h : AGs K gs ds τ μ Θ) : AG K (gTup K n gs) (.tup ds) τ μ Θ := fun σ H v s c r Q k => by
  cases r with
  | tup ht hr => exact ⟨_, _, rfl, ht.sq, by rw [hr.length]; exact hn, h σ H _ s c hr Q k⟩
/-- o[i] = v -/
def ASet (K : PySem.W.Frag) (t : TSet) (o i d : D) (μ : M) (Θ : M → Prop) : Prop :=
  ∀ H a b v, Con K H μ → Rel K H a o → Rel K H b i → Rel K H v d → ∀ Q : Hp → Prop, (∀ μ' H', Fr μ μ' H H' → Con K H' μ' → Θ μ' → Q H') → t a b v H Q
theorem g_sub {to ti : TE} {tset : TSet} {Θ : T → M → Prop} (h : AE K to τ μ fun o μ1 => AE K ti τ μ1 fun i μ2 => ASet K tset o i d μ2 fun μ3 => Θ τ μ3) : AG K (gSub to ti tset) d τ μ Θ := fun σ H v s c r Q k =>
  h σ H s c _ fun o μ1 a H1 f1 c1 r1 p1 => p1 σ H1 (s.mono (f1.tx c)) c1 _ fun i μ2 b H2 f2 c2 r2 p2 =>
    p2 H2 a b v c2 (Rel.mono (f2.tx c1) _ _ r1) r2 (Rel.mono ((f1.trans f2).tx c) _ _ r) _ fun μ3 H3 f3 c3 p3 => k τ μ3 σ H3 ((f1.trans f2).trans f3) c3 (s.mono (((f1.trans f2).trans f3).tx c)) p3
theorem s_par {i j : Nat} {ta : TA} (h : AA K ta τ μ fun ds μ' => ∃ d e, ds = [d, e] ∧ N.nx ((τ.set i (some d)).set j (some e)) μ') : AS K (tPar i j ta) τ μ N := fun σ H s c E k =>
  h σ H s c _ fun ds μ' vs H' f c' r ⟨d, e, q, p⟩ => by
    subst q
    cases r with
    | cons r1 r2 =>
      cases r2 with
      | cons r2 r3 =>
        cases r3
        exact ⟨_, _, rfl, k.nx _ μ' _ H' f c' (((s.mono (f.tx c)).set r1 i).set r2 j) p⟩
/-- a op= b, by values -/
theorem s_aug {i : Nat} {ti : TIp} (hx : τ[i]? = some (some d)) (h : AE K te τ μ fun e μ1 => RO K ti d e μ1 fun z μ2 => N.nx (τ.set i (some z)) μ2) : AS K (tAug i te ti) τ μ N := fun σ H s c E k => by
  obtain ⟨v, e1, r1⟩ := s.2 i d hx
  exact ⟨v, e1, h σ H s c _ fun e μ1 u H1 f1 c1 r2 p1 => p1 H1 v u c1 (Rel.mono (f1.tx c) _ _ r1) r2 _ fun z μ2 w H2 f2 c2 rz p2 =>
    k.nx _ μ2 _ H2 (f1.trans f2) c2 ((s.mono ((f1.trans f2).tx c)).set rz i) p2⟩
/-- a statement, then the rest, with a word between -/
theorem s_cut {M0 : T → M → Prop} (h : AS K ts τ μ { N with nx := M0 }) (k : ∀ τ' μ', M0 τ' μ' → AS K us τ' μ' N) : AS K (tSeq ts us) τ μ N := s_seq fun σ H s c E q => h σ H s c E ⟨fun τ' μ' σ' H' f c' s' p => q.nx τ' μ' σ' H' f c' s' (k τ' μ' p), q.rt, q.bk, q.ct, q.wx⟩
theorem AS.imp {nx' bk' ct' : T → M → Prop} {rt' : D → M → Prop} (h : AS K ts τ μ N) (h1 : ∀ a b, N.nx a b → nx' a b) (h2 : ∀ a b, N.rt a b → rt' a b) (h3 : ∀ a b, N.bk a b → bk' a b) (h4 : ∀ a b, N.ct a b → ct' a b) : AS K ts τ μ { N with nx := nx', rt := rt', bk := bk', ct := ct' } := fun σ H s c E q =>
  h σ H s c E ⟨fun a b c' d' f x y p => q.nx a b c' d' f x y (h1 _ _ p), fun a b c' d' f x y p => q.rt a b c' d' f x y (h2 _ _ p), fun a b c' d' f x y p => q.bk a b c' d' f x y (h3 _ _ p), fun a b c' d' f x y p => q.ct a b c' d' f x y (h4 _ _ p), q.wx⟩
theorem s_while {tt : TT} {tb : TS} (W : Nat → T → M → Prop) (m0 : Nat) (h0 : W m0 τ μ)
    (hs : ∀ m τ' μ', W m τ' μ' → AT K tt τ' μ' fun b μ1 => if b = true then AS K tb τ' μ1 { N with nx := fun τ2 μ2 => ∃ m', m' < m ∧ W m' τ2 μ2, ct := fun τ2 μ2 => ∃ m', m' < m ∧ W m' τ2 μ2, bk := N.nx } else N.nx τ' μ1) :
    AS K (tWhile tt tb) τ μ N := fun σ H s c E k =>
  ⟨fun m σ' H' => ∃ τ' μ', Fr μ μ' H H' ∧ Con K H' μ' ∧ Slots K H' τ' σ' ∧ W m τ' μ', ⟨m0, τ, μ, Fr.refl, c, s, h0⟩, fun m σ' H' ⟨τ', μ', f, c', s', w⟩ =>
    hs m τ' μ' w σ' H' s' c' _ fun b μ1 H1 f1 c1 p => by
      cases b with
      | true =>
        refine ⟨fun σ2 H2 => ∃ m', m' < m ∧ ∃ τ' μ', Fr μ μ' H H2 ∧ Con K H2 μ' ∧ Slots K H2 τ' σ2 ∧ W m' τ' μ', fun σ2 H2 q => q, ?_⟩
        refine (show AS K tb τ' μ1 _ from p) σ' H1 (s'.mono (f1.tx c')) c1 _ ⟨fun τ2 μ2 σ2 H2 f2 c2 s2 ⟨m', hm, w'⟩ => ⟨m', hm, τ2, μ2, (f.trans f1).trans f2, c2, s2, w'⟩, fun d' μ2 v H2 f2 => k.rt d' μ2 v H2 ((f.trans f1).trans f2), fun τ2 μ2 σ2 H2 f2 c2 s2 q => k.nx τ2 μ2 σ2 H2 ((f.trans f1).trans f2) c2 s2 q, fun τ2 μ2 σ2 H2 f2 c2 s2 ⟨m', hm, w'⟩ => ⟨m', hm, τ2, μ2, (f.trans f1).trans f2, c2, s2, w'⟩, fun x1 x2 x3 x4 x5 x6 x7 x8 f' => k.wx x1 x2 x3 x4 x5 x6 x7 x8 ((f.trans f1).trans f')⟩
      | false => exact k.nx τ' μ1 σ' H1 (f.trans f1) c1 (s'.mono (f1.tx c')) (show N.nx τ' μ1 from p)⟩
/-- the ends of a turn -/
def turnE (N : AEnds) (P : T → M → Prop) : AEnds := { N with nx := P, ct := P, bk := N.nx }
theorem turn_ok {μ0 : M} {H0 : Hp} {P : T → M → Prop} {Pc : L2.St → Hp → Prop} (k : EndsOk K N μ0 H0 E) (f : Fr μ0 μ H0 H) (hp : ∀ τ' μ' σ' H', Fr μ0 μ' H0 H' → Con K H' μ' → Slots K H' τ' σ' → P τ' μ' → Pc σ' H') :
    EndsOk K (turnE N P) μ H { E with nx := Pc, ct := Pc, bk := E.nx } :=
  ⟨fun τ' μ' σ' H' f' c s p => hp τ' μ' σ' H' (f.trans f') c s p, fun d' μ' v H' f' => k.rt d' μ' v H' (f.trans f'), fun τ' μ' σ' H' f' => k.nx τ' μ' σ' H' (f.trans f'), fun τ' μ' σ' H' f' c s p => hp τ' μ' σ' H' (f.trans f') c s p, fun x1 x2 x3 x4 x5 x6 x7 x8 f' => k.wx x1 x2 x3 x4 x5 x6 x7 x8 (f.trans f')⟩
/-- the list a is set aside while it is walked -/
def M.del (μ : M) (a : Addr) : M := fun b => if b = a then none else μ b
theorem del_same {a : Addr} : μ.del a a = none := by unfold M.del; rw [if_pos rfl]
theorem del_ne {a b : Addr} (h : b ≠ a) : μ.del a b = μ b := by unfold M.del; rw [if_neg h]
theorem del_sub {a : Addr} : Sub (μ.del a) μ := fun b m e => by
  by_cases h : b = a
  · subst h; rw [del_same] at e; cases e
  · rw [del_ne h] at e; exact e
theorem fr_back {μ0 μ' : M} {H0 H' : Hp} {a : Addr} {m m' : MO} (ha : μ1 a = some m) (f1 : Fr μ0 μ1 H0 H1) (f : Fr (μ1.del a) μ' H1 H') : Fr μ0 (μ'.set a m') H0 H' := fun x o n e => by
  obtain ⟨e1, n1⟩ := f1 x o n e
  have hx : x ≠ a := fun z => by subst z; rw [n1] at ha; cases ha
  obtain ⟨e2, n2⟩ := f x o (by rw [del_ne hx]; exact n1) e1
  exact ⟨e2, by rw [set_ne hx]; exact n2⟩
theorem con_back {μ' : M} {a : Addr} {m : MO} (c : Con K H μ') (r : MRel K H a m) : Con K H (μ'.set a m) := fun x u e => by
  by_cases hx : x = a
  · subst hx; rw [set_same] at e; cases e; exact r
  · rw [set_ne hx] at e; exact c x u e
/-- for over a range -/
theorem s_forN {wi : TI} {lo : Int} {n : Nat} {tb : TS} (P : Nat → T → M → Prop) (hw : ∀ σ H, Slots K H τ σ → Con K H μ → ∀ R : It → Hp → Prop, (∀ μ1 H1, Fr μ μ1 H H1 → Con K H1 μ1 → P 0 τ μ1 → R (Itr lo n) H1) → wi σ H R)
    (hs : ∀ (i : Nat) τ' μ', i < n → P i τ' μ' → AG K g (.int (lo + i)) τ' μ' fun τ2 μ2 => AS K tb τ2 μ2 (turnE N (P (i + 1)))) (hd : ∀ τ' μ', P n τ' μ' → N.nx τ' μ') : AS K (tFor wi g tb) τ μ N := fun σ H s c E k =>
  hw σ H s c _ fun μ1 H1 f1 c1 p0 => by
    refine for_range (lo := lo) (n := n) (fun i σ' H' => ∃ τ' μ', Fr μ μ' H H' ∧ Con K H' μ' ∧ Slots K H' τ' σ' ∧ P i τ' μ') ⟨τ, μ1, f1, c1, s.mono (f1.tx c), p0⟩ ?_ ?_
    · rintro i σ' H' hi ⟨τ', μ', f, c', s', p⟩
      refine hs i τ' μ' hi p σ' H' _ s' c' (.int _) _ fun τ2 μ2 σ2 H2 f2 c2 s2 q => ?_
      exact q σ2 H2 s2 c2 _ (turn_ok (k.step f) f2 fun τ3 μ3 σ3 H3 f3 c3 s3 p3 => ⟨τ3, μ3, f.trans f3, c3, s3, p3⟩)
    · rintro σ' H' ⟨τ', μ', f, c', s', p⟩
      exact k.nx τ' μ' σ' H' f c' s' (hd τ' μ' p)
theorem s_for1 {ta : TA} {tb : TS} (n : Int) (P : Nat → T → M → Prop) (h : AA K ta τ μ fun ds μ1 => ds = [.int n] ∧ -(2 ^ 62) ≤ n ∧ n < 2 ^ 62 ∧ P 0 τ μ1)
    (hs : ∀ (i : Nat) τ' μ', (i : Int) < n → P i τ' μ' → AG K g (.int i) τ' μ' fun τ2 μ2 => AS K tb τ2 μ2 (turnE N (P (i + 1)))) (hd : ∀ τ' μ', P n.toNat τ' μ' → N.nx τ' μ') : AS K (tFor (iRng1 ta) g tb) τ μ N := by
  refine s_forN (lo := 0) (n := n.toNat) P (fun σ H s c R k => h σ H s c _ fun ds μ1 vs H1 f1 c1 r1 ⟨e, h1, h2, p⟩ => ?_) (fun i τ' μ' hi p => ?_) hd
  · subst e
    cases r1 with
    | cons r rr =>
      cases r
      cases rr
      exact ⟨n, rfl, h1, h2, k μ1 H1 f1 c1 p⟩
  · rw [Int.zero_add]
    exact hs i τ' μ' (by omega) p
end
end Z
namespace Z
open PySem L2
def seqD (μ : M) : D → Option (List D)
  | .tup ds => some ds
  | .rol ds => some ds
  | .ref a => match μ a with
    | some (.lst ds) => some ds
    | _ => none
  | _ => none
section
variable {K : PySem.W.Frag} {τ : T} {μ μ1 μ2 : M} {H H1 H2 : Hp} {σ : L2.St} {Φ Ψ : D → M → Prop} {ta tb tc te : TE} {r r' : R2} {t u : TT} {x y z d e : D} {N : AEnds} {ts us : TS}
theorem seq_of {v : V} {ds : List D} (c : Con K H μ) (r : Rel K H v d) (h : seqD μ d = some ds) : ∃ a xs, v = .ref a ∧ (SqL K H a xs ∨ SqT K H a xs) ∧ Rels K H xs ds := by
  cases r with
  | tup ht hr => cases h; exact ⟨_, _, rfl, .inr ht.sq, hr⟩
  | rol ht hr => cases h; exact ⟨_, _, rfl, .inl ht.sq, hr⟩
  | ref a =>
    unfold seqD at h
    simp only at h
    split at h
    · rename_i ds' e
      cases h
      obtain ⟨xs, h1, h2⟩ := c _ _ e
      exact ⟨_, xs, rfl, .inl (SqL.of h1), h2⟩
    · cases h
  | non => cases h
  | bl => cases h
  | int => cases h
  | str => cases h
  | ty => cases h
theorem ro_i {f : Int → Int → Int} {i j : Int} (q : Φ (.int (f i j)) μ) : RO K (rI0 fun i j => V.int (f i j)) (.int i) (.int j) μ Φ := fun H x y c r1 r2 Q k => by
  cases r1; cases r2
  exact ⟨i, j, rfl, rfl, k _ μ _ H Fr.refl c (.int _) q⟩
theorem ro_b {f : Int → Int → Bool} {i j : Int} (q : Φ (.bl (f i j)) μ) : RO K (rI0 fun i j => V.bl (f i j)) (.int i) (.int j) μ Φ := fun H x y c r1 r2 Q k => by
  cases r1; cases r2
  exact ⟨i, j, rfl, rfl, k _ μ _ H Fr.refl c (.bl _) q⟩
theorem ro_c {C : Int → Int → Prop} {f : Int → Int → Int} {i j : Int} (hc : C i j) (q : Φ (.int (f i j)) μ) : RO K (rI C fun i j => V.int (f i j)) (.int i) (.int j) μ Φ := fun H x y c r1 r2 Q k => by
  cases r1; cases r2
  exact ⟨i, j, rfl, rfl, hc, k _ μ _ H Fr.refl c (.int _) q⟩
theorem ru_i {f : Int → Int} {i : Int} (q : Φ (.int (f i)) μ) : RU K (rU fun i => V.int (f i)) (.int i) μ Φ := fun H x c r1 Q k => by
  cases r1
  exact ⟨i, rfl, k _ μ _ H Fr.refl c (.int _) q⟩
theorem at_len {xs : List V} {ds : List D} {i : Int} {d : D} (r : Rels K H xs ds) (h : atI ds i = some d) : ∃ v, atI xs i = some v ∧ Rel K H v d := by
  unfold atI at h ⊢
  rw [r.length]
  cases e : ixN ds.length i with
  | none => rw [e] at h; cases h
  | some j =>
    rw [e] at h
    exact r.get h
theorem ro_ix {ds : List D} {i : Int} (hs : seqD μ d = some ds) (hi : atI ds i = some e) (q : Φ e μ) : RO K (rIx K) d (.int i) μ Φ := fun H x y c r1 r2 Q k => by
  cases r2
  obtain ⟨a, xs, rfl, hq, hr⟩ := seq_of c r1 hs
  obtain ⟨v, hv, rv⟩ := at_len hr hi
  rcases hq with hq | hq
  · exact .inl ⟨a, xs, i, v, rfl, rfl, hq, hv, k e μ v H Fr.refl c rv q⟩
  · exact .inr (.inl ⟨a, xs, i, v, rfl, rfl, hq, hv, k e μ v H Fr.refl c rv q⟩)
theorem set_lst {a : Addr} {ds : List D} {i : Int} {j : Nat} {Θ : M → Prop} (h : μ a = some (.lst ds)) (hi : ixN ds.length i = some j) (q : Θ (μ.set a (.lst (ds.set j d)))) : ASet K rSetL (.ref a) (.int i) d μ Θ := fun H x y v c r1 r2 r3 Q k => by
  cases r1; cases r2
  obtain ⟨xs, hx, hr⟩ := c a _ h
  exact ⟨a, xs, i, j, rfl, rfl, hx, by rw [hr.length]; exact hi, k _ _ (fr_mut h) (con_mut (m' := .lst (ds.set j d)) c h ⟨_, upd_same, Rels.mono (tx_mut c h) _ _ (Rels.set r3 j hr)⟩) q⟩
mutual
def D.py : D → PyData
  | .bl b => .bool b
  | .int i => .int i
  | .str s => .str s
  | .tup ds => .tuple (D.pys ds)
  | _ => .none
def D.pys : List D → List PyData
  | [] => []
  | d :: ds => D.py d :: D.pys ds
end
mutual
/-- None, truths, ints, texts and tuples of them -/
def D.plain : D → Bool
  | .non => true
  | .bl _ => true
  | .int _ => true
  | .str _ => true
  | .tup ds => D.plains ds
  | _ => false
def D.plains : List D → Bool
  | [] => true
  | d :: ds => D.plain d && D.plains ds
end
mutual
theorem Rel.dp : ∀ (d : D) (v : V), Rel K H v d → D.plain d = true → Dp K H v (D.py d)
  | .non, _, .non, _ => by simp only [D.py]; exact .non
  | .bl _, _, .bl b, _ => by simp only [D.py]; exact .bl b
  | .int _, _, .int b, _ => by simp only [D.py]; exact .int b
  | .str _, _, .str b, _ => by simp only [D.py]; exact .str b
  | .tup ds, _, .tup h r, p => by simp only [D.py]; exact .tup h.sq (Rels.dp ds _ r (by simpa only [D.plain] using p))
  | .ty _, _, _, p => by simp [D.plain] at p
  | .ref _, _, _, p => by simp [D.plain] at p
  | .rol _, _, _, p => by simp [D.plain] at p
theorem Rels.dp : ∀ (ds : List D) (vs : List V), Rels K H vs ds → D.plains ds = true → DpAll K H vs (D.pys ds)
  | [], _, .nil, _ => by simp only [D.pys]; exact .nil
  | d :: ds, _, .cons a b, p => by
    simp only [D.plains, Bool.and_eq_true] at p
    simp only [D.pys]
    exact .cons (Rel.dp d _ a p.1) (Rels.dp ds _ b p.2)
end
/-- plain and not too deep -/
def D.ok (d : D) : Bool := D.plain d && SeqAt.shaped (D.py d)
def D.eqv (d e : D) : Bool := PyData.eqv (D.py d) (D.py e)
theorem ro_eqD (h1 : D.ok d = true) (h2 : D.ok e = true) (q : Φ (.bl (D.eqv d e)) μ) : RO K (rEqD K) d e μ Φ := fun H x y c r1 r2 Q k => by
  unfold D.ok at h1 h2
  rw [Bool.and_eq_true] at h1 h2
  exact ⟨_, _, Rel.dp _ _ r1 h1.1, Rel.dp _ _ r2 h2.1, h1.2, h2.2, k _ μ _ H Fr.refl c (.bl _) q⟩
theorem ro_neD (h1 : D.ok d = true) (h2 : D.ok e = true) (q : Φ (.bl (!D.eqv d e)) μ) : RO K (rNeD K) d e μ Φ := fun H x y c r1 r2 Q k => by
  unfold D.ok at h1 h2
  rw [Bool.and_eq_true] at h1 h2
  exact ⟨_, _, Rel.dp _ _ r1 h1.1, Rel.dp _ _ r2 h2.1, h1.2, h2.2, k _ μ _ H Fr.refl c (.bl _) q⟩
theorem ro_eqI {i j : Int} (q : Φ (.bl (decide (i = j))) μ) : RO K rEq (.int i) (.int j) μ Φ := fun H x y c r1 r2 Q k => by
  cases r1; cases r2
  refine ⟨rfl, ?_⟩
  have e : decide (V.int i = V.int j) = decide (i = j) := by simp
  rw [e]
  exact k _ μ _ H Fr.refl c (.bl _) q
theorem ro_neI {i j : Int} (q : Φ (.bl (!decide (i = j))) μ) : RO K rNe (.int i) (.int j) μ Φ := fun H x y c r1 r2 Q k => by
  cases r1; cases r2
  refine ⟨rfl, ?_⟩
  have e : decide (V.int i = V.int j) = decide (i = j) := by simp
  rw [e]
  exact k _ μ _ H Fr.refl c (.bl _) q
theorem ro_eqB {i j : Bool} (q : Φ (.bl (decide (i = j))) μ) : RO K rEq (.bl i) (.bl j) μ Φ := fun H x y c r1 r2 Q k => by
  cases r1; cases r2
  refine ⟨rfl, ?_⟩
  have e : decide (V.bl i = V.bl j) = decide (i = j) := by simp
  rw [e]
  exact k _ μ _ H Fr.refl c (.bl _) q
theorem ro_neB {i j : Bool} (q : Φ (.bl (!decide (i = j))) μ) : RO K rNe (.bl i) (.bl j) μ Φ := fun H x y c r1 r2 Q k => by
  cases r1; cases r2
  refine ⟨rfl, ?_⟩
  have e : decide (V.bl i = V.bl j) = decide (i = j) := by simp
  rw [e]
  exact k _ μ _ H Fr.refl c (.bl _) q
theorem rc_abs {i : Int} (q : Φ (.int (if i < 0 then -i else i)) μ) : RC K (fun xs H Q => ∃ i, xs = [V.int i] ∧ Q (.int (if i < 0 then -i else i)) H) [.int i] μ Φ := fun H xs c r1 Q k => by
  cases r1 with
  | cons a b => cases a; cases b; exact ⟨i, rfl, k _ μ _ H Fr.refl c (.int _) q⟩
theorem rc_max {i j : Int} (q : Φ (.int (if j > i then j else i)) μ) : RC K (fun xs H Q => ∃ i j, xs = [V.int i, V.int j] ∧ Q (.int (if j > i then j else i)) H) [.int i, .int j] μ Φ := fun H xs c r1 Q k => by
  cases r1 with
  | cons a b => cases a; cases b with
    | cons a b => cases a; cases b; exact ⟨i, j, rfl, k _ μ _ H Fr.refl c (.int _) q⟩
theorem rc_min {i j : Int} (q : Φ (.int (if j < i then j else i)) μ) : RC K (fun xs H Q => ∃ i j, xs = [V.int i, V.int j] ∧ Q (.int (if j < i then j else i)) H) [.int i, .int j] μ Φ := fun H xs c r1 Q k => by
  cases r1 with
  | cons a b => cases a; cases b with
    | cons a b => cases a; cases b; exact ⟨i, j, rfl, k _ μ _ H Fr.refl c (.int _) q⟩
theorem rc_intB {b : Bool} (q : Φ (.int (if b then 1 else 0)) μ) : RC K (fun xs H Q => (∃ i, xs = [V.int i] ∧ Q (.int i) H) ∨ ∃ k, xs = [V.bl k] ∧ Q (.int (if k then 1 else 0)) H) [.bl b] μ Φ := fun H xs c r1 Q k => by
  cases r1 with
  | cons a b => cases a; cases b; exact .inr ⟨_, rfl, k _ μ _ H Fr.refl c (.int _) q⟩
theorem rc_intI {b : Int} (q : Φ (.int b) μ) : RC K (fun xs H Q => (∃ i, xs = [V.int i] ∧ Q (.int i) H) ∨ ∃ k, xs = [V.bl k] ∧ Q (.int (if k then 1 else 0)) H) [.int b] μ Φ := fun H xs c r1 Q k => by
  cases r1 with
  | cons a b => cases a; cases b; exact .inl ⟨_, rfl, k _ μ _ H Fr.refl c (.int _) q⟩
theorem rc_len {ds : List D} (h : seqD μ d = some ds) (q : Φ (.int ds.length) μ) : RC K (fun xs H Q => ∃ x n, xs = [x] ∧ LenV K x H n ∧ Q (.int n) H) [d] μ Φ := fun H xs c r1 Q k => by
  cases r1 with
  | cons a b =>
    cases b
    obtain ⟨p, xs, rfl, hq, hr⟩ := seq_of c a h
    refine ⟨_, ds.length, rfl, ?_, k _ μ _ H Fr.refl c (.int _) q⟩
    rcases hq with hq | hq
    · exact .inl ⟨xs, hq, hr.length.symm⟩
    · exact .inr ⟨xs, hq, hr.length.symm⟩
theorem rc_tuple {ds : List D} (h : seqD μ d = some ds) (q : Φ (.tup ds) μ) : RC K (fun xs H Q => ∃ p ys, xs = [V.ref p] ∧ ((SqL K H p ys ∧ ∀ l, H l = none → Q (.ref l) (upd H l (.tup ys))) ∨ (SqT K H p ys ∧ Q (.ref p) H))) [d] μ Φ := fun H xs c r1 Q k => by
  cases r1 with
  | cons a b =>
    cases b
    cases a with
    | tup ht hr =>
      cases h
      exact ⟨_, _, rfl, .inr ⟨ht.sq, k _ μ _ H Fr.refl c (.tup ht hr) q⟩⟩
    | rol ht hr =>
      cases h
      exact ⟨_, _, rfl, .inl ⟨ht.sq, fun l hl => k _ μ _ _ (fr_new hl) (con_new hl c) (.tup (.inl upd_same) (Rels.mono (tx_new hl) _ _ hr)) q⟩⟩
    | ref p =>
      unfold seqD at h
      simp only at h
      split at h
      · rename_i ds' e
        cases h
        obtain ⟨xs, hx, hr⟩ := c _ _ e
        exact ⟨_, xs, rfl, .inl ⟨SqL.of hx, fun l hl => k _ μ _ _ (fr_new hl) (con_new hl c) (.tup (.inl upd_same) (Rels.mono (tx_new hl) _ _ hr)) q⟩⟩
      · cases h
    | non => cases h
    | bl => cases h
    | int => cases h
    | str => cases h
    | ty => cases h
theorem rels_bl : ∀ {xs : List V} {bs : List Bool}, Rels K H xs (bs.map D.bl) → xs = bs.map V.bl
  | [], [], .nil => rfl
  | _ :: _, _ :: _, .cons a b => by cases a; rw [rels_bl b]; rfl
theorem rels_int : ∀ {xs : List V} {bs : List Int}, Rels K H xs (bs.map D.int) → xs = bs.map V.int
  | [], [], .nil => rfl
  | _ :: _, _ :: _, .cons a b => by cases a; rw [rels_int b]; rfl
theorem rc_any {a : Addr} {bs : List Bool} (h : μ a = some (.lst (bs.map D.bl))) (q : Φ (.bl (bs.any id)) μ) : RC K (rAny K) [.ref a] μ Φ := fun H xs c r1 Q k => by
  cases r1 with
  | cons r b =>
    cases r; cases b
    obtain ⟨xs, hx, hr⟩ := c _ _ h
    have e := rels_bl hr
    subst e
    exact ⟨a, bs, rfl, SqL.of hx, k _ μ _ H Fr.refl c (.bl _) q⟩
theorem m_append {to : TE} {a : Addr} {ds : List D} (h : AE K to τ μ fun o μ1 => o = .ref a ∧ (∃ es, μ1 a = some (.lst es)) ∧ AE K te τ μ1 fun d μ2 => μ2 a = some (.lst ds) ∧ ds.length < sizeLine ∧ Φ .non (μ2.set a (.lst (ds ++ [d])))) :
    AE K (tBM K "list" rAppend to (tCons te tNil)) τ μ Φ := fun σ H s c Q k =>
  h σ H s c _ fun o μ1 v H1 f1 c1 r1 ⟨e, ⟨es, he⟩, p1⟩ => by
    subst e
    cases r1
    obtain ⟨xs, hx, hr⟩ := c1 a _ he
    refine ⟨.inl ⟨rfl, xs, SqL.of hx⟩, p1 σ H1 (s.mono (f1.tx c)) c1 _ fun d μ2 u H2 f2 c2 r2 ⟨h2, hz, q⟩ => ?_⟩
    obtain ⟨ys, hy, hr2⟩ := c2 a _ h2
    exact ⟨a, ys, u, rfl, rfl, hy, by rw [hr2.length]; exact hz, k _ _ _ _ ((f1.trans f2).trans (fr_mut h2)) (con_mut (m' := .lst (ds ++ [d])) c2 h2 ⟨_, upd_same, Rels.mono (tx_mut c2 h2) _ _ (hr2.append (.cons r2 .nil))⟩) .non q⟩
end
end Z
namespace Z
open PySem L2
/-- a promise by what it asks and gives over the store: P args store wish -/
abbrev PT3 := List D → M → (D → M → Prop) → Prop
def spI (K : PySem.W.Frag) (P : PT3) : Sp := fun vs H Q _ => ∃ ds μ Φ, Rels K H vs ds ∧ Z.Con K H μ ∧ P ds μ Φ ∧ ∀ d μ' v H', Fr μ μ' H H' → Z.Con K H' μ' → Rel K H' v d → Φ d μ' → Q v H'
def startD (n : Nat) (ds : List D) : T := ds.map some ++ List.replicate (n - ds.length) none
section
variable {K : PySem.W.Frag} {τ : T} {μ μ1 μ2 : M} {H H1 H2 : Hp} {σ : L2.St} {Φ Ψ : D → M → Prop} {ta tb tc te : TE} {r r' : R2} {t u : TT} {x y z d e : D} {N : AEnds} {ts us : TS} {P : PT3} {E : XK}
theorem slots_start {Ns : List Str} : ∀ {vs : List V} {ds : List D}, Rels K H vs ds → Slots K H (startD Ns.length ds) (L2.start Ns vs) := by
  intro vs ds r
  have hl := r.length
  refine ⟨by unfold startD L2.start; simp only [List.length_append, List.length_map, List.length_replicate]; omega, fun i d e => ?_⟩
  unfold startD at e
  by_cases hi : i < ds.length
  · rw [List.getElem?_append_left (by rw [List.length_map]; exact hi), List.getElem?_map] at e
    cases q : ds[i]? with
    | none => rw [q] at e; cases e
    | some d' =>
      rw [q] at e
      have e2 : d' = d := Option.some.inj (Option.some.inj e)
      subst e2
      obtain ⟨v, h1, h2⟩ := r.get q
      refine ⟨v, ?_, h2⟩
      unfold L2.start
      rw [List.getElem?_append_left (by rw [List.length_map]; omega), List.getElem?_map, h1]
      rfl
  · rw [List.getElem?_append_right (by rw [List.length_map]; omega), List.getElem?_replicate] at e
    split at e <;> cases e
theorem spI_len {vs : List V} {Q : VK} {n : Nat} (h : spI K P vs H Q E) (hn : ∀ ds μ Φ, P ds μ Φ → ds.length = n) : vs.length = n := by
  obtain ⟨ds, μ, Φ, r, _, p, _⟩ := h
  rw [r.length]; exact hn _ _ _ p
/-- a body keeps its promise -/
theorem body_ok {Ns : List Str} {vs : List V} {Q : VK} (h : spI K P vs H Q E) (hb : ∀ ds μ Φ, P ds μ Φ → AS K ts (startD Ns.length ds) μ { nx := fun _ μ' => Φ .non μ', rt := Φ }) :
    ts { nx := fun _ H' => Q .non H', rt := Q } (L2.start Ns vs) H := by
  obtain ⟨ds, μ, Φ, r, c, p, k⟩ := h
  exact hb ds μ Φ p _ H (slots_start r) c _ ⟨fun _ μ' _ H' f c' _ q => k .non μ' .non H' f c' .non q, fun d μ' v H' f c' r' q => k d μ' v H' f c' r' q, fun _ _ _ _ _ _ _ q => q.elim, fun _ _ _ _ _ _ _ q => q.elim, fun _ _ _ _ _ _ _ _ _ _ _ q => q.elim⟩
/-- a call -/
theorem a_call {ta : TA} (h : AA K ta τ μ fun ds μ1 => P ds μ1 Φ) : AE K (tCall (spI K P) [] E ta) τ μ Φ := fun σ H s c Q k =>
  h σ H s c _ fun ds μ1 vs H1 f1 c1 r1 p => by
    show spI K P (vs ++ []) H1 Q E
    rw [List.append_nil]
    exact ⟨ds, μ1, Φ, r1, c1, p, fun d μ' v H' f c' r q => k d μ' v H' (f1.trans f) c' r q⟩
end
end Z
namespace Z
open PySem L2
def sets {α : Type} : List (Option α) → List Nat → List α → List (Option α)
  | l, j :: js, d :: ds => sets (l.set j (some d)) js ds
  | l, _, _ => l
theorem wipe_at (σ : L2.St) (i : Nat) : ∀ vs : List Nat, (wipe σ vs)[i]? = if i ∈ vs then (σ[i]?).map fun _ => none else σ[i]?
  | [] => by simp [wipe]
  | v :: vs => by
    have ih := wipe_at σ i vs
    unfold wipe
    by_cases h : v = i
    · subst h
      rw [if_pos (List.mem_cons_self)]
      by_cases hl : v < (wipe σ vs).length
      · rw [List.getElem?_set_self hl]
        rw [wipe_length] at hl
        rw [List.getElem?_eq_getElem hl]
        rfl
      · rw [List.getElem?_eq_none (by rw [List.length_set]; omega)]
        rw [wipe_length] at hl
        rw [List.getElem?_eq_none (by omega)]
        rfl
    · rw [List.getElem?_set_ne h, ih]
      have e : (i ∈ v :: vs) = (i ∈ vs) := by
        rw [List.mem_cons]
        exact propext ⟨fun q => q.elim (fun z => absurd z.symm h) id, .inr⟩
      simp only [e]
theorem wipe_set {σ : L2.St} {j : Nat} {x : Option V} {vs : List Nat} (h : j ∈ vs) : wipe (σ.set j x) vs = wipe σ vs := by
  apply List.ext_getElem?
  intro i
  rw [wipe_at, wipe_at]
  by_cases hi : i ∈ vs
  · rw [if_pos hi, if_pos hi]
    by_cases e : j = i
    · subst e
      by_cases hl : j < σ.length
      · rw [List.getElem?_set_self hl, List.getElem?_eq_getElem hl]; rfl
      · rw [List.getElem?_eq_none (by rw [List.length_set]; omega), List.getElem?_eq_none (by omega)]
    · rw [List.getElem?_set_ne e]
  · rw [if_neg hi, if_neg hi, List.getElem?_set_ne (fun z => hi (by rw [← z]; exact h))]
theorem wipe_wipe {σ : L2.St} {vs : List Nat} : wipe (wipe σ vs) vs = wipe σ vs := by
  apply List.ext_getElem?
  intro i
  rw [wipe_at]
  by_cases hi : i ∈ vs
  · rw [if_pos hi, wipe_at, if_pos hi]
    cases σ[i]? <;> rfl
  · rw [if_neg hi]
theorem wipe_sets {vs : List Nat} : ∀ {σ : L2.St} {js : List Nat} {xs : List V}, (∀ j ∈ js, j ∈ vs) → wipe (sets σ js xs) vs = wipe σ vs
  | σ, [], xs, _ => by unfold sets; rfl
  | σ, j :: js, [], _ => by unfold sets; rfl
  | σ, j :: js, x :: xs, h => by
    unfold sets
    rw [wipe_sets (fun k hk => h k (List.mem_cons_of_mem _ hk)), wipe_set (h j List.mem_cons_self)]
section
variable {K : PySem.W.Frag} {τ : T} {μ μ1 μ2 : M} {H H1 H2 H' : Hp} {σ : L2.St} {Φ Ψ : D → M → Prop} {ta tb tc te : TE} {r r' : R2} {tt : TT} {x y z d e : D} {N : AEnds} {ts us : TS}
theorem slots_sets : ∀ {js : List Nat} {ds : List D} {vs : List V} {τ : T} {σ : L2.St}, Rels K H vs ds → Slots K H τ σ → Slots K H (sets τ js ds) (sets σ js vs)
  | [], _, _, _, _, _, s => by unfold sets; exact s
  | j :: js, _, _, _, _, .nil, s => by unfold sets; exact s
  | j :: js, _, _, _, _, .cons a b, s => by unfold sets; exact slots_sets b (s.set a j)
/-- the slots of a block: all of vs are stored by the target -/
theorem slots_block {js : List Nat} {ds : List D} {vs : List V} (s : Slots K H τ σ) (r : Rels K H vs ds) (hl : ds.length = js.length) : Slots K H (sets τ js ds) (sets (wipe σ js) js vs) := by
  -- a slot that js stores does not hang on what stood there
  have same : ∀ (js0 : List Nat) (js : List Nat) (vs : List V) (σ σ' : L2.St), σ.length = σ'.length → js.length = vs.length → (∀ i, i ∉ js → i ∉ js0 → σ[i]? = σ'[i]?) → (∀ i, i ∈ js0 → i ∉ js → σ[i]? = σ'[i]?) → sets σ js vs = sets σ' js vs := by
    intro js0 js
    induction js with
    | nil =>
      intro vs σ σ' hL _ h1 h2
      unfold sets
      apply List.ext_getElem?
      intro i
      by_cases hi : i ∈ js0
      · exact h2 i hi (by simp)
      · exact h1 i (by simp) hi
    | cons j js ih =>
      intro vs σ σ' hL hV h1 h2
      cases vs with
      | nil => simp at hV
      | cons v vs =>
        unfold sets
        refine ih vs _ _ (by simp [hL]) (by simpa using hV) (fun i hi hi0 => ?_) (fun i hi0 hi => ?_)
        · by_cases e : j = i
          · subst e
            by_cases hl : j < σ.length
            · rw [List.getElem?_set_self hl, List.getElem?_set_self (by omega)]
            · rw [List.getElem?_eq_none (by simp; omega), List.getElem?_eq_none (by simp; omega)]
          · rw [List.getElem?_set_ne e, List.getElem?_set_ne e]
            exact h1 i (by simp [hi]; exact fun z => e z.symm) hi0
        · by_cases e : j = i
          · subst e
            by_cases hl : j < σ.length
            · rw [List.getElem?_set_self hl, List.getElem?_set_self (by omega)]
            · rw [List.getElem?_eq_none (by simp; omega), List.getElem?_eq_none (by simp; omega)]
          · rw [List.getElem?_set_ne e, List.getElem?_set_ne e]
            exact h2 i hi0 (by simp [hi]; exact fun z => e z.symm)
  have e : sets (wipe σ js) js vs = sets σ js vs := by
    refine same [] js vs _ _ (by rw [wipe_length]) (by rw [r.length, hl]) (fun i hi _ => ?_) (fun i hi _ => by simp at hi)
    rw [wipe_at, if_neg hi]
  rw [e]
  exact slots_sets r s
/-- how a target takes an item apart -/
def TgOk (K : PySem.W.Frag) (g : TG) (js : List Nat) (dec : D → List D → Prop) : Prop :=
  ∀ d ds v σ H, dec d ds → Rel K H v d → ∀ Q : L2.St → Hp → Prop, (∀ vs, Rels K H vs ds → Q (sets σ js vs) H) → g v σ H Q
theorem tg_name {j : Nat} : TgOk K (gName j) [j] fun d ds => ds = [d] := fun d ds v σ H h r Q q => by
  subst h
  exact q [v] (.cons r .nil)
theorem tg_2 {i j : Nat} : TgOk K (gTup K 2 (gCons (gName i) (gCons (gName j) gNil))) [i, j] fun d ds => d = .tup ds ∧ ds.length = 2 := fun d ds v σ H h r Q q => by
  obtain ⟨e, hl⟩ := h
  subst e
  cases r with
  | @tup a xs _ ht hr =>
    have hx := hr.length
    match xs, hx.trans hl with
    | [x, y], _ => exact ⟨a, _, rfl, ht.sq, rfl, x, _, rfl, y, _, rfl, rfl, q _ hr⟩
theorem tg_3 {i j k : Nat} : TgOk K (gTup K 3 (gCons (gName i) (gCons (gName j) (gCons (gName k) gNil)))) [i, j, k] fun d ds => d = .tup ds ∧ ds.length = 3 := fun d ds v σ H h r Q q => by
  obtain ⟨e, hl⟩ := h
  subst e
  cases r with
  | @tup a xs _ ht hr =>
    have hx := hr.length
    match xs, hx.trans hl with
    | [x, y, z], _ => exact ⟨a, _, rfl, ht.sq, rfl, x, _, rfl, y, _, rfl, z, _, rfl, rfl, q _ hr⟩
theorem tg_4 {i j k l : Nat} : TgOk K (gTup K 4 (gCons (gName i) (gCons (gName j) (gCons (gName k) (gCons (gName l) gNil))))) [i, j, k, l] fun d ds => d = .tup ds ∧ ds.length = 4 := fun d ds v σ H h r Q q => by
  obtain ⟨e, hl⟩ := h
  subst e
  cases r with
  | @tup a xs _ ht hr =>
    have hx := hr.length
    match xs, hx.trans hl with
    | [x, y, z, w], _ => exact ⟨a, _, rfl, ht.sq, rfl, x, _, rfl, y, _, rfl, z, _, rfl, w, _, rfl, rfl, q _ hr⟩
/-- what a turn of a comprehension must show -/
def LcTurn (K : PySem.W.Frag) (τ : T) (tt : TT) (te : TE) (js : List Nat) (dec : D → List D → Prop) (x : D) (acc : List D) (μ : M) (P : List D → M → Prop) : Prop :=
  ∃ xs, dec x xs ∧ xs.length = js.length ∧ AT K tt (sets τ js xs) μ fun b μ1 => if b = true then AE K te (sets τ js xs) μ1 fun y μ2 => acc.length < sizeLine ∧ P (acc ++ [y]) μ2 else P acc μ1
/-- the list that is made is at Dl, outside of the store -/
structure LcAt (K : PySem.W.Frag) (Dl : Addr) (μ0 : M) (H0 : Hp) (acc : List D) (μ' : M) (H' : Hp) : Prop where
  fr : Fr μ0 μ' H0 H'
  con : Z.Con K H' μ'
  no : μ' Dl = none
  at_ : ∃ vs, H' Dl = some (.lst vs) ∧ Rels K H' vs acc
theorem upd_out {Dl : Addr} {vs : List V} {o : HO} (c : Z.Con K H μ) (no : μ Dl = none) (h : H Dl = some (.lst vs)) (ho : ∀ xs, o ≠ .tup xs) : Tx H (upd H Dl o) ∧ Z.Con K (upd H Dl o) μ := by
  have t : Tx H (upd H Dl o) := ⟨fun a xs e => by rw [upd_ne (fun z => by subst z; rw [h] at e; cases e)]; exact e, fun a ob xs e => by rw [upd_ne (fun z => by subst z; rw [h] at e; cases e)]; exact e,
    fun a q e => by rw [upd_ne (fun z => by subst z; rw [h] at e; unfold LamX.CodeO at e; cases e)]; exact e⟩
  exact ⟨t, fun a m e => (c a m e).mono t (upd_ne (fun z => by subst z; rw [no] at e; cases e))⟩
theorem lc_step {g : TG} {js : List Nat} {dec : D → List D → Prop} {Dl : Addr} {μ0 μ' : M} {H0 : Hp} {acc : List D} {P : List D → M → Prop} {Nx : Hp → Prop} {v : V} (hD : H0 Dl = none) (hg : TgOk K g js dec) (s : Slots K H0 τ σ) (c0 : Z.Con K H0 μ0) (L : LcAt K Dl μ0 H0 acc μ' H') (rx : Rel K H' v x) (ht : LcTurn K τ tt te js dec x acc μ' P)
    (hn : ∀ acc2 μ2 H2, LcAt K Dl μ0 H0 acc2 μ2 H2 → P acc2 μ2 → Nx H2) :
    g v (wipe σ js) H' fun σ2 H2 => wipe σ2 js = wipe σ js ∧ tt σ2 H2 fun b H3 => if b = true then te σ2 H3 fun y H4 => ∃ acc, H4 Dl = some (.lst acc) ∧ acc.length < sizeLine ∧ Nx (upd H4 Dl (.lst (acc ++ [y]))) else Nx H3 := by
  obtain ⟨xs, hd, hl, ht⟩ := ht
  obtain ⟨vs0, hv0, hr0⟩ := L.at_
  refine hg x xs v _ H' hd rx _ fun vs hvs => ⟨by rw [wipe_sets (fun _ h => h), wipe_wipe], ?_⟩
  have s' : Slots K H' (sets τ js xs) (sets (wipe σ js) js vs) := slots_block (s.mono (L.fr.tx c0)) hvs hl
  refine ht _ H' s' L.con _ fun b μ1 H1 f1 c1 p => ?_
  have n1 : μ1 Dl = none := (f1 Dl _ L.no hv0).2
  have h1 : H1 Dl = some (.lst vs0) := (f1 Dl _ L.no hv0).1
  cases b with
  | false => exact hn acc μ1 H1 ⟨L.fr.trans f1, c1, n1, vs0, h1, Rels.mono (f1.tx L.con) _ _ hr0⟩ p
  | true =>
    refine (show AE K te _ μ1 _ from p) _ H1 (s'.mono (f1.tx L.con)) c1 _ fun y μ2 w H2 f2 c2 r2 ⟨hz, p2⟩ => ?_
    have n2 : μ2 Dl = none := (f2 Dl _ n1 h1).2
    have h2 : H2 Dl = some (.lst vs0) := (f2 Dl _ n1 h1).1
    have hr2 : Rels K H2 vs0 acc := Rels.mono ((f1.trans f2).tx L.con) _ _ hr0
    obtain ⟨t3, c3⟩ := upd_out (o := .lst (vs0 ++ [w])) c2 n2 h2 (fun _ z => by cases z)
    refine ⟨vs0, h2, by rw [hr0.length]; exact hz, hn _ μ2 _ ⟨fun a o n e => ?_, c3, n2, _, upd_same, Rels.mono t3 _ _ (hr2.append (.cons r2 .nil))⟩ p2⟩
    have f := (L.fr.trans f1).trans f2
    obtain ⟨e2, m2⟩ := f a o n e
    exact ⟨by rw [upd_ne (ne_of_none e hD)]; exact e2, m2⟩
theorem lc_start {Dl : Addr} (c : Z.Con K H μ) (hD : H Dl = none) : LcAt K Dl μ H [] μ (upd H Dl (.lst [])) :=
  ⟨fr_new hD, con_new hD c, c.free hD, [], upd_same, .nil⟩
/-- pure elements: a filter and a map -/
theorem at_yes {Θ : Bool → M → Prop} (h : Θ true μ) : AT K tYes τ μ Θ := fun σ H s c Q k => k true μ H Fr.refl c h
end
end Z
namespace Z
open PySem L2
section
variable {K : PySem.W.Frag} {τ : T} {μ μ1 μ2 : M} {H H1 H2 H' : Hp} {σ : L2.St} {Φ Ψ : D → M → Prop} {ta tb tc te : TE} {r r' : R2} {tt : TT} {x y z d e : D} {N : AEnds} {ts us : TS}
theorem s_par3 {i j l : Nat} {ta : TA} (h : AA K ta τ μ fun ds μ' => ∃ d e w, ds = [d, e, w] ∧ N.nx (((τ.set i (some d)).set j (some e)).set l (some w)) μ') : AS K (tPar3 i j l ta) τ μ N := fun σ H s c E k =>
  h σ H s c _ fun ds μ' vs H' f c' r ⟨d, e, w, q, p⟩ => by
    subst q
    cases r with
    | cons r1 r2 =>
      cases r2 with
      | cons r2 r3 =>
        cases r3 with
        | cons r3 r4 =>
          cases r4
          exact ⟨_, _, _, rfl, k.nx _ μ' _ H' f c' ((((s.mono (f.tx c)).set r1 i).set r2 j).set r3 l) p⟩
def tyn (μ : M) : D → Option String
  | .non => some "NoneType"
  | .bl _ => some "bool"
  | .int _ => some "int"
  | .str _ => some "str"
  | .tup _ => some "tuple"
  | .rol _ => some "list"
  | .ref a => match μ a with
    | some (.lst _) => some "list"
    | some (.dK _) => some "dict"
    | some (.dT _) => some "dict"
    | _ => none
  | .ty _ => none
theorem tyx_of {v : V} {n : String} (c : Z.Con K H μ) (r : Rel K H v d) (h : tyn μ d = some n) : TyX K H v (.type n) := by
  cases r with
  | non => cases h; exact .base .non
  | bl => cases h; exact .base (.bl _)
  | int => cases h; exact .base (.int _)
  | str => cases h; exact .base (.str _)
  | ty => cases h
  | tup ht hr =>
    cases h
    cases ht with
    | inl ht => exact .base (.tup ht)
  | rol ht hr =>
    cases h
    rcases ht with ⟨o, ht⟩ | ⟨o, its, m, h1, h2, _⟩
    · exact .base (.frz ht)
    · exact .kList h1 h2
  | ref a =>
    unfold tyn at h
    simp only at h
    split at h
    · rename_i e; cases h; obtain ⟨xs, hx, _⟩ := c _ _ e; exact .base (.lst hx)
    · rename_i e; cases h; obtain ⟨xs, hx, _⟩ := c _ _ e; exact .base (.dK hx)
    · rename_i e; cases h; obtain ⟨xs, hx, _⟩ := c _ _ e; exact .base (.dT hx)
    · cases h
theorem rc_isi {n m : String} {b : Bool} (h : tyn μ d = some n) (hk : kitB n m = some b) (q : Φ (.bl b) μ) : RC K (rIsi K) [d, .ty m] μ Φ := fun H xs c r1 Q k => by
  cases r1 with
  | cons a r2 =>
    cases r2 with
    | cons a2 r3 =>
      cases a2; cases r3
      exact ⟨_, _, .type n, .type m, b, rfl, .ty m, tyx_of c a h, kit_ty hk, k _ μ _ H Fr.refl c (.bl _) q⟩
theorem a_chain (h : AE K ta τ μ fun d μ1 => AE K tb τ μ1 fun e μ2 => RO K r d e μ2 fun z μ3 => ∃ b, z = .bl b ∧ if b = true then AE K tc τ μ3 fun w μ4 => RO K r' e w μ4 Φ else Φ (.bl false) μ3) : AE K (tChain r r' ta tb tc) τ μ Φ := fun σ H s c Q k =>
  h σ H s c _ fun d μ1 v H1 f1 c1 r1 p1 => p1 σ H1 (s.mono (f1.tx c)) c1 _ fun e μ2 u H2 f2 c2 r2 p2 =>
    p2 H2 v u c2 (Rel.mono (f2.tx c1) _ _ r1) r2 _ fun z μ3 w H3 f3 c3 rz ⟨b, ez, p3⟩ => by
      subst ez
      cases rz
      refine ⟨b, rfl, ?_⟩
      cases b with
      | false => exact k _ μ3 _ H3 ((f1.trans f2).trans f3) c3 (.bl false) (show Φ (.bl false) μ3 from p3)
      | true =>
        exact (show AE K tc τ μ3 _ from p3) σ H3 (s.mono (((f1.trans f2).trans f3).tx c)) c3 _ fun w μ4 w' H4 f4 c4 r4 p4 =>
          p4 H4 u w' c4 (Rel.mono ((f3.trans f4).tx c2) _ _ r2) r4 Q fun z μ5 o H5 f5 c5 rz pz => k z μ5 o H5 ((((f1.trans f2).trans f3).trans f4).trans f5) c5 rz pz
def rInS (K : PySem.W.Frag) (neg : Bool) : R2 := fun x y H Q => ∃ d ds, Dp K H x d ∧ (Dp K H y (.list ds) ∨ Dp K H y (.tuple ds)) ∧ SeqAt.shaped d = true ∧ SeqAt.shaped (.list ds) = true ∧ Q (.bl (if neg then !ds.any fun z => PyData.eqv z d else ds.any fun z => PyData.eqv z d)) H
theorem seq_dp {v : V} {ds : List D} (c : Z.Con K H μ) (r : Rel K H v d) (h : seqD μ d = some ds) (hp : D.plains ds = true) : Dp K H v (.list (D.pys ds)) ∨ Dp K H v (.tuple (D.pys ds)) := by
  cases r with
  | tup ht hr => cases h; exact .inr (.tup ht.sq (Rels.dp _ _ hr hp))
  | rol ht hr => cases h; exact .inl (.lst ht.sq (Rels.dp _ _ hr hp))
  | ref a =>
    unfold seqD at h
    simp only at h
    split at h
    · rename_i ds' e
      cases h
      obtain ⟨xs, h1, h2⟩ := c _ _ e
      exact .inl (.lst (SqL.of h1) (Rels.dp _ _ h2 hp))
    · cases h
  | non => cases h
  | bl => cases h
  | int => cases h
  | str => cases h
  | ty => cases h
def inD (d : D) (ds : List D) : Bool := ds.any fun z => D.eqv z d
theorem inD_pys (d : D) : ∀ ds : List D, (D.pys ds).any (fun z => PyData.eqv z (D.py d)) = inD d ds
  | [] => by simp [D.pys, inD]
  | x :: ds => by
    have ih := inD_pys d ds
    unfold inD at ih ⊢
    simp only [D.pys, List.any_cons, ih]
    rfl
theorem ro_inS {neg : Bool} {ds : List D} (hs : seqD μ e = some ds) (h1 : D.ok d = true) (h2 : D.ok (.tup ds) = true) (q : Φ (.bl (if neg then !inD d ds else inD d ds)) μ) : RO K (rInS K neg) d e μ Φ := fun H x y c r1 r2 Q k => by
  unfold D.ok at h1 h2
  rw [Bool.and_eq_true] at h1 h2
  have p2 : D.plains ds = true := by simpa only [D.plain] using h2.1
  refine ⟨_, D.pys ds, Rel.dp _ _ r1 h1.1, seq_dp c r2 hs p2, h1.2, ?_, ?_⟩
  · have h3 := h2.2
    simp only [D.py] at h3
    exact h3
  · rw [inD_pys]
    exact k _ μ _ H Fr.refl c (.bl _) q
end
/-- a def of the text with its promise -/
structure Def (P : Program) (w : World) (K : PySem.W.Frag) (mg : Str → Option Value) (base : Heap) (x : Str) (ps : List Str) (k : Nat) (sp : Sp) : Prop where
  ex : ∃ f fd, FnOk P w K mg base CX0 k f fd ps sp ∧ mg x = some (.ref f) ∧ PySem.W.keepIn K (.ref f) = true ∧ Binds K fd ps []
section
variable {X : Cx} {k : Nat} {ps : List Str} {sp : Sp} {x : Str} {p pos : Pos} {e : Expr} {es : List Expr} {t : TA}
theorem pe_def (G : Def X.prog X.w X.K X.mg X.base x ps k sp) (hr : Room k X.A) (hg : Gl X x)
    (ha : PA X (e :: es) t) (hdb : (x == ("__debug__" : Str)) = false := by decide) (he : starEach (e :: es) X.env = (false, eval e X.env) :: starEach es X.env := by rfl) (hpl : (backTo pos (starEach es X.env)).any (·.1) = false := by rfl) :
    PE X (.Call (.Name x p) (e :: es) [] pos) (tCall sp [] E0 t) := by
  obtain ⟨f, fd, F, hm, hk, hb⟩ := G.ex
  exact pe_call F hr hg hm hk hb .nil pass0 ha hdb he hpl
end
end Z
namespace Z
open PySem L2
theorem seq_ref {μ : M} {a : Addr} {ds : List D} (h : μ a = some (.lst ds)) : seqD μ (.ref a) = some ds := by
  show (match μ a with | some (.lst ds) => some ds | _ => none) = some ds
  rw [h]
def Sz (n : Nat) (x : Int) : Prop := x.natAbs < 2 ^ n
instance {n : Nat} {x : Int} : Decidable (Sz n x) := inferInstanceAs (Decidable (x.natAbs < 2 ^ n))
theorem sz_mono {a b : Nat} {x : Int} (h : Sz a x) (l : a ≤ b) : Sz b x := Nat.lt_of_lt_of_le h (Nat.pow_le_pow_right (by decide) l)
theorem sz_add {a b : Nat} {x y : Int} (h : Sz a x) (k : Sz b y) : Sz (max a b + 1) (x + y) := by
  have h1 : x.natAbs < 2 ^ (max a b) := Nat.lt_of_lt_of_le h (Nat.pow_le_pow_right (by decide) (Nat.le_max_left _ _))
  have h2 : y.natAbs < 2 ^ (max a b) := Nat.lt_of_lt_of_le k (Nat.pow_le_pow_right (by decide) (Nat.le_max_right _ _))
  have h3 := Int.natAbs_add_le x y
  unfold Sz
  rw [Nat.pow_succ]
  omega
theorem sz_neg {a : Nat} {x : Int} (h : Sz a x) : Sz a (-x) := by
  unfold Sz
  rw [Int.natAbs_neg]
  exact h
theorem sz_sub {a b : Nat} {x y : Int} (h : Sz a x) (k : Sz b y) : Sz (max a b + 1) (x - y) := by
  rw [Int.sub_eq_add_neg]
  exact sz_add h (sz_neg k)
theorem sz_mul {a b : Nat} {x y : Int} (h : Sz a x) (k : Sz b y) : Sz (a + b) (x * y) := wide_lt h k
theorem sz_mod {a : Nat} {x y : Int} (hy : 0 < y) (k : Sz a y) : Sz a (x % y) := by
  have h1 := Int.emod_nonneg x (by omega : y ≠ 0)
  have h2 := Int.emod_lt_of_pos x hy
  have k' : y.natAbs < 2 ^ a := k
  unfold Sz
  omega
theorem sz_lt {a : Nat} {x y : Int} (h0 : 0 ≤ x) (h1 : x < y) (k : Sz a y) : Sz a x := by
  have k' : y.natAbs < 2 ^ a := k
  unfold Sz
  omega
theorem sz_b {b : Bool} : Sz 1 (if b then 1 else 0) := by cases b <;> decide
theorem sz_128 {x : Int} (h : decide (x.natAbs < 2 ^ 128) = true) : Sz 128 x := of_decide_eq_true h
theorem sz_2 {x : Int} (h : decide (x.natAbs < 2 ^ 2) = true) : Sz 2 x := of_decide_eq_true h
theorem sz_8 {x : Int} (h : decide (x.natAbs < 2 ^ 8) = true) : Sz 8 x := of_decide_eq_true h
theorem sz_32 {x : Int} (h : decide (x.natAbs < 2 ^ 32) = true) : Sz 32 x := of_decide_eq_true h
theorem hu65_of {k : Nat} {A : Around} (hr : Room k A) : A.units + 65 < cLine := by have := hr.un; omega
theorem mulw_of {a b : Nat} {x y : Int} (h : Sz a x) (k : Sz b y) (l : (a + 1) + (b + 1) ≤ 1000000) : CMulW x y :=
  wide_mul (a := a + 1) (b := b + 1) (sz_mono h (Nat.le_succ a)) (sz_mono k (Nat.le_succ b)) (Nat.succ_pos _) (Nat.succ_pos _) l
theorem divw_of {b : Nat} {x y : Int} (h : 0 < y) (k : Sz b y) (l : b + 1 ≤ 9000) : CDivW x y := wide_div (b := b + 1) h (sz_mono k (Nat.le_succ b)) (Nat.succ_pos _) l
abbrev pt (x y : Int) : D := .tup [.int x, .int y]
def sgn (n : Int) : Int := if 0 < n then 1 else if n < 0 then -1 else 0
section
variable {X : Cx} {K : PySem.W.Frag}
theorem ix_seqK (h : X.K = K) : IxR X (rIx K) := by subst h; exact ix_seq
theorem op_neDK (h : X.K = K) (hu : X.A.units + 64 < cLine) : OpR X (compareOp .NotEq) (rNeD K) := by subst h; exact op_neD hu
theorem call_lenK (h : X.K = K) : CallR X (.builtin "len") (fun xs H Q => ∃ x n, xs = [x] ∧ LenV K x H n ∧ Q (.int n) H) := by subst h; exact call_len
theorem cr_anyK (h : X.K = K) (hc : X.calm = true) : CallR X (.builtin "any") (rAny K) := by subst h; exact cr_any hc
theorem call_tupleK (h : X.K = K) : CallR X (.type "tuple") (fun xs H Q => ∃ p ys, xs = [V.ref p] ∧ ((SqL K H p ys ∧ ∀ l, H l = none → Q (.ref l) (upd H l (.tup ys))) ∨ (SqT K H p ys ∧ Q (.ref p) H))) := by subst h; exact call_tuple_of
theorem pi_listK {tg l : Expr} {tl : TE} (h : X.K = K) (hl : PE X l tl) : PI X tg l (iList K tl) := by subst h; exact pi_list hl
theorem pi_tupK {tg l : Expr} {tl : TE} (h : X.K = K) (hl : PE X l tl) : PI X tg l (iTup K tl) := by subst h; exact pi_tup hl
end
end Z
namespace Z
open PySem L2
def P_law : PT3 := fun ds μ Φ => ∃ ns : List Int, ds = [.rol (ns.map D.int)] ∧ ns.length ≤ 63 ∧ ∀ μ', Φ (.bl true) μ'
theorem rels_map {K : PySem.W.Frag} {H : Hp} : ∀ ns : List Int, Rels K H (ns.map V.int) (ns.map D.int)
  | [] => .nil
  | n :: ns => .cons (.int n) (rels_map ns)
theorem law_start {K : PySem.W.Frag} {H : Hp} {a : Addr} {ns : List Int} (hl : ns.length ≤ 63) (hO : Only H) (hS : SqL K H a (ns.map V.int)) : spI K P_law [.ref a] H (fun v _ => v = .bl true) fun _ _ _ => False := by
  have hr : RolAt K H a (ns.map V.int) := by
    rcases hS with (h | ⟨o, h⟩) | h
    · rcases hO a with e | ⟨o, xs, e⟩
      · rw [e] at h; cases h
      · rw [e] at h; cases h
    · exact .inl ⟨o, h⟩
    · exact .inr h
  refine ⟨[.rol (ns.map D.int)], fun _ => none, fun d _ => d = .bl true, .cons (.rol hr (rels_map ns)) .nil, fun a m e => (by cases e), ⟨ns, rfl, hl, fun _ => rfl⟩, fun d μ' v H' f c r e => ?_⟩
  subst e
  cases r
  rfl
theorem len_law (ds : List D) (μ : M) (Φ : D → M → Prop) (h : P_law ds μ Φ) : ds.length = 1 := by
  obtain ⟨ns, rfl, _⟩ := h
  rfl
/-- a bag: what its second number is -/
def BgOk (m : Int) : Prop := 0 ≤ m ∧ m < 2147483648
def P_l_bag : PT3 := fun ds μ Φ => ∃ (ns : List Int) (k : Int), ds = [.rol (ns.map D.int), .int k] ∧ 0 ≤ k ∧ k ≤ 1000 ∧ ∀ p c m, μ p = none → BgOk m → Φ (.ref p) (μ.set p (.lst [.int c, .int m]))
theorem len_l_bag (ds : List D) (μ : M) (Φ : D → M → Prop) (h : P_l_bag ds μ Φ) : ds.length = 2 := by
  obtain ⟨_, _, rfl, _⟩ := h
  rfl
def P_l_take : PT3 := fun ds μ Φ => ∃ (b : Addr) (n c m : Int), ds = [.ref b, .int n] ∧ μ b = some (.lst [.int c, .int m]) ∧ BgOk m ∧ 0 < n ∧ Sz 4000 n ∧ ∀ d c' m', 0 ≤ d → d < n → Sz 4000 d → BgOk m' → Φ (.int d) (μ.set b (.lst [.int c', .int m']))
theorem len_l_take (ds : List D) (μ : M) (Φ : D → M → Prop) (h : P_l_take ds μ Φ) : ds.length = 2 := by
  obtain ⟨_, _, _, _, rfl, _⟩ := h
  rfl
theorem cast_int {Φ : D → M → Prop} {μ : M} {a b : Int} (e : a = b) (h : Φ (.int b) μ) : Φ (.int a) μ := by rw [e]; exact h
theorem cast_bl {Φ : D → M → Prop} {μ : M} {a b : Bool} (e : a = b) (h : Φ (.bl b) μ) : Φ (.bl a) μ := by rw [e]; exact h
theorem iteNT {A B : Prop} (h : B) : if (!true) = true then A else B := h
theorem iteNF {A B : Prop} (h : A) : if (!false) = true then A else B := h
/-- an if whose test is a comparison -/
theorem ite_d {p : Prop} [Decidable p] {A B : Prop} (h1 : p → A) (h2 : ¬ p → B) : if decide p = true then A else B := by
  by_cases h : p
  · rw [if_pos (decide_eq_true h)]; exact h1 h
  · rw [if_neg (by simpa using h)]; exact h2 h
theorem ite_b {b : Bool} {A B : Prop} (h1 : b = true → A) (h2 : b = false → B) : if b = true then A else B := by
  cases b with
  | true => exact h1 rfl
  | false => exact h2 rfl
theorem map_get {ns : List Int} {k : Int} (h0 : 0 ≤ k) (h1 : k < ns.length) : ∃ z, atI (ns.map D.int) k = some (.int z) := by
  obtain ⟨j, rfl⟩ := Int.eq_ofNat_of_zero_le h0
  have hj : j < ns.length := by omega
  exact ⟨ns[j], atI_nat (by rw [List.getElem?_map, List.getElem?_eq_getElem hj]; rfl)⟩
/-- an if, then a word of what holds behind it -/
theorem if_cut {K : PySem.W.Frag} {τ : T} {μ : M} {N : AEnds} {t1 t2 : TS} {b : Bool} (M0 : T → M → Prop) (h1 : b = true → AS K t1 τ μ { N with nx := M0 }) (h2 : b = false → AS K t2 τ μ { N with nx := M0 }) (k : ∀ τ' μ', M0 τ' μ' → N.nx τ' μ') :
    if b = true then AS K t1 τ μ N else AS K t2 τ μ N := by
  cases b with
  | true => rw [if_pos rfl]; exact (h1 rfl).imp k (fun _ _ h => h) (fun _ _ h => h) fun _ _ h => h
  | false => rw [if_neg Bool.false_ne_true]; exact (h2 rfl).imp k (fun _ _ h => h) (fun _ _ h => h) fun _ _ h => h
end Z
namespace Z
open PySem L2
/-- J yields xs in turn while G stands; what is at out is not in the store meanwhile -/
structure WalkD (K : PySem.W.Frag) (J : It) (xs : List D) (out : Addr → Prop) (G : Hp → Prop) : Prop where
  keep : ∀ H H' μ μ', Z.Con K H μ → (∀ a, out a → μ a = none) → G H → Fr μ μ' H H' → G H'
  oo : ∀ H a, G H → out a → ∃ o, H a = some o
  go : ∀ i H, i < xs.length → G H → J.go i H
  stop : ∀ i H, xs.length ≤ i → G H → J.stop i H
  yld : ∀ i H v H', i < xs.length → G H → J.yld i H v H' → ∃ x, xs[i]? = some x ∧ Rel K H' v x ∧ (H' = H ∨ ∃ T vs, H T = none ∧ H' = upd H T (.tup vs))
/-- how the store is put together again -/
structure Back (K : PySem.W.Frag) (μ μw : M) (H H1 : Hp) (back : M → M) : Prop where
  fr : ∀ μ' H', Fr μw μ' H1 H' → Fr μ (back μ') H H'
  con : ∀ μ' H', Fr μw μ' H1 H' → Z.Con K H' μ' → Z.Con K H' (back μ')
  nw : ∀ μ' p, H1 p = none → μ' p = none → back μ' p = none
  old : ∀ b o, μ b = none → H b = some o → H1 b = some o
/-- a source: what follows is told of the items, the store while it is walked, the way back -/
def AI (K : PySem.W.Frag) (wi : TI) (τ : T) (μ : M) (Ψ : List D → M → (M → M) → Prop) : Prop :=
  ∀ σ H, Slots K H τ σ → Z.Con K H μ → ∀ R : It → Hp → Prop,
    (∀ J xs out G H1 μw back, Tx H H1 → Z.Con K H1 μw → WalkD K J xs out G → G H1 → (∀ a, out a → μw a = none) → Back K μ μw H H1 back → Ψ xs μw back → R J H1) → wi σ H R
section
variable {K : PySem.W.Frag} {τ : T} {μ μ1 μ2 : M} {H H1 H2 H' : Hp} {σ : L2.St} {Φ : D → M → Prop} {ta tl te : TE} {tt : TT} {N : AEnds} {ts tb : TS} {g : TG} {wi : TI}
def turnB (N : AEnds) (back : M → M) (P : T → M → Prop) : AEnds := { nx := P, ct := P, rt := fun d μ' => N.rt d (back μ'), bk := fun τ' μ' => N.nx τ' (back μ'), W := N.W, cn := N.cn, xs := fun x dx τ' μ' => N.xs x dx τ' (back μ') }
/-- behind one yield -/
theorem yld_ok {T0 : Addr} {vs : List V} (c : Z.Con K H μ) (h : H T0 = none) : Fr μ μ H (upd H T0 (.tup vs)) ∧ Z.Con K (upd H T0 (.tup vs)) μ := ⟨fr_new h, con_new h c⟩
theorem s_for (h : AI K wi τ μ fun xs μw back => ∃ P : Nat → T → M → Prop, P 0 τ μw ∧ (∀ (i : Nat) x τ' μ', xs[i]? = some x → P i τ' μ' → AG K g x τ' μ' fun τ2 μ2 => AS K tb τ2 μ2 (turnB N back (P (i + 1)))) ∧ ∀ τ' μ', P xs.length τ' μ' → N.nx τ' (back μ')) :
    AS K (tFor wi g tb) τ μ N := fun σ H s c E k => by
  refine h σ H s c _ fun J xs out G H1 μw back tx c1 W g1 o1 B ⟨P, p0, hs, hd⟩ => ?_
  refine ⟨fun i m σ' H' => m = xs.length - i ∧ i ≤ xs.length ∧ ∃ τ' μ', Fr μw μ' H1 H' ∧ Z.Con K H' μ' ∧ Slots K H' τ' σ' ∧ P i τ' μ', ⟨xs.length, by omega, Nat.zero_le _, τ, μw, Fr.refl, c1, s.mono tx, p0⟩, ?_⟩
  rintro i m σ' H' ⟨rfl, hi, τ', μ', f, c', s', p⟩
  have gH : G H' := W.keep _ _ _ _ c1 o1 g1 f
  by_cases hlt : i < xs.length
  · refine .inr ⟨W.go i H' hlt gH, fun σ2 H2 => ∃ τ2 μ2, Fr μw μ2 H1 H2 ∧ Z.Con K H2 μ2 ∧ Slots K H2 τ2 σ2 ∧ P (i + 1) τ2 μ2, fun σ2 H2 ⟨τ2, μ2, f2, c2, s2, p2⟩ => ⟨xs.length - (i + 1), by omega, rfl, hlt, τ2, μ2, f2, c2, s2, p2⟩, fun v H2 y => ?_⟩
    obtain ⟨x, hx, rx, hH⟩ := W.yld i H' v H2 hlt gH y
    have fy : Fr μ' μ' H' H2 ∧ Z.Con K H2 μ' := by
      rcases hH with e | ⟨T0, vs, hT, e⟩
      · rw [e]; exact ⟨Fr.refl, c'⟩
      · rw [e]; exact yld_ok c' hT
    refine hs i x τ' μ' hx p σ' H2 v (s'.mono (fy.1.tx c')) fy.2 rx _ fun τ3 μ3 σ3 H3 f3 c3 s3 q => ?_
    have fa := (f.trans fy.1).trans f3
    refine q σ3 H3 s3 c3 _ ⟨fun τ4 μ4 σ4 H4 f4 c4 s4 p4 => ⟨τ4, μ4, fa.trans f4, c4, s4, p4⟩, fun d4 μ4 v4 H4 f4 c4 r4 p4 => ?_, fun τ4 μ4 σ4 H4 f4 c4 s4 p4 => ?_, fun τ4 μ4 σ4 H4 f4 c4 s4 p4 => ⟨τ4, μ4, fa.trans f4, c4, s4, p4⟩, fun x1 x2 x3 x4 x5 x6 x7 x8 f' c' s' p' => k.wx x1 x2 x3 _ x5 x6 x7 x8 (B.fr _ _ (fa.trans f')) (B.con _ _ (fa.trans f') c') s' p'⟩
    · exact k.rt d4 (back μ4) v4 H4 (B.fr _ _ (fa.trans f4)) (B.con _ _ (fa.trans f4) c4) r4 p4
    · exact k.nx τ4 (back μ4) σ4 H4 (B.fr _ _ (fa.trans f4)) (B.con _ _ (fa.trans f4) c4) s4 p4
  · have e : i = xs.length := by omega
    subst e
    exact .inl ⟨W.stop _ H' (Nat.le_refl _) gH, k.nx τ' (back μ') σ' H' (B.fr _ _ f) (B.con _ _ f c') s' (hd τ' μ' p)⟩
theorem a_lc {js : List Nat} {dec : D → List D → Prop} (hg : TgOk K g js dec)
    (h : AI K wi τ μ fun xs μw back => ∃ P : Nat → List D → M → Prop, P 0 [] μw ∧ (∀ (i : Nat) x acc μ', xs[i]? = some x → P i acc μ' → LcTurn K τ tt te js dec x acc μ' (P (i + 1))) ∧ ∀ acc μ', P xs.length acc μ' → ∀ p, back μ' p = none → Φ (.ref p) ((back μ').set p (.lst acc))) :
    AE K (tLc wi g tt te js) τ μ Φ := fun σ H s c Q k => by
  refine h σ H s c _ fun J xs out G H1 μw back tx c1 W g1 o1 B ⟨P, p0, hs, hd⟩ Dl hD => ?_
  have s1 := s.mono tx
  refine ⟨fun i m H' => m = xs.length - i ∧ i ≤ xs.length ∧ ∃ acc μ', LcAt K Dl μw H1 acc μ' H' ∧ P i acc μ', ⟨xs.length, by omega, Nat.zero_le _, [], μw, lc_start c1 hD, p0⟩, ?_⟩
  rintro i m H' ⟨rfl, hi, acc, μ', L, p⟩
  have gH : G H' := W.keep _ _ _ _ c1 o1 g1 L.fr
  by_cases hlt : i < xs.length
  · refine .inr ⟨W.go i H' hlt gH, fun H2 => ∃ acc2 μ2, LcAt K Dl μw H1 acc2 μ2 H2 ∧ P (i + 1) acc2 μ2, fun H2 ⟨acc2, μ2, L2, p2⟩ => ⟨xs.length - (i + 1), by omega, rfl, hlt, acc2, μ2, L2, p2⟩, fun v H2 y => ?_⟩
    obtain ⟨x, hx, rx, hH⟩ := W.yld i H' v H2 hlt gH y
    have L2 : LcAt K Dl μw H1 acc μ' H2 := by
      rcases hH with e | ⟨T0, vs, hT, e⟩
      · rw [e]; exact L
      · obtain ⟨f2, c2⟩ := yld_ok (vs := vs) L.con hT
        obtain ⟨ws, hw, hr⟩ := L.at_
        rw [e]
        exact ⟨L.fr.trans f2, c2, L.no, ws, by rw [upd_ne (fun z => by rw [z, hT] at hw; cases hw)]; exact hw, Rels.mono (tx_new hT) _ _ hr⟩
    exact lc_step hD hg s1 c1 L2 rx (hs i x acc μ' hx p) fun acc2 μ2 H3 L3 p3 => ⟨acc2, μ2, L3, p3⟩
  · have e : i = xs.length := by omega
    subst e
    obtain ⟨vs, hv, hr⟩ := L.at_
    refine .inl ⟨W.stop _ H' (Nat.le_refl _) gH, ?_⟩
    have hbn : back μ' Dl = none := B.nw _ _ hD L.no
    have fb := B.fr _ _ L.fr
    have cb := B.con _ _ L.fr L.con
    refine k _ _ _ H' (fun b o n e => ?_) (con_back (m := .lst acc) cb ⟨vs, hv, hr⟩) (.ref Dl) (hd acc μ' p Dl hbn)
    obtain ⟨e2, n2⟩ := fb b o n e
    have hb : b ≠ Dl := fun z => by
      have e3 := B.old b o n e
      rw [z, hD] at e3; cases e3
    exact ⟨e2, by rw [set_ne hb]; exact n2⟩
theorem back_id (f : Fr μ μ1 H H1) : Back K μ μ1 H H1 id := ⟨fun _ _ g => f.trans g, fun _ _ _ c => c, fun _ _ _ h => h, fun b o n e => (f b o n e).1⟩
/-- a list set aside -/
theorem back_set {a : Addr} {vs : List V} {ds : List D} (c1 : Z.Con K H1 μ1) (hl : μ1 a = some (.lst ds)) (hx : H1 a = some (.lst vs)) (hr : Rels K H1 vs ds) (f : Fr μ μ1 H H1) : Back K μ (μ1.del a) H H1 (fun μ' => μ'.set a (.lst ds)) where
  fr := fun μ' H' g => fr_back hl f g
  con := fun μ' H' g c => con_back (m := .lst ds) c ⟨vs, (g a _ del_same hx).1, Rels.mono (g.tx (c1.sub del_sub)) _ _ hr⟩
  nw := fun μ' p hp n => by
    rw [set_ne (fun z => by rw [z, hx] at hp; cases hp)]
    exact n
  old := fun b o n e => (f b o n e).1
theorem walk_T {a : Addr} {vs : List V} {ds : List D} (hr : Rels K H1 vs ds) : WalkD K (Itt K a) ds (fun _ => False) (fun H' => TupAt K H' a vs ∧ Rels K H' vs ds) where
  keep := fun H H' μ μ' c _ g f => ⟨g.1.mono (f.tx c), Rels.mono (f.tx c) _ _ g.2⟩
  oo := fun _ _ _ h => h.elim
  go := fun i H' hi g => by
    have hv : i < vs.length := by rw [hr.length]; exact hi
    exact ⟨vs, vs[i], g.1.sq, List.getElem?_eq_getElem hv⟩
  stop := fun i H' hi g => ⟨vs, g.1.sq, by rw [hr.length]; exact hi⟩
  yld := fun i H' v H2 hi g y => by
    obtain ⟨e, q⟩ := y
    obtain ⟨x, h1, h2⟩ := g.2.getV (q vs g.1.sq)
    subst e
    exact ⟨x, h1, h2, .inl rfl⟩
theorem walk_L {a : Addr} {vs : List V} {ds : List D} (hr : Rels K H1 vs ds) : WalkD K (Itl K a) ds (fun b => b = a) (fun H' => H' a = some (.lst vs) ∧ Rels K H' vs ds) where
  keep := fun H H' μ μ' c o g f => ⟨(f a _ (o a rfl) g.1).1, Rels.mono (f.tx c) _ _ g.2⟩
  oo := fun _ b g h => by subst h; exact ⟨_, g.1⟩
  go := fun i H' hi g => by
    have hv : i < vs.length := by rw [hr.length]; exact hi
    exact ⟨vs, vs[i], SqL.of g.1, List.getElem?_eq_getElem hv⟩
  stop := fun i H' hi g => ⟨vs, SqL.of g.1, by rw [hr.length]; exact hi⟩
  yld := fun i H' v H2 hi g y => by
    obtain ⟨e, q⟩ := y
    obtain ⟨x, h1, h2⟩ := g.2.getV (q vs (SqL.of g.1))
    subst e
    exact ⟨x, h1, h2, .inl rfl⟩
theorem walk_N {lo : Int} {n : Nat} : WalkD K (Itr lo n) ((List.range n).map fun (i : Nat) => D.int (lo + i)) (fun _ => False) (fun _ => True) where
  keep := fun _ _ _ _ _ _ _ _ => trivial
  oo := fun _ _ _ h => h.elim
  go := fun i H' hi _ => by
    have h : i < n := by simpa using hi
    exact h
  stop := fun i H' hi _ => by
    have h : n ≤ i := by simpa using hi
    exact h
  yld := fun i H' v H2 hi _ y => by
    obtain ⟨e, e2⟩ := y
    have h : i < n := by simpa using hi
    subst e e2
    exact ⟨.int (lo + i), by simp [h], .int _, .inl rfl⟩
variable {Ψ : List D → M → (M → M) → Prop}
theorem ai_T (h : AE K tl τ μ fun d μ1 => ∃ ds, d = .tup ds ∧ Ψ ds μ1 id) : AI K (iTup K tl) τ μ Ψ := fun σ H s c R k => h σ H s c _ fun d μ1 v H1 f1 c1 r1 ⟨ds, e, q⟩ => by
  subst e
  cases r1 with
  | @tup a xs _ ha hr => exact ⟨a, rfl, ⟨xs, ha.sq⟩, k _ ds _ _ H1 μ1 id (f1.tx c) c1 (walk_T hr) ⟨ha, hr⟩ (fun _ z => z.elim) (back_id f1) q⟩
theorem ai_L (h : AE K tl τ μ fun d μ1 => ∃ a ds, d = .ref a ∧ μ1 a = some (.lst ds) ∧ Ψ ds (μ1.del a) (fun μ' => μ'.set a (.lst ds))) : AI K (iList K tl) τ μ Ψ := fun σ H s c R k => h σ H s c _ fun d μ1 v H1 f1 c1 r1 ⟨a, ds, e, hl, q⟩ => by
  subst e
  cases r1
  obtain ⟨xs, hx, hr⟩ := c1 a _ hl
  exact ⟨a, rfl, ⟨xs, SqL.of hx⟩, k _ ds _ _ H1 (μ1.del a) _ (f1.tx c) (c1.sub del_sub) (walk_L hr) ⟨hx, hr⟩ (fun b z => by rw [z]; exact del_same) (back_set c1 hl hx hr f1) q⟩
theorem ai_1 {ta : TA} (h : AA K ta τ μ fun ds μ1 => ∃ n : Int, ds = [.int n] ∧ -(2 ^ 62) ≤ n ∧ n < 2 ^ 62 ∧ Ψ ((List.range n.toNat).map fun (i : Nat) => D.int (0 + i)) μ1 id) : AI K (iRng1 ta) τ μ Ψ := fun σ H s c R k => h σ H s c _ fun ds μ1 vs H1 f1 c1 r1 ⟨n, e, h1, h2, q⟩ => by
  subst e
  cases r1 with
  | cons r rr =>
    cases r
    cases rr
    exact ⟨n, rfl, h1, h2, k _ _ _ _ H1 μ1 id (f1.tx c) c1 walk_N trivial (fun _ z => z.elim) (back_id f1) q⟩
theorem ai_2 {ta : TA} (h : AA K ta τ μ fun ds μ1 => ∃ lo hi : Int, ds = [.int lo, .int hi] ∧ (-(2 ^ 62) ≤ lo ∧ lo < 2 ^ 62 ∧ -(2 ^ 62) ≤ hi ∧ hi < 2 ^ 62) ∧ Ψ ((List.range (hi - lo).toNat).map fun (i : Nat) => D.int (lo + i)) μ1 id) : AI K (iRng2 ta) τ μ Ψ := fun σ H s c R k => h σ H s c _ fun ds μ1 vs H1 f1 c1 r1 ⟨lo, hi, e, h1, q⟩ => by
  subst e
  cases r1 with
  | cons r rr =>
    cases r
    cases rr with
    | cons r rr =>
      cases r
      cases rr
      exact ⟨lo, hi, rfl, h1, k _ _ _ _ H1 μ1 id (f1.tx c) c1 walk_N trivial (fun _ z => z.elim) (back_id f1) q⟩
def zipD : List D → List D → List D
  | x :: xs, y :: ys => .tup [x, y] :: zipD xs ys
  | _, _ => []
theorem zipD_get : ∀ {xs ys : List D} {i : Nat}, i < (zipD xs ys).length → ∃ x y, xs[i]? = some x ∧ ys[i]? = some y ∧ (zipD xs ys)[i]? = some (.tup [x, y])
  | [], _, i, h => by simp [zipD] at h
  | _ :: _, [], i, h => by simp [zipD] at h
  | x :: xs, y :: ys, 0, _ => ⟨x, y, rfl, rfl, rfl⟩
  | x :: xs, y :: ys, i + 1, h => by
    obtain ⟨a, b, h1, h2, h3⟩ := zipD_get (xs := xs) (ys := ys) (i := i) (by simpa [zipD] using h)
    exact ⟨a, b, by simpa using h1, by simpa using h2, by simpa [zipD] using h3⟩
theorem zipD_len : ∀ (xs ys : List D), (zipD xs ys).length = min xs.length ys.length
  | [], _ => by simp [zipD]
  | _ :: _, [] => by simp [zipD]
  | x :: xs, y :: ys => by
    have h := zipD_len xs ys
    simp only [zipD, List.length_cons, h]
    omega
end
theorem pi_zipK {X : Cx} {K : PySem.W.Frag} {e e2 : Expr} {ta : TA} {p pos tpos : Pos} {elts : List Expr} {kk : Nat} (h : X.K = K) (hg : Gl X "zip") (hm : X.mg "zip" = none) (ha : PA X [e, e2] ta)
    (hs : starEach [e, e2] X.env = (false, eval e X.env) :: starEach [e2] X.env := by rfl) (hpl : (backTo pos (starEach [e2] X.env)).any (·.1) = false := by rfl) :
    PI X (.Tuple elts kk tpos) (.Call (.Name "zip" p) [e, e2] [] pos) (RZ.iZipA K ta) := by
  subst h
  exact RZ.pi_zipA hg hm ha hs hpl
end Z
namespace Z
open PySem L2
def Up (Φ : D → M → Prop) : D → M → Prop := fun d μ' => ∃ μ2, Sub μ2 μ' ∧ Φ d μ2
theorem up_of {Φ : D → M → Prop} {d : D} {μ2 μ' : M} (s : Sub μ2 μ') (h : Φ d μ2) : Up Φ d μ' := ⟨μ2, s, h⟩
theorem up {Φ : D → M → Prop} {d : D} {μ' : M} (h : Φ d μ') : Up Φ d μ' := ⟨μ', Sub.refl, h⟩
theorem body_okU {K : PySem.W.Frag} {H : Hp} {ts : TS} {P : PT3} {E : XK} {Ns : List Str} {vs : List V} {Q : VK} (h : spI K P vs H Q E) (hb : ∀ ds μ Φ, P ds μ Φ → AS K ts (startD Ns.length ds) μ { nx := fun _ μ' => Up Φ .non μ', rt := Up Φ }) :
    ts { nx := fun _ H' => Q .non H', rt := Q } (L2.start Ns vs) H := by
  obtain ⟨ds, μ, Φ, r, c, p, k⟩ := h
  refine hb ds μ Φ p _ H (slots_start r) c _ ⟨fun _ μ' _ H' f c' _ q => ?_, fun d μ' v H' f c' r' q => ?_, fun _ _ _ _ _ _ _ q => q.elim, fun _ _ _ _ _ _ _ q => q.elim, fun _ _ _ _ _ _ _ _ _ _ _ q => q.elim⟩
  · obtain ⟨μ2, sb, q⟩ := q
    exact k .non μ2 .non H' (f.sub sb) (c'.sub sb) .non q
  · obtain ⟨μ2, sb, q⟩ := q
    exact k d μ2 v H' (f.sub sb) (c'.sub sb) r' q
def SubB (b : Addr) (μ μ' : M) : Prop := ∀ a m, a ≠ b → μ a = some m → μ' a = some m
section
variable {μ μ' : M} {b l : Addr} {X Y : MO}
theorem sb_refl : SubB b μ μ := fun _ _ _ h => h
theorem sb_self (h : SubB b μ μ') : SubB b μ (μ'.set b Y) := fun a m n e => by rw [set_ne n]; exact h a m n e
theorem sb_new (h : SubB b μ μ') (hn : μ' l = none) : SubB b μ (μ'.set l Y) := fun a m n e => by
  have h2 := h a m n e
  rw [set_ne (fun z => by rw [z, hn] at h2; cases h2)]
  exact h2
theorem sb_sub (h : SubB b μ μ') : Sub (μ.set b X) (μ'.set b X) := fun a m e => by
  by_cases ha : a = b
  · subst ha; rw [set_same] at e ⊢; exact e
  · rw [set_ne ha] at e ⊢; exact h a m ha e
theorem sub_new (h : Sub μ μ') (hn : μ' l = none) : Sub μ (μ'.set l Y) := fun a m e => by
  have h2 := h a m e
  rw [set_ne (fun z => by rw [z, hn] at h2; cases h2)]
  exact h2
/-- a list of one's own, changed again -/
theorem sub_own (h : Sub μ μ') (hn : μ l = none) : Sub μ (μ'.set l Y) := fun a m e => by
  rw [set_ne (fun z => by rw [z, hn] at e; cases e)]
  exact h a m e
theorem none_ne {m : MO} (h : (μ.set b m) l = none) : l ≠ b := fun z => by subst z; rw [set_same] at h; cases h
theorem none_back {m : MO} (h : (μ.set b m) l = none) : μ l = none := by
  have n := none_ne h
  rw [set_ne n] at h
  exact h
end
abbrev Fq := Int × Int
abbrev Pl := Fq × Fq
abbrev encF (p : Fq) : D := pt p.1 p.2
abbrev encP (p : Pl) : D := .tup [pt p.1.1 p.1.2, pt p.2.1 p.2.2]
/-- a number as law helpers make it, in lowest terms or not: the bottom above 0 -/
structure Good (p : Fq) : Prop where
  pos : 0 < p.2
  s1 : Sz 2000 p.1
  s2 : Sz 2000 p.2
structure GoodP (p : Pl) : Prop where
  x : Good p.1
  y : Good p.2
theorem absn (i : Int) : (if i < 0 then -i else i) = (i.natAbs : Int) := by split <;> omega
/-- one turn of Euclid's -/
theorem gcd_turn (l b : Nat) : Nat.gcd (b % l) l = Nat.gcd l b := (Nat.gcd_rec l b).symm
theorem div_fact {x y : Int} {g : Nat} (hy : 0 < y) (h : Nat.gcd x.natAbs y.natAbs = g) : 0 < g ∧ (x / g) * g = x ∧ (y / g) * g = y ∧ 0 < y / (g : Int) := by
  have hg : 0 < g := by
    rw [← h]
    exact Nat.gcd_pos_of_pos_right _ (by omega)
  have d1 : (g : Int) ∣ x := by
    rw [← h]
    exact Int.ofNat_dvd_left.mpr (Nat.gcd_dvd_left _ _)
  have d2 : (g : Int) ∣ y := by
    rw [← h]
    exact Int.ofNat_dvd_left.mpr (Nat.gcd_dvd_right _ _)
  have e1 := Int.ediv_mul_cancel d1
  have e2 := Int.ediv_mul_cancel d2
  refine ⟨hg, e1, e2, ?_⟩
  rcases Int.lt_or_le 0 (y / (g : Int)) with k | k
  · exact k
  · have : y / (g : Int) * g ≤ 0 := Int.mul_nonpos_of_nonpos_of_nonneg k (by omega)
    omega
theorem div_size {x : Int} {g : Nat} {a : Nat} (hg : 0 < g) (h : (x / g) * g = x) (s : Sz a x) : Sz a (x / (g : Int)) := by
  have s' : x.natAbs < 2 ^ a := s
  unfold Sz
  have e : (x / (g : Int)).natAbs * g = x.natAbs := by
    have := congrArg Int.natAbs h
    rw [Int.natAbs_mul, Int.natAbs_natCast] at this
    exact this
  have : (x / (g : Int)).natAbs ≤ (x / (g : Int)).natAbs * g := Nat.le_mul_of_pos_right _ hg
  omega
end Z
namespace Z
open PySem L2
section
variable {K : PySem.W.Frag} {μ μ' : M} {Φ : D → M → Prop} {b l : Addr} {X : MO}
theorem ro_isB {a b : Bool} (q : Φ (.bl (decide (a = b))) μ) : RO K rIsB (.bl a) (.bl b) μ Φ := fun H x y c r1 r2 Q k => by
  cases r1; cases r2
  exact ⟨a, b, rfl, rfl, k _ μ _ H Fr.refl c (.bl _) q⟩
theorem ro_notB {a b : Bool} (q : Φ (.bl (!decide (a = b))) μ) : RO K rNotB (.bl a) (.bl b) μ Φ := fun H x y c r1 r2 Q k => by
  cases r1; cases r2
  exact ⟨a, b, rfl, rfl, k _ μ _ H Fr.refl c (.bl _) q⟩
theorem sb_end (h : SubB b μ μ') (e : μ' b = some X) : Sub (μ.set b X) μ' := fun a m q => by
  by_cases ha : a = b
  · subst ha; rw [set_same] at q; rw [e]; exact q
  · rw [set_ne ha] at q; exact h a m ha q
end
structure Gd (n : Nat) (p : Fq) : Prop where
  pos : 0 < p.2
  s1 : Sz n p.1
  s2 : Sz n p.2
structure GdP (n : Nat) (p : Pl) : Prop where
  x : Gd n p.1
  y : Gd n p.2
theorem Gd.mono {n m : Nat} {p : Fq} (h : Gd n p) (l : n ≤ m) : Gd m p := ⟨h.pos, sz_mono h.s1 l, sz_mono h.s2 l⟩
theorem GdP.mono {n m : Nat} {p : Pl} (h : GdP n p) (l : n ≤ m) : GdP m p := ⟨h.x.mono l, h.y.mono l⟩
theorem GdP.good {n : Nat} {p : Pl} (h : GdP n p) (l : n ≤ 2000) : GoodP p := ⟨⟨h.x.pos, sz_mono h.x.s1 l, sz_mono h.x.s2 l⟩, ⟨h.y.pos, sz_mono h.y.s1 l, sz_mono h.y.s2 l⟩⟩
end Z
namespace Z
open PySem L2
def AO (K : PySem.W.Frag) (to : TO) (τ : T) (μ : M) (Θ : Option Int → M → Prop) : Prop :=
  ∀ σ H, Slots K H τ σ → Z.Con K H μ → ∀ R : Option Int → Hp → Prop, (∀ o μ' H', Fr μ μ' H H' → Z.Con K H' μ' → Θ o μ' → R o H') → to σ H R
/-- what a slice of d answers -/
def RS (K : PySem.W.Frag) (r : V → Option Int → Option Int → Hp → VK → Prop) (d : D) (lo hi : Option Int) (μ : M) (Φ : D → M → Prop) : Prop :=
  ∀ H x, Z.Con K H μ → Rel K H x d → ∀ Q : VK, (∀ z μ' v H', Fr μ μ' H H' → Z.Con K H' μ' → Rel K H' v z → Φ z μ' → Q v H') → r x lo hi H Q
def cutD (ds : List D) (lo hi : Option Int) : List D := (ds.drop (HT.sIx ds.length 0 lo)).take (HT.sIx ds.length ds.length hi - HT.sIx ds.length 0 lo)
section
variable {K : PySem.W.Frag} {τ : T} {μ μ1 μ2 : M} {H H1 H2 H' : Hp} {σ : L2.St} {Φ : D → M → Prop} {ta tl te : TE} {to tp : TO} {Θ : Option Int → M → Prop} {d e : D}
theorem ao_no (h : Θ none μ) : AO K tNoPart τ μ Θ := fun σ H s c R k => k none μ H Fr.refl c h
theorem ao_pt (h : AE K te τ μ fun d μ1 => ∃ i, d = .int i ∧ Θ (some i) μ1) : AO K (tPart te) τ μ Θ := fun σ H s c R k => h σ H s c _ fun d μ1 v H1 f1 c1 r1 ⟨i, e, q⟩ => by
  subst e
  cases r1
  exact ⟨i, rfl, k (some i) μ1 H1 f1 c1 q⟩
theorem a_sl {r : V → Option Int → Option Int → Hp → VK → Prop} (h : AE K te τ μ fun d μ1 => AO K to τ μ1 fun lo μ2 => AO K tp τ μ2 fun hi μ3 => RS K r d lo hi μ3 Φ) : AE K (L2.tSl r te to tp) τ μ Φ := fun σ H s c Q k =>
  h σ H s c _ fun d μ1 v H1 f1 c1 r1 p1 => p1 σ H1 (s.mono (f1.tx c)) c1 _ fun lo μ2 H2 f2 c2 p2 => p2 σ H2 (s.mono ((f1.trans f2).tx c)) c2 _ fun hi μ3 H3 f3 c3 p3 =>
    p3 H3 v c3 (Rel.mono ((f2.trans f3).tx c1) _ _ r1) Q fun z μ' w H' f c' rz pz => k z μ' w H' (((f1.trans f2).trans f3).trans f) c' rz pz
theorem Rels.cut {vs : List V} {ds : List D} (lo hi : Option Int) (r : Rels K H vs ds) : Rels K H (cutV vs lo hi) (cutD ds lo hi) := by
  unfold cutV cutD
  rw [r.length]
  exact (r.drop _).take _
theorem rs_ref {a : Addr} {ds : List D} {lo hi : Option Int} (h : μ a = some (.lst ds)) (q : ∀ p, μ p = none → Φ (.ref p) (μ.set p (.lst (cutD ds lo hi)))) : RS K (rSlL K) (.ref a) lo hi μ Φ := fun H x c r Q k => by
  cases r
  obtain ⟨xs, hx, hr⟩ := c a _ h
  exact ⟨a, xs, rfl, SqL.of hx, fun p hp => k _ _ _ _ (fr_put hp) (con_put (m := .lst (cutD ds lo hi)) hp c ⟨_, upd_same, Rels.mono (tx_new hp) _ _ (hr.cut lo hi)⟩) (.ref p) (q p (c.free hp))⟩
theorem rs_rol {ds : List D} {lo hi : Option Int} (q : ∀ p, μ p = none → Φ (.ref p) (μ.set p (.lst (cutD ds lo hi)))) : RS K (rSlL K) (.rol ds) lo hi μ Φ := fun H x c r Q k => by
  cases r with
  | @rol a xs _ ht hr => exact ⟨a, xs, rfl, ht.sq, fun p hp => k _ _ _ _ (fr_put hp) (con_put (m := .lst (cutD ds lo hi)) hp c ⟨_, upd_same, Rels.mono (tx_new hp) _ _ (hr.cut lo hi)⟩) (.ref p) (q p (c.free hp))⟩
/-- two lists of the store, put together -/
theorem ro_cat {a b : Addr} {ds es : List D} (h1 : μ a = some (.lst ds)) (h2 : μ b = some (.lst es)) (hz : ds.length + es.length ≤ sizeLine) (q : ∀ p, μ p = none → Φ (.ref p) (μ.set p (.lst (ds ++ es)))) : RO K rCat (.ref a) (.ref b) μ Φ := fun H x y c r1 r2 Q k => by
  cases r1
  cases r2
  obtain ⟨xs, hx, hr⟩ := c a _ h1
  obtain ⟨ys, hy, hr2⟩ := c b _ h2
  exact ⟨a, b, xs, ys, rfl, rfl, hx, hy, by rw [hr.length, hr2.length]; exact hz, fun p hp => k _ _ _ _ (fr_put hp) (con_put (m := .lst (ds ++ es)) hp c ⟨_, upd_same, Rels.mono (tx_new hp) _ _ (hr.append hr2)⟩) (.ref p) (q p (c.free hp))⟩
end
end Z
namespace ZL
open PySem PySem.Spec PyProof.Rows PySem.Calls PySem.W
section
variable {prog : Program} {w : World} {A : Around} {E : Value → Shared → Prop} {s : Shared} {z TI TO T S i1 i2 l1 l2 : Addr} {xs ys : Array Value}
/-- one draw while the pair T given out ahead is still there -/
theorem held_item {f : Bool} {oT : Obj} {k : Nat} {x y : Value} {Q : Value → Shared → Prop} (D : ZipApart z TI TO i1 i2 l1 l2) (hz : IsZipHeld s.heap z TI TO T f) (hT : s.heap.get? T = some oT) (hTI : IsPair s.heap TI (.ref i1) (.ref i2))
    (h1 : s.heap.IsTupleIter i1 l1 k) (h2 : s.heap.IsTupleIter i2 l2 k) (hl1 : s.heap.IsTuple l1 xs) (hl2 : s.heap.IsTuple l2 ys) (hx : xs[k]? = some x) (hy : ys[k]? = some y)
    (hQ : ∀ h', IsZipHeld h' z TI TO T true → h'.IsTupleIter i1 l1 (k + 1) → h'.IsTupleIter i2 l2 (k + 1) → IsPair h' s.heap.objs.size x y → h'.objs.size = s.heap.objs.size + 1 → (∀ c o, c ≠ z → c ≠ i1 → c ≠ i2 → s.heap.get? c = some o → h'.get? c = some o) → Q (.ref s.heap.objs.size) { s with heap := h' }) :
    wpAny (model prog w) A (Builtin.«zip.__next__» ⟨[.ref z], []⟩) (fun fin s' => ∃ v, fin = .done (.ret v) ∧ Q v s') E s := by
  show wpAny _ _ (field (.ref z) 2 >>= _) _ _ _; refine wpAny_bind (wpAny_field hz rfl (x := .bool false) rfl ?_)
  show wpAny _ _ (field (.ref z) 3 >>= _) _ _ _; refine wpAny_bind (wpAny_field hz rfl (x := .ref TI) rfl (wpAny_bind (wpAny_seqItems hTI rfl ?_)))
  show wpAny _ _ (Builtin.SmallTypes.ownedTupleIsFree (.ref z) >>= _) _ _ _; refine wpAny_bind (wpAny_tupleHeld_zip hz hT fun g0 z0 b0 => ?_)
  simp only [Bool.false_eq_true, if_false]; refine wpAny_bind ?_
  rw [← Array.forIn_toList]; simp only [List.forIn_cons, List.forIn_nil]
  refine wpAny_bind (wpAny_bind (wpAny_holding ?_)); show wpAny _ _ (Builtin.SmallTypes.nextOf (.ref i1) >>= _) _ _ _
  refine wpAny_bind (RZ.nextOf_tuple_item (s := { s with heap := g0 }) (h1.extBut b0.extBut D.i1z) (hl1.extBut b0.extBut D.l1z) hx fun g1 e1 b1 => wpAny_pure (wpAny_pure ?_))
  refine wpAny_bind (wpAny_bind (wpAny_holding ?_)); show wpAny _ _ (Builtin.SmallTypes.nextOf (.ref i2) >>= _) _ _ _
  refine wpAny_bind (RZ.nextOf_tuple_item (s := { s with heap := g1 }) ((h2.extBut b0.extBut D.i2z).extBut b1.extBut D.i12.symm) ((hl2.extBut b0.extBut D.l2z).extBut b1.extBut D.l2i1) hy fun g2 e2 b2 => wpAny_pure (wpAny_pure (wpAny_pure ?_)))
  have sz : g2.objs.size = s.heap.objs.size := by rw [b2.1, b1.1, b0.1]
  have keep : ∀ c o, c ≠ z → c ≠ i1 → c ≠ i2 → s.heap.get? c = some o → g2.get? c = some o := fun c o n0 n1 n2 e => b2.extBut _ _ n2 (b1.extBut _ _ n1 (b0.extBut _ _ n0 e))
  show wpAny _ _ (newTuple [x, y] >>= _) _ _ _
  refine wpAny_bind (wpAny_newTuple (wpAny_pure ⟨_, rfl, ?_⟩))
  show Q (.ref g2.objs.size) _
  have hp : IsPair (g2.push { cls := .type "tuple", data := .seq #[x, y] }) g2.objs.size x y := Heap.get?_push_size _ rfl
  have sz2 : (g2.push { cls := .type "tuple", data := .seq #[x, y] }).objs.size = g2.objs.size + 1 := Heap.size_push ..
  rw [sz] at hp sz2 ⊢
  exact hQ _ (Heap.get?_push_of_some _ (b2.extBut _ _ D.i2z.symm (b1.extBut _ _ D.i1z.symm z0))) ((e1.extBut b2.extBut D.i12).at fun o q => Heap.get?_push_of_some _ q) (e2.at fun o q => Heap.get?_push_of_some _ q) hp sz2 fun c o n0 n1 n2 q => Heap.get?_push_of_some _ (keep c o n0 n1 n2 q)
theorem held_end {f : Bool} {oT : Obj} {k : Nat} {Q : Fin → Shared → Prop} (hh : A.handled = none) (D : ZipApart z TI TO i1 i2 l1 l2) (hz : IsZipHeld s.heap z TI TO T f) (hT : s.heap.get? T = some oT) (hTI : IsPair s.heap TI (.ref i1) (.ref i2))
    (h1 : s.heap.IsTupleIter i1 l1 k) (h2 : s.heap.IsTupleIter i2 l2 k) (hl1 : s.heap.IsTuple l1 xs) (hl2 : s.heap.IsTuple l2 ys) (hend : xs[k]? = none ∨ ys[k]? = none)
    (hE : ∀ h' e, (∀ c o, c ≠ z → c ≠ i1 → c ≠ i2 → s.heap.get? c = some o → h'.get? c = some o) → (∃ o, h'.get? e = some o ∧ o.cls = .type "StopIteration") → E (.ref e) { s with heap := h' }) :
    wpAny (model prog w) A (Builtin.«zip.__next__» ⟨[.ref z], []⟩) Q E s := by
  show wpAny _ _ (field (.ref z) 2 >>= _) _ _ _; refine wpAny_bind (wpAny_field hz rfl (x := .bool false) rfl ?_)
  show wpAny _ _ (field (.ref z) 3 >>= _) _ _ _; refine wpAny_bind (wpAny_field hz rfl (x := .ref TI) rfl (wpAny_bind (wpAny_seqItems hTI rfl ?_)))
  show wpAny _ _ (Builtin.SmallTypes.ownedTupleIsFree (.ref z) >>= _) _ _ _; refine wpAny_bind (wpAny_tupleHeld_zip hz hT fun g0 z0 b0 => ?_)
  simp only [Bool.false_eq_true, if_false]; refine wpAny_bind ?_
  rw [← Array.forIn_toList]; simp only [List.forIn_cons, List.forIn_nil]
  refine wpAny_bind (wpAny_bind (wpAny_holding ?_)); show wpAny _ _ (Builtin.SmallTypes.nextOf (.ref i1) >>= _) _ _ _
  cases hx : xs[k]? with
  | none => exact wpAny_bind (RZ.nextOf_tuple_end (s := { s with heap := g0 }) hh (h1.extBut b0.extBut D.i1z) (hl1.extBut b0.extBut D.l1z) hx fun g1 e b1 he => hE g1 e (fun c o n0 n1 _ q => b1 _ _ n1 (b0.extBut _ _ n0 q)) he)
  | some x =>
    have hy : ys[k]? = none := hend.elim (fun h => by rw [hx] at h; cases h) id
    refine wpAny_bind (RZ.nextOf_tuple_item (s := { s with heap := g0 }) (h1.extBut b0.extBut D.i1z) (hl1.extBut b0.extBut D.l1z) hx fun g1 e1 b1 => wpAny_pure (wpAny_pure ?_))
    refine wpAny_bind (wpAny_bind (wpAny_holding ?_)); show wpAny _ _ (Builtin.SmallTypes.nextOf (.ref i2) >>= _) _ _ _
    exact wpAny_bind (RZ.nextOf_tuple_end (s := { s with heap := g1 }) hh ((h2.extBut b0.extBut D.i2z).extBut b1.extBut D.i12.symm) ((hl2.extBut b0.extBut D.l2z).extBut b1.extBut D.l2i1) hy fun g2 e b2 he => hE g2 e (fun c o n0 n1 n2 q => b2 _ _ n2 (b1.extBut _ _ n1 (b0.extBut _ _ n0 q))) he)
/-- how the zip stands ahead of turn k, while a list S takes its pairs -/
def ZSt (h : Heap) (z TI TO i1 i2 l1 l2 S : Addr) (xs ys : Array Value) (k : Nat) : Prop :=
  (IsPair h TI (.ref i1) (.ref i2) ∧ h.IsTupleIter i1 l1 k ∧ h.IsTupleIter i2 l2 k ∧ h.IsTuple l1 xs ∧ h.IsTuple l2 ys) ∧
  ((IsZip h z TI TO .none ∧ ∃ u v, IsPair h TO u v) ∨ ∃ T f oT, IsZipHeld h z TI TO T f ∧ h.get? T = some oT ∧ T ≠ z ∧ T ≠ i1 ∧ T ≠ i2 ∧ T ≠ S)
structure Off (S z TI TO i1 i2 l1 l2 : Addr) : Prop where
  sz : S ≠ z
  sTI : S ≠ TI
  sTO : S ≠ TO
  s1 : S ≠ i1
  s2 : S ≠ i2
  sl1 : S ≠ l1
  sl2 : S ≠ l2
theorem ZSt.keep {h h' : Heap} {k : Nat} (O : Off S z TI TO i1 i2 l1 l2) (st : ZSt h z TI TO i1 i2 l1 l2 S xs ys k) (hk : ∀ b o, b ≠ S → h.get? b = some o → h'.get? b = some o) : ZSt h' z TI TO i1 i2 l1 l2 S xs ys k := by
  obtain ⟨⟨a1, a2, a3, ⟨o4, a4, b4⟩, ⟨o5, a5, b5⟩⟩, q⟩ := st
  refine ⟨⟨hk _ _ O.sTI.symm a1, a2.at fun o e => hk _ _ O.s1.symm e, a3.at fun o e => hk _ _ O.s2.symm e, ⟨o4, hk _ _ O.sl1.symm a4, b4⟩, ⟨o5, hk _ _ O.sl2.symm a5, b5⟩⟩, ?_⟩
  rcases q with ⟨q1, u, v, q2⟩ | ⟨T, f, oT, q1, q2, n1, n2, n3, n4⟩
  · exact .inl ⟨hk _ _ O.sz.symm q1, u, v, hk _ _ O.sTO.symm q2⟩
  · exact .inr ⟨T, f, oT, hk _ _ O.sz.symm q1, hk _ _ n4 q2, n1, n2, n3, n4⟩
theorem next_item {k : Nat} {x y : Value} {Q : Option Value → Shared → Prop} (D : ZipApart z TI TO i1 i2 l1 l2) (st : ZSt s.heap z TI TO i1 i2 l1 l2 S xs ys k) (hS : S < s.heap.objs.size) (hx : xs[k]? = some x) (hy : ys[k]? = some y)
    (hQ : ∀ h', ZSt h' z TI TO i1 i2 l1 l2 S xs ys (k + 1) → IsPair h' s.heap.objs.size x y → h'.objs.size = s.heap.objs.size + 1 → (∀ c o, c ≠ z → c ≠ TO → c ≠ i1 → c ≠ i2 → s.heap.get? c = some o → h'.get? c = some o) → Q (some (.ref s.heap.objs.size)) { s with heap := h' }) :
    wpAny (model prog w) A (pyNext (.ref z)) Q E s := by
  obtain ⟨⟨a1, a2, a3, a4, a5⟩, q⟩ := st
  have ge : ∀ {c o}, s.heap.get? c = some o → s.heap.objs.size ≠ c := fun e => Nat.ne_of_gt (Heap.lt_size e)
  have g1 : s.heap.objs.size ≠ i1 := by obtain ⟨o, e, _⟩ := a2; exact ge e
  have g2 : s.heap.objs.size ≠ i2 := by obtain ⟨o, e, _⟩ := a3; exact ge e
  have tup : ∀ {h' : Heap}, (∀ c o, c ≠ z → c ≠ TO → c ≠ i1 → c ≠ i2 → s.heap.get? c = some o → h'.get? c = some o) → IsPair h' TI (.ref i1) (.ref i2) ∧ h'.IsTuple l1 xs ∧ h'.IsTuple l2 ys := fun hk => by
    obtain ⟨o4, e4, f4⟩ := a4
    obtain ⟨o5, e5, f5⟩ := a5
    exact ⟨hk _ _ D.TIz D.TITO D.TIi1 D.TIi2 a1, ⟨o4, hk _ _ D.l1z D.l1TO D.l1i1 D.l1i2 e4, f4⟩, ⟨o5, hk _ _ D.l2z D.l2TO D.l2i1 D.l2i2 e5, f5⟩⟩
  rcases q with ⟨q1, u, v, q2⟩ | ⟨T, f, oT, q1, q2, n1, n2, n3, n4⟩
  · refine RZ.pyNext_zipT_item D q1 a1 q2 a2 a3 a4 a5 hx hy fun h' b1 b2 b3 b4 b5 b6 hk => ?_
    obtain ⟨t1, t2, t3⟩ := tup hk
    exact hQ h' ⟨⟨t1, b3, b4, t2, t3⟩, .inr ⟨_, false, _, b1, b5, ge q1, g1, g2, Nat.ne_of_gt hS⟩⟩ b5 b6 hk
  · have hTy : s.TypeIs (.ref z) "zip" := ⟨_, q1, rfl⟩
    unfold pyNext
    refine wpAny_bind (wpAny_attempt (wpAny_callSpecial?_slot (name := Str.ofString "__next__") hTy F.slot_zip_next (wpAny_call_entry F.slot_zip_next hTy F.entry_zip_next (held_item D q1 q2 a1 a2 a3 a4 a5 hx hy fun h' b1 b3 b4 b5 b6 hk => wpAny_pure ?_) (F.args_zip_next_1 _))))
    obtain ⟨t1, t2, t3⟩ := tup fun c o c1 _ c3 c4 e => hk c o c1 c3 c4 e
    exact hQ h' ⟨⟨t1, b3, b4, t2, t3⟩, .inr ⟨T, true, oT, b1, hk _ _ n1 n2 n3 q2, n1, n2, n3, n4⟩⟩ b5 b6 fun c o c1 _ c3 c4 e => hk c o c1 c3 c4 e
theorem next_end {k : Nat} {Q : Option Value → Shared → Prop} (hh : A.handled = none) (D : ZipApart z TI TO i1 i2 l1 l2) (st : ZSt s.heap z TI TO i1 i2 l1 l2 S xs ys k) (hend : xs[k]? = none ∨ ys[k]? = none)
    (hQ : ∀ h', (∀ c o, c ≠ z → c ≠ TO → c ≠ i1 → c ≠ i2 → s.heap.get? c = some o → h'.get? c = some o) → Q none { s with heap := h' }) : wpAny (model prog w) A (pyNext (.ref z)) Q E s := by
  obtain ⟨⟨a1, a2, a3, a4, a5⟩, q⟩ := st
  rcases q with ⟨q1, u, v, q2⟩ | ⟨T, f, oT, q1, q2, n1, n2, n3, n4⟩
  · exact RZ.pyNext_zipT_end hh D q1 a1 q2 a2 a3 a4 a5 hend hQ
  · have hTy : s.TypeIs (.ref z) "zip" := ⟨_, q1, rfl⟩
    unfold pyNext
    refine wpAny_bind (wpAny_attempt (wpAny_callSpecial?_slot (name := Str.ofString "__next__") hTy F.slot_zip_next (wpAny_call_entry F.slot_zip_next hTy F.entry_zip_next (held_end hh D q1 q2 a1 a2 a3 a4 a5 hend fun h' e hk he => ?_) (F.args_zip_next_1 _))))
    obtain ⟨o, ho, hc⟩ := he
    exact wpAny_bind (wpAny_isInstance (T := "StopIteration") (b := true) ⟨o, ho, hc⟩ isSubtype_stop (wpAny_pure (hQ _ fun c o c1 _ c3 c4 e => hk c o c1 c3 c4 e)))
end
/-- what was made: a row of new pairs, each at a greater place -/
structure Row (xs ys : Array Value) (lo : Addr) (h : Heap) (as : List Addr) : Prop where
  rise : as.Pairwise (· < ·)
  above : ∀ a ∈ as, lo < a
  at_ : ∀ (j : Nat) (a : Addr), as[j]? = some a → ∃ x y, xs[j]? = some x ∧ ys[j]? = some y ∧ IsPair h a x y
section
variable {prog : Program} {w : World} {A : Around} {E : Value → Shared → Prop} {s : Shared} {z TI TO T S i1 i2 l1 l2 : Addr} {xs ys : Array Value} {R : Result → Shared → Prop}
theorem takes (hh : A.handled = none) (D : ZipApart z TI TO i1 i2 l1 l2) (O : Off S z TI TO i1 i2 l1 l2) (lo : Addr) (hlo : ∀ b, b = S ∨ b = z ∨ b = TO ∨ b = i1 ∨ b = i2 → b ≤ lo) (res : Value) {h1 : Heap} (n : Nat) (hn : n = min xs.size ys.size) (hz : n ≤ sizeLine)
    (hR : ∀ h' acc c as, (∀ b o, b ≠ S → b ≠ z → b ≠ TO → b ≠ i1 → b ≠ i2 → h1.get? b = some o → h'.get? b = some o) → h'.get? S = some { cls := .type "list", dict := none, data := .seq acc c, slots := #[] } → as.length = n → Row xs ys lo h' as → acc.toList = as.map Value.ref → R (.ok (.ret res)) { s with heap := h' }) :
    ∀ (m k : Nat) (h : Heap) (c : Nat) (acc : Array Value) (as : List Addr), n - k = m → k ≤ n → ZSt h z TI TO i1 i2 l1 l2 S xs ys k → (∀ b o, b ≠ S → b ≠ z → b ≠ TO → b ≠ i1 → b ≠ i2 → h1.get? b = some o → h.get? b = some o) →
      h.get? S = some { cls := .type "list", dict := none, data := .seq acc c, slots := #[] } → acc.toList = as.map Value.ref → as.length = k → Row xs ys lo h as → lo < h.objs.size →
      codeAny (model prog w) A (.builtin "list.extend.loop" ⟨[.ref S, .ref z, res], []⟩) R { s with heap := h } := by
  intro m
  induction m with
  | zero =>
    intro k h c acc as hm hk st keep hS hacc hal G hlt
    refine codeAny_builtin PySem.F.entry_extend_loop ?_
    rw [Around.under_plainId PySem.F.plain_extend_loop _]
    show wpAny _ A.in1 (pyNext (.ref z) >>= _) _ _ _
    have hkn : k = n := by omega
    have hend : xs[k]? = none ∨ ys[k]? = none := by
      by_cases h3 : xs.size ≤ k
      · exact .inl (Array.getElem?_eq_none h3)
      · exact .inr (Array.getElem?_eq_none (by omega))
    refine wpAny_bind (next_end (s := { s with heap := h }) (A := A.in1) hh D st hend fun h' he => wpAny_pure (hR h' acc c as (fun b o b0 b1 b2 b3 b4 e => he b o b1 b2 b3 b4 (keep b o b0 b1 b2 b3 b4 e)) (he _ _ O.sz O.sTO O.s1 O.s2 hS) (hal.trans hkn) ⟨G.rise, G.above, fun j a hj => ?_⟩ hacc))
    obtain ⟨x, y, e1, e2, e3⟩ := G.at_ j a hj
    have ha := G.above a (List.mem_of_getElem? hj)
    have off : ∀ b, b = S ∨ b = z ∨ b = TO ∨ b = i1 ∨ b = i2 → a ≠ b := fun b hb => Nat.ne_of_gt (Nat.lt_of_le_of_lt (hlo b hb) ha)
    exact ⟨x, y, e1, e2, he a _ (off z (by simp)) (off TO (by simp)) (off i1 (by simp)) (off i2 (by simp)) e3⟩
  | succ m ih =>
    intro k h c acc as hm hk st keep hS hacc hal G hlt
    have hk1 : k < xs.size := by omega
    have hk2 : k < ys.size := by omega
    have hsz : acc.size = k := by rw [← Array.length_toList, hacc, List.length_map, hal]
    have hSl : S < h.objs.size := Heap.lt_size hS
    refine codeAny_builtin PySem.F.entry_extend_loop ?_
    rw [Around.under_plainId PySem.F.plain_extend_loop _]
    show wpAny _ A.in1 (pyNext (.ref z) >>= _) _ _ _
    refine wpAny_bind (next_item (s := { s with heap := h }) (A := A.in1) D st hSl (x := xs[k]) (y := ys[k]) (Array.getElem?_eq_getElem hk1) (Array.getElem?_eq_getElem hk2) fun h' st' hp hsz' hkp => ?_)
    dsimp only at hp hsz' hkp ⊢
    have hS' := hkp S _ O.sz O.sTO O.s1 O.s2 hS
    have up : ∀ b o, b ≠ S → h'.get? b = some o → (h'.update S (Obj.mapSeq (·.push (Value.ref h.objs.size)))).get? b = some o := fun b o hb e => (Heap.get?_update_other _ _ (Ne.symm hb)).trans e
    show wpAny _ A.in1 (updateSeq S (·.push (Value.ref h.objs.size)) >>= _) _ _ _
    have hnew : (h'.update S (Obj.mapSeq (·.push (Value.ref h.objs.size)))).get? h.objs.size = _ := up _ _ (Nat.ne_of_gt hSl) hp
    refine wpAny_bind (wpAny_updateSeq hS' rfl (wpAny_pure ⟨plainId_quiet PySem.F.plain_extend_loop _, ih (k + 1) _ _ (acc.push (Value.ref h.objs.size)) (as ++ [h.objs.size]) (by omega) (by omega) (st'.keep O up) (fun b o b0 b1 b2 b3 b4 e => up b o b0 (hkp b o b1 b2 b3 b4 (keep b o b0 b1 b2 b3 b4 e)))
      (Heap.get?_update_self _ hS' rfl) (by rw [Array.toList_push, hacc, List.map_append]; rfl) (by rw [List.length_append, hal]; rfl) ⟨?_, ?_, ?_⟩ (Nat.lt_trans hlt (Heap.lt_size hnew))⟩) (by rw [hsz]; omega) (by show (acc.push (Value.ref h.objs.size)).size ≤ sizeLine + 1; rw [Array.size_push, hsz]; omega))
    · refine List.pairwise_append.mpr ⟨G.rise, List.pairwise_singleton _ _, fun a ha b hb => ?_⟩
      rw [List.mem_singleton.mp hb]
      obtain ⟨j, hj⟩ := List.mem_iff_getElem?.mp ha
      obtain ⟨_, _, _, _, e⟩ := G.at_ j a hj
      exact Heap.lt_size e
    · intro a ha
      rcases List.mem_append.mp ha with ha | ha
      · exact G.above a ha
      · rw [List.mem_singleton.mp ha]; exact hlt
    · intro j b hj
      rcases Nat.lt_trichotomy j as.length with q | q | q
      · rw [List.getElem?_append_left q] at hj
        obtain ⟨x, y, e1, e2, e3⟩ := G.at_ j b hj
        have ha := G.above b (List.mem_of_getElem? hj)
        have off : ∀ b', b' = S ∨ b' = z ∨ b' = TO ∨ b' = i1 ∨ b' = i2 → b ≠ b' := fun b' hb => Nat.ne_of_gt (Nat.lt_of_le_of_lt (hlo b' hb) ha)
        exact ⟨x, y, e1, e2, up b _ (off S (by simp)) (hkp b _ (off z (by simp)) (off TO (by simp)) (off i1 (by simp)) (off i2 (by simp)) e3)⟩
      · subst q
        have hb : h.objs.size = b := by simpa using hj
        subst hb
        exact ⟨xs[k], ys[k], by rw [hal]; exact Array.getElem?_eq_getElem hk1, by rw [hal]; exact Array.getElem?_eq_getElem hk2, hnew⟩
      · have hnone : (as ++ [h.objs.size])[j]? = none := List.getElem?_eq_none (by rw [List.length_append, List.length_singleton]; omega)
        rw [hnone] at hj; cases hj
theorem zip_no_len : typeLookup (.type "zip") "__len__" = pure none := am_miss_of_fast (by decide +kernel)
theorem zip_no_hint : typeLookup (.type "zip") "__length_hint__" = pure none := am_miss_of_fast (by decide +kernel)
theorem hint_zip (hT : s.TypeIs (.ref z) "zip") {Q : Bool → Shared → Prop} (h : Q true s) : wpAny (model prog w) A (Builtin.List.listLengthHint (.ref z)) Q E s := by
  unfold Builtin.List.listLengthHint
  refine wpAny_bind (wpAny_specialOf hT zip_no_len ?_)
  wp_delta
  refine wpAny_ite_split (fun hab => absurd hab (by decide)) (fun _ => ?_)
  refine wpAny_ite_split (fun hab => absurd hab (by decide)) (fun _ => ?_)
  refine wpAny_bind (wpAny_specialOf hT zip_no_hint ?_)
  exact wpAny_pure h
theorem extend (hh : A.handled = none) (D : ZipApart z TI TO i1 i2 l1 l2) (O : Off S z TI TO i1 i2 l1 l2) (hlo : ∀ b, b = S ∨ b = z ∨ b = TO ∨ b = i1 ∨ b = i2 → b < s.heap.objs.size) (res : Value) (hn : min xs.size ys.size ≤ sizeLine)
    (hz : IsZip s.heap z TI TO .none) (st : ZSt s.heap z TI TO i1 i2 l1 l2 S xs ys 0) (c0 : Nat) (hS : s.heap.get? S = some { cls := .type "list", dict := none, data := .seq #[] c0, slots := #[] })
    (hR : ∀ h' acc c as, (∀ b o, b ≠ S → b ≠ z → b ≠ TO → b ≠ i1 → b ≠ i2 → s.heap.get? b = some o → h'.get? b = some o) → h'.get? S = some { cls := .type "list", dict := none, data := .seq acc c, slots := #[] } → as.length = min xs.size ys.size → Row xs ys (s.heap.objs.size - 1) h' as → acc.toList = as.map Value.ref → R (.ok (.ret res)) { s with heap := h' }) :
    wpAny (model prog w) A.in1 (Builtin.List.listExtendWith (.ref S) (.ref z) res) (fun fin s' => match fin with | .done f => R (.ok f) s' | .again c' => c'.quiet = true ∧ codeAny (model prog w) A c' R s') (fun e s' => R (.error e) s') s := by
  have pos : 0 < s.heap.objs.size := Nat.lt_of_le_of_lt (Nat.zero_le _) (Heap.lt_size hS)
  have key : ∀ (h : Heap) (c1 : Nat), (∀ b o, b ≠ S → s.heap.get? b = some o → h.get? b = some o) → h.objs.size = s.heap.objs.size → h.get? S = some { cls := .type "list", dict := none, data := .seq #[] c1, slots := #[] } → codeAny (model prog w) A (.builtin "list.extend.loop" ⟨[.ref S, .ref z, res], []⟩) R { s with heap := h } := fun h c1 hk hz hS1 =>
    takes (s := s) (h1 := s.heap) hh D O (s.heap.objs.size - 1) (fun b hb => Nat.le_sub_one_of_lt (hlo b hb)) res (min xs.size ys.size) rfl hn (fun h' acc c as k2 hS' hl hG hacc => hR h' acc c as k2 hS' hl hG hacc)
      _ 0 h c1 #[] [] rfl (Nat.zero_le _) (st.keep O hk) (fun b o b0 _ _ _ _ e => hk b o b0 e) hS1 rfl rfl ⟨List.Pairwise.nil, (fun _ ha => nomatch ha), (fun j a hj => by simp at hj)⟩ (by rw [hz]; exact Nat.sub_lt pos Nat.one_pos)
  have hT : s.TypeIs (.ref z) "zip" := ⟨_, hz, rfl⟩
  unfold Builtin.List.listExtendWith
  refine wpAny_bind (wpAny_typeOf (T := "zip") hT ?_)
  have e1 : Builtin.List.listSameRef (.ref S) (.ref z) = false := by simp [Builtin.List.listSameRef, O.sz]
  have e2 : (Value.type "zip" == Value.type "list") = false := by decide
  have e3 : (Value.type "zip" == Value.type "tuple") = false := by decide
  simp only [e1, e2, e3, Bool.or_false, Bool.false_eq_true, if_false]
  refine wpAny_bind (wpAny_pyIter_zip hz ?_)
  refine wpAny_bind (wpAny_holding (hint_zip hT ?_))
  simp only [Bool.true_or, if_true]
  refine wpAny_bind (wpAny_rule ?_)
  refine wpAny_bind ?_
  show wpAny _ _ (updateSeq S (·.push .none) >>= fun _ => updateSeq S (·.pop)) _ _ _
  refine wpAny_bind (wpAny_updateSeq hS rfl ?_)
  have hS2 := Heap.get?_update_self (Obj.mapSeq (·.push Value.none)) hS rfl
  refine wpAny_updateSeq (hz := by seq_fits) hS2 rfl ?_
  have hS3 := Heap.get?_update_self (Obj.mapSeq (·.pop)) hS2 rfl
  refine wpAny_pure ⟨plainId_quiet PySem.F.plain_extend_loop _, key _ _ (fun b o hb e => ?_) ?_ hS3⟩
  · exact (Heap.get?_update_other _ _ (Ne.symm hb)).trans ((Heap.get?_update_other _ _ (Ne.symm hb)).trans e)
  · rw [Heap.size_update, Heap.size_update]
/-- list(z), z a zip of two tuples that was just made: all in terms of what stood ahead of it -/
theorem call_list_zip {Q : Value → Shared → Prop} (hh : A.handled = none) (D : ZipApart z TI TO i1 i2 l1 l2) (hn : min xs.size ys.size ≤ sizeLine) (hz : IsZip s.heap z TI TO .none) (hTI : IsPair s.heap TI (.ref i1) (.ref i2)) {u v : Value} (hTO : IsPair s.heap TO u v)
    (h1 : s.heap.IsTupleIter i1 l1 0) (h2 : s.heap.IsTupleIter i2 l2 0) (hl1 : s.heap.IsTuple l1 xs) (hl2 : s.heap.IsTuple l2 ys)
    (hQ : ∀ h' acc c as, (∀ b o, b ≠ z → b ≠ TO → b ≠ i1 → b ≠ i2 → s.heap.get? b = some o → h'.get? b = some o) → h'.get? s.heap.objs.size = some { cls := .type "list", dict := none, data := .seq acc c, slots := #[] } → as.length = min xs.size ys.size → Row xs ys s.heap.objs.size h' as → acc.toList = as.map Value.ref → Q (.ref s.heap.objs.size) { s with heap := h' }) :
    wpAny (model prog w) A (call (.type "list") [.ref z]) Q E s := by
  refine callType_codes (Q₁ := fun obj s₁ => obj = .ref s.heap.objs.size ∧ s₁ = { s with heap := s.heap.push { cls := .type "list", data := .seq #[] } }) PySem.F.called_list (PySem.F.typeCall_list_1 _) PySem.F.entry_list_init (code_list_new _ ⟨rfl, rfl⟩) fun obj s₁ h₁ => ?_
  obtain ⟨rfl, rfl⟩ := h₁
  have hS : (s.heap.push { cls := .type "list", data := .seq #[] }).get? s.heap.objs.size = some { cls := .type "list", data := .seq #[] } := Heap.get?_push_size _ rfl
  refine ⟨⟨_, hS, rfl⟩, PySem.F.args_list_init_2 _ _, ?_⟩
  show wpAny _ _ (do let old ← Builtin.List.listItems (.ref s.heap.objs.size); Builtin.List.listUpdate (.ref s.heap.objs.size) (fun _ => #[]); letGo old.toList.reverse; Builtin.List.listExtendWith (.ref s.heap.objs.size) (.ref z) .none) _ _ _
  refine wpAny_bind ?_
  unfold Builtin.List.listItems
  refine wpAny_bind (wpAny_seqItems hS rfl (wpAny_pure ?_))
  generalize hSS : s.heap.objs.size = SS at hS ⊢
  show wpAny _ _ (updateSeq SS (fun _ => #[]) >>= fun _ => letGo (#[] : Array Value).toList.reverse >>= fun _ => Builtin.List.listExtendWith (.ref SS) (.ref z) .none) _ _ _
  refine wpAny_bind (wpAny_updateSeq hS rfl ?_)
  have hS2 := Heap.get?_update_self (Obj.mapSeq (fun _ => (#[] : Array Value))) hS rfl
  have low : ∀ {b o}, s.heap.get? b = some o → b < SS := fun e => by rw [← hSS]; exact Heap.lt_size e
  have kp : ∀ b o, s.heap.get? b = some o → ((s.heap.push { cls := .type "list", data := .seq #[] }).update SS (Obj.mapSeq (fun _ => (#[] : Array Value)))).get? b = some o := fun b o e => (Heap.get?_update_other _ _ (Nat.ne_of_gt (low e))).trans (Heap.get?_push_of_some _ e)
  have q1 : i1 < SS := by obtain ⟨_, e, _⟩ := h1; exact low e
  have q2 : i2 < SS := by obtain ⟨_, e, _⟩ := h2; exact low e
  have q3 : l1 < SS := by obtain ⟨_, e, _⟩ := hl1; exact low e
  have q4 : l2 < SS := by obtain ⟨_, e, _⟩ := hl2; exact low e
  have O : Off SS z TI TO i1 i2 l1 l2 := ⟨Nat.ne_of_gt (low hz), Nat.ne_of_gt (low hTI), Nat.ne_of_gt (low hTO), Nat.ne_of_gt q1, Nat.ne_of_gt q2, Nat.ne_of_gt q3, Nat.ne_of_gt q4⟩
  have hsz : ((s.heap.push { cls := .type "list", data := .seq #[] }).update SS (Obj.mapSeq (fun _ => (#[] : Array Value)))).objs.size = SS + 1 := by rw [Heap.size_update, Heap.size_push, hSS]
  have hl1' : Heap.IsTuple ((s.heap.push { cls := .type "list", data := .seq #[] }).update SS (Obj.mapSeq (fun _ => (#[] : Array Value)))) l1 xs := by obtain ⟨o, e, f⟩ := hl1; exact ⟨o, kp _ _ e, f⟩
  have hl2' : Heap.IsTuple ((s.heap.push { cls := .type "list", data := .seq #[] }).update SS (Obj.mapSeq (fun _ => (#[] : Array Value)))) l2 ys := by obtain ⟨o, e, f⟩ := hl2; exact ⟨o, kp _ _ e, f⟩
  refine wpAny_bind (wpAny_letGo ?_)
  refine extend (A := A.in1) hh D O (fun b hb => ?_) .none hn (kp _ _ hz) ⟨⟨kp _ _ hTI, h1.at fun o e => kp _ _ e, h2.at fun o e => kp _ _ e, hl1', hl2'⟩, .inl ⟨kp _ _ hz, u, v, kp _ _ hTO⟩⟩ _ hS2 fun h' acc c as k2 hS' hl G hacc => ?_
  · show b < ((s.heap.push { cls := .type "list", data := .seq #[] }).update SS (Obj.mapSeq (fun _ => (#[] : Array Value)))).objs.size
    rw [hsz]
    rcases hb with e | e | e | e | e
    · rw [e]; exact Nat.lt_succ_self _
    · rw [e]; exact Nat.lt_succ_of_lt (low hz)
    · rw [e]; exact Nat.lt_succ_of_lt (low hTO)
    · rw [e]; exact Nat.lt_succ_of_lt q1
    · rw [e]; exact Nat.lt_succ_of_lt q2
  · have G' : Row xs ys SS h' as := by
      have e : ((s.heap.push { cls := .type "list", data := .seq #[] }).update SS (Obj.mapSeq (fun _ => (#[] : Array Value)))).objs.size - 1 = SS := by rw [hsz]; rfl
      have G2 : Row xs ys (((s.heap.push { cls := .type "list", data := .seq #[] }).update SS (Obj.mapSeq (fun _ => (#[] : Array Value)))).objs.size - 1) h' as := G
      rw [e] at G2
      exact G2
    subst hSS
    exact ⟨rfl, hQ h' acc c as (fun b o b1 b2 b3 b4 e => k2 b o (Nat.ne_of_lt (low e)) b1 b2 b3 b4 (kp _ _ e)) hS' hl G' hacc⟩
end
def tListZip (K : PySem.W.Frag) (ta : L2.TA) : L2.TE := fun σ H Q => ta σ H fun vs H1 => ∃ (a b : Addr) (xs ys : List L2.V), vs = [.ref a, .ref b] ∧ L2.SqT K H1 a xs ∧ L2.SqT K H1 b ys ∧
  ∀ (H' : L2.Hp) (p : Addr) (ts : List Addr), (∀ c o, H1 c = some o → H' c = some o) → H1 p = none → H' p = some (.lst (ts.map L2.V.ref)) → ts.length = min xs.length ys.length →
    (∀ (j : Nat) (t : Addr), ts[j]? = some t → H1 t = none ∧ t ≠ p ∧ ∃ x y, xs[j]? = some x ∧ ys[j]? = some y ∧ H' t = some (.tup [x, y])) → Q (.ref p) H'
section
open L2
def look : List Addr → List (V × V) → Addr → Option (V × V)
  | a :: as, z :: zs, b => if b = a then some z else look as zs b
  | _, _, _ => none
theorem look_at : ∀ {as : List Addr} {zs : List (V × V)} {j : Nat} {a : Addr} {z : V × V}, as.Nodup → as[j]? = some a → zs[j]? = some z → look as zs a = some z
  | [], _, _, _, _, _, h, _ => by simp at h
  | _ :: _, [], _, _, _, _, _, h => by simp at h
  | b :: as, y :: zs, 0, a, z, _, h, k => by
    have e1 : b = a := by simpa using h
    have e2 : y = z := by simpa using k
    unfold look
    rw [if_pos e1.symm, e2]
  | b :: as, y :: zs, j + 1, a, z, hn, h, k => by
    have hn' := List.nodup_cons.mp hn
    have h' : as[j]? = some a := by simpa using h
    have ne : a ≠ b := fun e => hn'.1 (by rw [← e]; exact List.mem_of_getElem? h')
    unfold look
    rw [if_neg ne]
    exact look_at hn'.2 h' (by simpa using k)
theorem look_out : ∀ {as : List Addr} {zs : List (V × V)} {a : Addr}, a ∉ as → look as zs a = none
  | [], _, _, _ => by unfold look; rfl
  | _ :: _, [], _, _ => by unfold look; rfl
  | b :: as, y :: zs, a, h => by
    unfold look
    rw [if_neg (fun e => h (by rw [e]; exact List.mem_cons_self))]
    exact look_out fun e => h (List.mem_cons_of_mem _ e)
def lay (H : Hp) (S : Addr) (as : List Addr) (zs : List (V × V)) : Hp := fun b => if b = S then some (.lst (as.map V.ref)) else match look as zs b with
  | some (x, y) => some (.tup [x, y])
  | none => H b
variable {X : Cx} {e e2 : Expr} {ta : TA} {p p2 cpos pos : Pos}
theorem laid {pins : List (Addr × Obj)} {σ : L2.St} {H : Hp} {s : Shared} {h' : Heap} {S : Addr} {acc : Array Value} {c : Nat} {as : List Addr} {xs ys : List V} {us vs : List Value} (I : Inv X pins σ H s) (hS0 : s.heap.objs.size ≤ S) (hk : ∀ b o, s.heap.get? b = some o → h'.get? b = some o) (rx : Vals xs us) (ry : Vals ys vs)
    (hS : h'.get? S = some { cls := .type "list", dict := none, data := .seq acc c, slots := #[] }) (hz : min us.length vs.length ≤ sizeLine) (hl : as.length = min us.length vs.length) (G : Row us.toArray vs.toArray S h' as) (hacc : acc.toList = as.map Value.ref) :
    Inv X pins σ (lay H S as (xs.zip ys)) { s with heap := h' } ∧ (∀ b o, H b = some o → lay H S as (xs.zip ys) b = some o) ∧ H S = none ∧ (∀ (j : Nat) t, as[j]? = some t → H t = none ∧ t ≠ S ∧ ∃ x y, xs[j]? = some x ∧ ys[j]? = some y ∧ lay H S as (xs.zip ys) t = some (.tup [x, y])) := by
  have nd : as.Nodup := List.Pairwise.imp (fun {a b} (h : a < b) => Nat.ne_of_lt h) G.rise
  have newS : H S = none := I.hok.fresh hS0
  have new : ∀ t ∈ as, H t = none := fun t ht => I.hok.fresh (Nat.le_of_lt (Nat.lt_of_le_of_lt hS0 (G.above t ht)))
  have offS : ∀ t ∈ as, t ≠ S := fun t ht => Nat.ne_of_gt (G.above t ht)
  have low : ∀ b o, s.heap.get? b = some o → b ∉ as ∧ b ≠ S := fun b o e => ⟨fun z => absurd (Heap.lt_size e) (Nat.not_lt.mpr (Nat.le_of_lt (Nat.lt_of_le_of_lt hS0 (G.above b z)))), Nat.ne_of_lt (Nat.lt_of_lt_of_le (Heap.lt_size e) hS0)⟩
  have eS : lay H S as (xs.zip ys) S = some (.lst (as.map V.ref)) := by unfold lay; rw [if_pos rfl]
  have off : ∀ b, b ∉ as → b ≠ S → lay H S as (xs.zip ys) b = H b := fun b h1 h2 => by unfold lay; rw [if_neg h2, look_out h1]
  have kp : ∀ b u, H b = some u → lay H S as (xs.zip ys) b = some u := fun b u e => by
    rw [off b (fun z => by rw [new b z] at e; cases e) (fun z => by rw [z, newS] at e; cases e)]; exact e
  have at_ : ∀ (j : Nat) t, as[j]? = some t → ∃ x y u v, xs[j]? = some x ∧ ys[j]? = some y ∧ us[j]? = some u ∧ vs[j]? = some v ∧ RelV x u ∧ RelV y v ∧ lay H S as (xs.zip ys) t = some (.tup [x, y]) ∧ IsPair h' t u v := fun j t hj => by
    obtain ⟨u, v, e1, e2, e3⟩ := G.at_ j t hj
    have e1 : us[j]? = some u := by simpa using e1
    have e2 : vs[j]? = some v := by simpa using e2
    have hj1 : j < xs.length := by rw [rx.length]; exact (List.getElem?_eq_some_iff.mp e1).1
    have hj2 : j < ys.length := by rw [ry.length]; exact (List.getElem?_eq_some_iff.mp e2).1
    obtain ⟨u', f1, r1⟩ := rx.get (List.getElem?_eq_getElem hj1)
    obtain ⟨v', f2, r2⟩ := ry.get (List.getElem?_eq_getElem hj2)
    rw [e1] at f1; cases f1
    rw [e2] at f2; cases f2
    refine ⟨xs[j], ys[j], u, v, List.getElem?_eq_getElem hj1, List.getElem?_eq_getElem hj2, e1, e2, r1, r2, ?_, e3⟩
    unfold lay
    rw [if_neg (offS t (List.mem_of_getElem? hj)), look_at (z := (xs[j], ys[j])) nd hj (List.getElem?_zip_eq_some.mpr ⟨List.getElem?_eq_getElem hj1, List.getElem?_eq_getElem hj2⟩)]
  refine ⟨?_, kp, newS, fun j t hj => ?_⟩
  · refine I.call' (ch := []) rfl ⟨fun b o q _ _ _ => hk b o q, fun b o q _ _ _ => ⟨o.slots, hk b o q⟩, fun b o q n _ => ?_, fun b o q _ => ⟨o, hk b o q⟩, fun b xs q => kp b _ q, fun b o u q => kp b _ q, fun b ps q => ⟨#[], by rw [kp b _ q]; simp⟩⟩ (fun b u q => ?_) I.bare fun b z => by simp at z
    · obtain ⟨z1, z2⟩ := low b o q
      rw [off b z1 z2]; exact n
    · by_cases hb : b ∈ as
      · obtain ⟨j, hj⟩ := List.mem_iff_getElem?.mp hb
        obtain ⟨x, y, u', v', _, _, _, _, r1, r2, e3, e4⟩ := at_ j b hj
        rw [e3] at q; cases q
        exact ⟨by show 2 ≤ sizeLine; decide, [u', v'], .cons r1 (.cons r2 .nil), ⟨_, e4, rfl, _, rfl⟩⟩
      · by_cases hb2 : b = S
        · rw [hb2, eS] at q; cases q
          rw [hb2]
          refine ⟨by rw [List.length_map, hl]; exact hz, acc.toList, c, by rw [hacc]; exact LiI.vals_refs as, ?_⟩
          rw [Array.toArray_toList]; exact hS
        · rw [off b hb hb2] at q
          exact (I.hok b u q).stay (fun d v _ y => hk d v y) (fun d y => kp d _ y) fun d xs y => kp d _ y
  · obtain ⟨x, y, _, _, e1, e2, _, _, _, _, e3, _⟩ := at_ j t hj
    exact ⟨new t (List.mem_of_getElem? hj), offS t (List.mem_of_getElem? hj), x, y, e1, e2, e3⟩
theorem pe_listZip (hc : X.calm = true) (hg : Gl X "list") (hm : X.mg "list" = none) (hg2 : Gl X "zip") (hm2 : X.mg "zip" = none) (ha : PA X [e, e2] ta) (hs1 : starEach [.Call (.Name "zip" p2) [e, e2] [] cpos] X.env = (false, eval (.Call (.Name "zip" p2) [e, e2] [] cpos) X.env) :: starEach [] X.env := by rfl)
    (hs : starEach [e, e2] X.env = (false, eval e X.env) :: starEach [e2] X.env := by rfl) (hpl : (backTo cpos (starEach [e2] X.env)).any (·.1) = false := by rfl) :
    PE X (.Call (.Name "list" p) [.Call (.Name "zip" p2) [e, e2] [] cpos] [] pos) (tListZip X.K ta) := by
  refine ⟨fun pins s σ H Q I h => ?_⟩
  refine wpAny_Call_Name_kw (ld_blt (u := .type "list") I hg hm (by first | rfl | decide +kernel) ?_ (by decide) (by decide))
  refine PyProof.Rows.callWith_type1 ?_ hs1 rfl
  rw [hs1]
  show wpAny _ _ (spliced ((false, eval (.Call (.Name "zip" p2) [e, e2] [] cpos) X.env) :: backTo pos (starEach [] X.env))) _ _ s
  refine Calls.spliced_cons ?_
  refine Call_ (ld_blt I hg2 hm2 PyProof.Rows.boot_zip (PyProof.Rows.callWith_type1 (thn (ha.run cpos pins s σ H _ I h) fun us s1 ⟨vs, H1, I1, r1, q1⟩ => ?_) hs hpl))
  obtain ⟨a, b, xs, ys, ex, hx, hy, q⟩ := q1
  subst ex
  cases r1 with
  | cons r rr =>
    cases rr with
    | cons r' rr =>
      cases rr; cases r; cases r'
      obtain ⟨us, rx, ta, za⟩ := I1.tuple hx
      obtain ⟨vs, ry, tb, zb⟩ := I1.tuple hy
      have t1 : s1.heap.IsTuple a us.toArray := ta
      have t2 : s1.heap.IsTuple b vs.toArray := tb
      have la : a < s1.heap.objs.size := by obtain ⟨_, e, _⟩ := t1; exact Heap.lt_size e
      have lb : b < s1.heap.objs.size := by obtain ⟨_, e, _⟩ := t2; exact Heap.lt_size e
      refine RZ.call_zipT t1 t2 fun h' hz hTI hTO h1 h2 hsz hk => ?_
      refine Calls.spliced_nil ?_
      have g1 : Heap.IsTuple h' a us.toArray := by obtain ⟨o, e, f⟩ := t1; exact ⟨o, hk _ _ e, f⟩
      have g2 : Heap.IsTuple h' b vs.toArray := by obtain ⟨o, e, f⟩ := t2; exact ⟨o, hk _ _ e, f⟩
      have hmin : min us.toArray.size vs.toArray.size ≤ sizeLine := by have := rx.length; have := ry.length; simp only [List.size_toArray]; omega
      refine call_list_zip (s := { s1 with heap := h' }) (I1.ok.hd hc) (ktu_apart s1.heap.objs.size a b la lb) hmin hz hTI hTO h1 h2 g1 g2 fun h2 acc c as hk2 hS hl G hacc => ?_
      have hge : s1.heap.objs.size ≤ h'.objs.size := by rw [hsz]; exact Nat.le_add_right _ _
      have kk : ∀ c o, s1.heap.get? c = some o → h2.get? c = some o := fun c o e => by
        have hlt := Heap.lt_size e
        have ne : ∀ n : Nat, c ≠ s1.heap.objs.size + n := fun n => Nat.ne_of_lt (Nat.lt_of_lt_of_le hlt (Nat.le_add_right _ _))
        exact hk2 c o (ne 4) (ne 3) (Nat.ne_of_lt hlt) (ne 1) (hk c o e)
      have hl : as.length = min us.length vs.length := by simpa using hl
      obtain ⟨J, k1, k2, k3⟩ := laid (S := h'.objs.size) I1 hge kk rx ry hS (by simpa using hmin) hl G hacc
      exact ⟨.ref _, _, J, rfl, q _ _ as k1 k2 (by unfold lay; rw [if_pos rfl]) (by rw [hl, rx.length, ry.length]) k3⟩
end
end ZL
namespace Z
open PySem L2
section
variable {K : PySem.W.Frag} {τ : T} {μ μ1 μ2 : M} {H H1 H2 H' : Hp} {σ : L2.St} {Φ : D → M → Prop} {ta : TA}
theorem rels_by : ∀ {ds es : List D} {xs ys : List V} {ts : List Addr}, Rels K H xs ds → Rels K H ys es → ts.length = min xs.length ys.length → (∀ (j : Nat) (t : Addr), ts[j]? = some t → ∃ x y, xs[j]? = some x ∧ ys[j]? = some y ∧ H t = some (.tup [x, y])) → Rels K H (ts.map V.ref) (zipD ds es)
  | [], _, _, _, ts, .nil, _, hl, _ => by
    have e : ts = [] := List.length_eq_zero_iff.mp (by simpa using hl)
    subst e; unfold zipD; exact .nil
  | _ :: _, [], _, _, ts, .cons _ _, .nil, hl, _ => by
    have e : ts = [] := List.length_eq_zero_iff.mp (by simpa using hl)
    subst e; unfold zipD; exact .nil
  | d :: ds, f :: es, _, _, ts, .cons (v := x) (vs := xs) rx r1, .cons (v := y) (vs := ys) ry r2, hl, h => by
    match ts, hl, h with
    | [], hl, _ => simp only [List.length_cons, List.length_nil] at hl; omega
    | t :: ts, hl, h =>
      obtain ⟨x', y', e1, e2, e3⟩ := h 0 t rfl
      cases e1; cases e2
      unfold zipD
      exact .cons (.tup (.inl e3) (.cons rx (.cons ry .nil))) (rels_by r1 r2 (by simp only [List.length_cons] at hl; omega) fun j u hj => by
        obtain ⟨x', y', e1, e2, e3⟩ := h (j + 1) u (by simpa using hj)
        exact ⟨x', y', by simpa using e1, by simpa using e2, e3⟩)
theorem a_listZip (h : AA K ta τ μ fun ds μ1 => ∃ xs ys, ds = [.tup xs, .tup ys] ∧ ∀ p, μ1 p = none → Φ (.ref p) (μ1.set p (.lst (zipD xs ys)))) : AE K (ZL.tListZip K ta) τ μ Φ := fun σ H s c Q k => h σ H s c _ fun ds μ1 vs H1 f1 c1 r1 ⟨xs, ys, e, q⟩ => by
  subst e
  cases r1 with
  | cons r rr =>
    cases rr with
    | cons r' rr =>
      cases rr
      cases r with
      | @tup a us _ ha hr =>
        cases r' with
        | @tup b ws _ hb hr2 =>
          refine ⟨a, b, us, ws, rfl, ha.sq, hb.sq, fun H' p ts kp hp hS hl hat => ?_⟩
          have tx : Tx H1 H' := ⟨fun a xs e => kp _ _ e, fun a o xs e => kp _ _ e, fun a q e => kp _ _ e⟩
          have c2 : Z.Con K H' μ1 := fun x m e => by
            have r := c1 x m e
            have e2 : H' x = H1 x := by
              cases m <;> (obtain ⟨vs, h1, _⟩ := r; rw [h1]; exact kp _ _ h1)
            exact r.mono tx e2
          have np : μ1 p = none := c1.free hp
          refine k _ (μ1.set p (.lst (zipD xs ys))) _ H' (fun x o n e => ?_) (con_back c2 ⟨_, hS, rels_by (Rels.mono tx _ _ hr) (Rels.mono tx _ _ hr2) hl fun j t hj => (hat j t hj).2.2⟩) (.ref p) (q p np)
          obtain ⟨e1, n1⟩ := f1 x o n e
          exact ⟨kp _ _ e1, by rw [set_ne (fun z => by rw [z, hp] at e1; cases e1)]; exact n1⟩
end
end Z
namespace Z
open PySem L2
section
variable {K : PySem.W.Frag} {τ : T} {μ μ1 μ2 : M} {H H1 H2 H' : Hp} {σ : L2.St} {Φ : D → M → Prop} {ta tl te : TE} {tt tt1 : TT} {g g1 : TG} {wi wi1 : TI} {d e : D}
theorem cutD_all {ds : List D} {lo hi : Option Int} (h : HT.sIx ds.length 0 lo = 0 ∧ HT.sIx ds.length ds.length hi = ds.length) : cutD ds lo hi = ds := by
  unfold cutD
  rw [h.1, h.2]
  simp
theorem rs_tupA {ds : List D} {lo hi : Option Int} (q : Φ (.tup (cutD ds lo hi)) μ) : RS K (rSlA K) (.tup ds) lo hi μ Φ := fun H x c r Q k => by
  cases r with
  | @tup a xs _ ht hr =>
    refine ⟨a, xs, rfl, ht.sq, fun hw => ?_, fun hw p hp => k _ μ _ _ (fr_new hp) (con_new hp c) (.tup (.inl upd_same) (Rels.mono (tx_new hp) _ _ (hr.cut lo hi))) q⟩
    rw [hr.length] at hw
    rw [cutD_all hw] at q
    exact k _ μ _ _ Fr.refl c (.tup ht hr) q
theorem sl_tupAK {X : Cx} {K : PySem.W.Frag} (h : X.K = K) : SlR X (rSlA K) := by subst h; exact sl_tupA
theorem ro_catA {ds es : List D} (hz : ds.length + es.length ≤ sizeLine) (q : Φ (.tup (ds ++ es)) μ) : RO K (rCatA K) (.tup ds) (.tup es) μ Φ := fun H x y c r1 r2 Q k => by
  cases r1 with
  | @tup a xs _ ht hr =>
    cases r2 with
    | @tup b ys _ ht2 hr2 =>
      refine ⟨a, b, xs, ys, rfl, rfl, ht.sq, ht2.sq, by rw [hr.length, hr2.length]; exact hz, fun z => ?_, fun _ z => ?_, fun _ _ p hp => ?_⟩
      · subst z; cases hr; exact k _ μ _ _ Fr.refl c (.tup ht2 hr2) q
      · subst z; cases hr2; rw [List.append_nil] at q; exact k _ μ _ _ Fr.refl c (.tup ht hr) q
      · exact k _ μ _ _ (fr_new hp) (con_new hp c) (.tup (.inl upd_same) (Rels.mono (tx_new hp) _ _ (hr.append hr2))) q
theorem rc_minL {ns : List Int} {a : Addr} (h : μ a = some (.lst (ns.map D.int))) (h0 : 0 < ns.length) (q : ∀ m, m ∈ ns → (∀ y, y ∈ ns → m ≤ y) → Φ (.int m) μ) : RC K (rMin K) [.ref a] μ Φ := fun H xs c r1 Q k => by
  cases r1 with
  | cons r b =>
    cases r; cases b
    obtain ⟨xs, hx, hr⟩ := c _ _ h
    have e := rels_int hr
    subst e
    exact ⟨a, ns, rfl, SqL.of hx, h0, fun m h1 h2 => k _ μ _ H Fr.refl c (.int _) (q m h1 h2)⟩
theorem rc_maxL {ns : List Int} {a : Addr} (h : μ a = some (.lst (ns.map D.int))) (h0 : 0 < ns.length) (q : ∀ m, m ∈ ns → (∀ y, y ∈ ns → y ≤ m) → Φ (.int m) μ) : RC K (rMax K) [.ref a] μ Φ := fun H xs c r1 Q k => by
  cases r1 with
  | cons r b =>
    cases r; cases b
    obtain ⟨xs, hx, hr⟩ := c _ _ h
    have e := rels_int hr
    subst e
    exact ⟨a, ns, rfl, SqL.of hx, h0, fun m h1 h2 => k _ μ _ H Fr.refl c (.int _) (q m h1 h2)⟩
theorem walk_ZL {a b : Addr} {vs ws : List V} {ds es : List D} (hr : Rels K H1 vs ds) (hr2 : Rels K H1 ws es) : WalkD K (Itz K a b) (zipD ds es) (fun c => c = a ∨ c = b) (fun H' => (H' a = some (.lst vs) ∧ Rels K H' vs ds) ∧ H' b = some (.lst ws) ∧ Rels K H' ws es) where
  keep := fun H H' μ μ' c o g f => ⟨⟨(f a _ (o a (.inl rfl)) g.1.1).1, Rels.mono (f.tx c) _ _ g.1.2⟩, (f b _ (o b (.inr rfl)) g.2.1).1, Rels.mono (f.tx c) _ _ g.2.2⟩
  oo := fun _ c g h => by
    rcases h with h | h
    · subst h; exact ⟨_, g.1.1⟩
    · subst h; exact ⟨_, g.2.1⟩
  go := fun i H' hi g => by
    rw [zipD_len] at hi
    have hv : i < vs.length := by rw [hr.length]; omega
    have hw : i < ws.length := by rw [hr2.length]; omega
    exact ⟨vs, ws, vs[i], ws[i], SqL.of g.1.1, SqL.of g.2.1, List.getElem?_eq_getElem hv, List.getElem?_eq_getElem hw⟩
  stop := fun i H' hi g => by
    rw [zipD_len] at hi
    refine ⟨vs, ws, SqL.of g.1.1, SqL.of g.2.1, ?_⟩
    rw [hr.length, hr2.length]
    omega
  yld := fun i H' v H2 hi g y => by
    obtain ⟨T0, x, y, e, hT, e2, q1, q2⟩ := y
    obtain ⟨x', y', h1, h2, h3⟩ := zipD_get hi
    obtain ⟨d1, k1, r1⟩ := g.1.2.getV (q1 vs (SqL.of g.1.1))
    obtain ⟨d2, k2, r2⟩ := g.2.2.getV (q2 ws (SqL.of g.2.1))
    rw [h1] at k1; cases k1
    rw [h2] at k2; cases k2
    refine ⟨_, h3, ?_, .inr ⟨T0, _, hT, e2⟩⟩
    subst e e2
    exact .tup (.inl upd_same) (.cons (Rel.mono (tx_new hT) _ _ r1) (.cons (Rel.mono (tx_new hT) _ _ r2) .nil))
variable {Ψ : List D → M → (M → M) → Prop}
theorem ai_ZL {ta : TA} (h : AA K ta τ μ fun ds μ1 => ∃ a b xs ys, ds = [.ref a, .ref b] ∧ a ≠ b ∧ μ1 a = some (.lst xs) ∧ μ1 b = some (.lst ys) ∧ Ψ (zipD xs ys) ((μ1.del a).del b) (fun μ' => (μ'.set b (.lst ys)).set a (.lst xs))) : AI K (RZ.iZipA K ta) τ μ Ψ := fun σ H s c R k => h σ H s c _ fun ds μ1 vs H1 f1 c1 r1 ⟨a, b, xs, ys, e, hne, ha, hb, q⟩ => by
  subst e
  cases r1 with
  | cons r rr =>
    cases rr with
    | cons r' rr =>
      cases rr; cases r; cases r'
      obtain ⟨us, hx, hr⟩ := c1 a _ ha
      obtain ⟨ws, hy, hr2⟩ := c1 b _ hb
      have cd : Z.Con K H1 ((μ1.del a).del b) := (c1.sub del_sub).sub del_sub
      have da : ((μ1.del a).del b) a = none := by rw [del_ne hne, del_same]
      have db : ((μ1.del a).del b) b = none := del_same
      refine ⟨a, b, us, ws, rfl, .inl ⟨SqL.of hx, SqL.of hy, k _ _ _ _ H1 _ _ (f1.tx c) cd (walk_ZL hr hr2) ⟨⟨hx, hr⟩, hy, hr2⟩ (fun x z => by rcases z with z | z <;> rw [z] <;> assumption) ⟨fun μ' H' g => ?_, fun μ' H' g c' => ?_, fun μ' p hp n => ?_, fun x o n e => (f1 x o n e).1⟩ q⟩⟩
      · intro x o n e
        obtain ⟨e1, n1⟩ := f1 x o n e
        have xa : x ≠ a := fun z => by rw [z, ha] at n1; cases n1
        have xb : x ≠ b := fun z => by rw [z, hb] at n1; cases n1
        obtain ⟨e2, n2⟩ := g x o (by rw [del_ne xb, del_ne xa]; exact n1) e1
        exact ⟨e2, by rw [set_ne xa, set_ne xb]; exact n2⟩
      · exact con_back (m := .lst xs) (con_back (m := .lst ys) c' ⟨ws, (g b _ db hy).1, Rels.mono (g.tx cd) _ _ hr2⟩) ⟨us, (g a _ da hx).1, Rels.mono (g.tx cd) _ _ hr⟩
      · have pa : p ≠ a := fun z => by rw [z, hx] at hp; cases hp
        have pb : p ≠ b := fun z => by rw [z, hy] at hp; cases hp
        rw [set_ne pa, set_ne pb]; exact n
theorem slots_wipe {vs : List Nat} (hv : ∀ j, j ∈ vs → ∀ d, τ[j]? ≠ some (some d)) (s : Slots K H τ σ) : Slots K H τ (wipe σ vs) := ⟨by rw [wipe_length]; exact s.1, fun i d e => by
  obtain ⟨v, h1, h2⟩ := s.2 i d e
  exact ⟨v, by rw [wipe_at, if_neg fun z => hv i z d e]; exact h1, h2⟩⟩
theorem fr_set2 {a : Addr} {m m' : MO} (f : Fr μ μ1 H H1) : Fr (μ.set a m) (μ1.set a m') H H1 := fun x o n e => by
  have hx : x ≠ a := fun z => by rw [z, set_same] at n; cases n
  rw [set_ne hx] at n
  obtain ⟨e1, n1⟩ := f x o n e
  exact ⟨e1, by rw [set_ne hx]; exact n1⟩
theorem con_set {a : Addr} {m : MO} (n : μ a = none) (c : Z.Con K H (μ.set a m)) : Z.Con K H μ := c.sub (Sub.set n)
structure LcIn (K : PySem.W.Frag) (Dl : Addr) (μ0 : M) (H0 : Hp) (acc0 acc : List D) (μ' : M) (H' : Hp) : Prop where
  fr : Fr (μ0.set Dl (.lst acc0)) (μ'.set Dl (.lst acc)) H0 H'
  con : Z.Con K H' (μ'.set Dl (.lst acc))
  no : μ' Dl = none
theorem lc_stepIn {js : List Nat} {dec : D → List D → Prop} {Dl : Addr} {μ0 μ' : M} {H0 : Hp} {acc0 acc : List D} {P : List D → M → Prop} {Nx : Hp → Prop} {v : V} {x : D} (hg : TgOk K g js dec) (s : Slots K H' τ σ) (L : LcIn K Dl μ0 H0 acc0 acc μ' H') (rx : Rel K H' v x) (ht : LcTurn K τ tt te js dec x acc μ' P)
    (hn : ∀ acc2 μ2 H2, LcIn K Dl μ0 H0 acc0 acc2 μ2 H2 → P acc2 μ2 → Nx H2) :
    g v (wipe σ js) H' fun σ2 H2 => wipe σ2 js = wipe σ js ∧ tt σ2 H2 fun b H3 => if b = true then te σ2 H3 fun y H4 => ∃ acc, H4 Dl = some (.lst acc) ∧ acc.length < sizeLine ∧ Nx (upd H4 Dl (.lst (acc ++ [y]))) else Nx H3 := by
  obtain ⟨xs, hd, hl, ht⟩ := ht
  obtain ⟨vs0, hv0, hr0⟩ := L.con Dl _ set_same
  have c' : Z.Con K H' μ' := con_set L.no L.con
  refine hg x xs v _ H' hd rx _ fun vs hvs => ⟨by rw [wipe_sets (fun _ h => h), wipe_wipe], ?_⟩
  have s' : Slots K H' (sets τ js xs) (sets (wipe σ js) js vs) := slots_block s hvs hl
  refine ht _ H' s' c' _ fun b μ1 H1 f1 c1 p => ?_
  have n1 : μ1 Dl = none := (f1 Dl _ L.no hv0).2
  have h1 : H1 Dl = some (.lst vs0) := (f1 Dl _ L.no hv0).1
  cases b with
  | false => exact hn acc μ1 H1 ⟨L.fr.trans (fr_set2 f1), con_back (m := .lst acc) c1 ⟨vs0, h1, Rels.mono (f1.tx c') _ _ hr0⟩, n1⟩ p
  | true =>
    refine (show AE K te _ μ1 _ from p) _ H1 (s'.mono (f1.tx c')) c1 _ fun y μ2 w H2 f2 c2 r2 ⟨hz, p2⟩ => ?_
    have n2 : μ2 Dl = none := (f2 Dl _ n1 h1).2
    have h2 : H2 Dl = some (.lst vs0) := (f2 Dl _ n1 h1).1
    have hr2 : Rels K H2 vs0 acc := Rels.mono ((f1.trans f2).tx c') _ _ hr0
    obtain ⟨t3, c3⟩ := upd_out (o := .lst (vs0 ++ [w])) c2 n2 h2 (fun _ z => by cases z)
    refine ⟨vs0, h2, by rw [hr0.length]; exact hz, hn _ μ2 _ ⟨fun a o n e => ?_, con_back (m := .lst (acc ++ [y])) c3 ⟨_, upd_same, Rels.mono t3 _ _ (hr2.append (.cons r2 .nil))⟩, n2⟩ p2⟩
    have ha : a ≠ Dl := fun z => by rw [z, set_same] at n; cases n
    obtain ⟨e2, m2⟩ := (L.fr.trans (fr_set2 (m := .lst acc) (m' := .lst acc) (f1.trans f2))) a o n e
    exact ⟨by rw [upd_ne ha]; exact e2, by rw [set_ne ha] at m2 ⊢; exact m2⟩
theorem a_lc2 {js js1 vs : List Nat} {dec dec1 : D → List D → Prop} (hg : TgOk K g js dec) (hg1 : TgOk K g1 js1 dec1) (hv : ∀ j, j ∈ vs → ∀ d, τ[j]? ≠ some (some d)) (hjs : ∀ j ∈ js, j ∈ vs)
    (h : AI K wi τ μ fun xs μw back => ∃ P : Nat → List D → M → Prop, P 0 [] μw ∧
      (∀ (i : Nat) x acc μ', xs[i]? = some x → P i acc μ' → ∃ xd, dec x xd ∧ xd.length = js.length ∧ AT K tt (sets τ js xd) μ' fun b μ1 => if b = true then
          ∀ Dl, μ1 Dl = none → AI K wi1 (sets τ js xd) (μ1.set Dl (.lst acc)) fun ys μw1 back1 => ∃ (μv : M) (P1 : Nat → List D → M → Prop), μw1 = μv.set Dl (.lst acc) ∧ μv Dl = none ∧ P1 0 acc μv ∧
            (∀ (j : Nat) y acc μ', ys[j]? = some y → P1 j acc μ' → LcTurn K (sets τ js xd) tt1 te js1 dec1 y acc μ' (P1 (j + 1))) ∧
            ∀ acc' μ', P1 ys.length acc' μ' → μ' Dl = none → ∃ μo : M, back1 (μ'.set Dl (.lst acc')) = μo.set Dl (.lst acc') ∧ μo Dl = none ∧ P (i + 1) acc' μo
        else P (i + 1) acc μ1) ∧
      ∀ acc μ', P xs.length acc μ' → ∀ p, back μ' p = none → Φ (.ref p) ((back μ').set p (.lst acc))) :
    AE K (tLc2 wi g tt wi1 g1 tt1 te vs js1) τ μ Φ := fun σ H s c Q k => by
  refine h σ H s c _ fun J xs out G H1 μw back tx c1 W g1' o1 B ⟨P, p0, hs, hd⟩ Dl hD => ?_
  have s1 := slots_wipe hv (s.mono tx)
  refine ⟨fun i m H' => m = xs.length - i ∧ i ≤ xs.length ∧ ∃ acc μ', LcAt K Dl μw H1 acc μ' H' ∧ P i acc μ', ⟨xs.length, by omega, Nat.zero_le _, [], μw, lc_start c1 hD, p0⟩, ?_⟩
  rintro i m H' ⟨rfl, hi, acc, μ', L, p⟩
  have gH : G H' := W.keep _ _ _ _ c1 o1 g1' L.fr
  by_cases hlt : i < xs.length
  · refine .inr ⟨W.go i H' hlt gH, fun H2 => ∃ acc2 μ2, LcAt K Dl μw H1 acc2 μ2 H2 ∧ P (i + 1) acc2 μ2, fun H2 ⟨acc2, μ2, L2, p2⟩ => ⟨xs.length - (i + 1), by omega, rfl, hlt, acc2, μ2, L2, p2⟩, fun v H2 y => ?_⟩
    obtain ⟨x, hx, rx, hH⟩ := W.yld i H' v H2 hlt gH y
    have L2 : LcAt K Dl μw H1 acc μ' H2 := by
      rcases hH with e | ⟨T0, vs, hT, e⟩
      · rw [e]; exact L
      · obtain ⟨f2, c2⟩ := yld_ok (vs := vs) L.con hT
        obtain ⟨ws, hw, hr⟩ := L.at_
        rw [e]
        exact ⟨L.fr.trans f2, c2, L.no, ws, by rw [upd_ne (fun z => by rw [z, hT] at hw; cases hw)]; exact hw, Rels.mono (tx_new hT) _ _ hr⟩
    obtain ⟨xd, hdx, hlx, hat⟩ := hs i x acc μ' hx p
    refine hg x xd v _ H2 hdx rx _ fun us hus => ⟨by rw [wipe_sets hjs, wipe_wipe], ?_⟩
    have s2 : Slots K H2 (sets τ js xd) (sets (wipe σ vs) js us) := slots_sets hus (s1.mono (L2.fr.tx c1))
    refine hat _ H2 s2 L2.con _ fun b μ1 H3 f3 c3 p3 => ?_
    obtain ⟨vs0, hv0, hr0⟩ := L2.at_
    have n3 : μ1 Dl = none := (f3 Dl _ L2.no hv0).2
    have h3 : H3 Dl = some (.lst vs0) := (f3 Dl _ L2.no hv0).1
    have hr3 : Rels K H3 vs0 acc := Rels.mono (f3.tx L2.con) _ _ hr0
    cases b with
    | false => exact ⟨acc, μ1, ⟨L2.fr.trans f3, c3, n3, vs0, h3, hr3⟩, p3⟩
    | true =>
      have s3 : Slots K H3 (sets τ js xd) (sets (wipe σ vs) js us) := s2.mono (f3.tx L2.con)
      have c3' : Z.Con K H3 (μ1.set Dl (.lst acc)) := con_back (m := .lst acc) c3 ⟨vs0, h3, hr3⟩
      refine (show ∀ Dl, μ1 Dl = none → _ from p3) Dl n3 _ H3 s3 c3' _ fun J1 ys out1 G1 H4 μw1 back1 tx1 c4 W1 gg1 oo1 B1 ⟨μv, P1, ew, nv, q0, qs, qd⟩ => ?_
      subst ew
      have s4 := s3.mono tx1
      refine ⟨fun j m H' => m = ys.length - j ∧ j ≤ ys.length ∧ ∃ acc' μ', LcIn K Dl μv H4 acc acc' μ' H' ∧ P1 j acc' μ', ⟨ys.length, by omega, Nat.zero_le _, acc, μv, ⟨Fr.refl, c4, nv⟩, q0⟩, ?_⟩
      rintro j m H5 ⟨rfl, hj, acc5, μ5, L5, p5⟩
      have gH5 : G1 H5 := W1.keep _ _ _ _ c4 oo1 gg1 L5.fr
      by_cases hlt5 : j < ys.length
      · refine .inr ⟨W1.go j H5 hlt5 gH5, fun H6 => ∃ acc' μ', LcIn K Dl μv H4 acc acc' μ' H6 ∧ P1 (j + 1) acc' μ', fun H6 ⟨acc6, μ6, L6, p6⟩ => ⟨ys.length - (j + 1), by omega, rfl, hlt5, acc6, μ6, L6, p6⟩, fun v6 H6 y6 => ?_⟩
        obtain ⟨x6, hx6, rx6, hH6⟩ := W1.yld j H5 v6 H6 hlt5 gH5 y6
        have L6 : LcIn K Dl μv H4 acc acc5 μ5 H6 := by
          rcases hH6 with e | ⟨T0, vs, hT, e⟩
          · rw [e]; exact L5
          · obtain ⟨f2, c2⟩ := yld_ok (vs := vs) L5.con hT
            rw [e]
            exact ⟨L5.fr.trans f2, c2, L5.no⟩
        exact lc_stepIn hg1 (s4.mono (L6.fr.tx c4)) L6 rx6 (qs j x6 acc5 μ5 hx6 p5) fun acc7 μ7 H7 L7 p7 => ⟨acc7, μ7, L7, p7⟩
      · have e : j = ys.length := by omega
        subst e
        obtain ⟨μo, eo, no, po⟩ := qd acc5 μ5 p5 L5.no
        have fb := B1.fr _ _ L5.fr
        have cb := B1.con _ _ L5.fr L5.con
        rw [eo] at fb cb
        obtain ⟨vs9, hv9, hr9⟩ := cb Dl _ set_same
        refine .inl ⟨W1.stop _ H5 (Nat.le_refl _) gH5, acc5, μo, ⟨fun a o n e => ?_, con_set no cb, no, vs9, hv9, hr9⟩, po⟩
        have ha : a ≠ Dl := fun z => by rw [z, hD] at e; cases e
        obtain ⟨e3, n3'⟩ := (L2.fr.trans f3) a o n e
        obtain ⟨e5, n5⟩ := fb a o (by rw [set_ne ha]; exact n3') e3
        exact ⟨e5, by rw [set_ne ha] at n5; exact n5⟩
  · have e : i = xs.length := by omega
    subst e
    obtain ⟨vs, hv, hr⟩ := L.at_
    refine .inl ⟨W.stop _ H' (Nat.le_refl _) gH, ?_⟩
    have hbn : back μ' Dl = none := B.nw _ _ hD L.no
    have fb := B.fr _ _ L.fr
    have cb := B.con _ _ L.fr L.con
    refine k _ _ _ H' (fun b o n e => ?_) (con_back (m := .lst acc) cb ⟨vs, hv, hr⟩) (.ref Dl) (hd acc μ' p Dl hbn)
    obtain ⟨e2, n2⟩ := fb b o n e
    have hb : b ≠ Dl := fun z => by
      have e3 := B.old b o n e
      rw [z, hD] at e3; cases e3
    exact ⟨e2, by rw [set_ne hb]; exact n2⟩
end
end Z
namespace Z
open PySem L2
/-- plain, and n deep at most -/
structure OkN (n : Nat) (d : D) : Prop where
  p : D.plain d = true
  l : (D.py d).canLay0 = true
  d : (D.py d).depth ≤ n
theorem OkN.mono {n m : Nat} {d : D} (h : OkN n d) (l : n ≤ m) : OkN m d := ⟨h.p, h.l, Nat.le_trans h.d l⟩
theorem OkN.ok {n : Nat} {d : D} (h : OkN n d) (l : n ≤ 64) : D.ok d = true := by
  unfold D.ok SeqAt.shaped
  rw [h.p, h.l, decide_eq_true (Nat.le_trans h.d l)]
  rfl
theorem okn_int {i : Int} : OkN 0 (.int i) := ⟨by simp only [D.plain], by simp only [D.py, PyData.canLay0], by simp only [D.py, PyData.depth]; exact Nat.le_refl _⟩
theorem okn_all {n : Nat} : ∀ {ds : List D}, (∀ x ∈ ds, OkN n x) → D.plains ds = true ∧ PyData.canLayAll0 (D.pys ds) = true ∧ PyData.depthAll (D.pys ds) ≤ n
  | [], _ => ⟨by simp only [D.plains], by simp only [D.pys, PyData.canLayAll0], by simp only [D.pys, PyData.depthAll]; exact Nat.zero_le _⟩
  | x :: ds, h => by
    obtain ⟨h1, h2, h3⟩ := okn_all (ds := ds) fun y hy => h y (List.mem_cons_of_mem _ hy)
    have hx := h x List.mem_cons_self
    refine ⟨by simp only [D.plains, hx.p, h1, Bool.and_self], by simp only [D.pys, PyData.canLayAll0, hx.l, h2, Bool.and_self], ?_⟩
    simp only [D.pys, PyData.depthAll]
    exact Nat.max_le.mpr ⟨hx.d, h3⟩
theorem okn_tup {n : Nat} {ds : List D} (h : ∀ x ∈ ds, OkN n x) : OkN (n + 1) (.tup ds) := by
  obtain ⟨h1, h2, h3⟩ := okn_all h
  exact ⟨by simp only [D.plain]; exact h1, by simp only [D.py, PyData.canLay0]; exact h2, by simp only [D.py, PyData.depth]; omega⟩
theorem okn_pt {x y : Int} : OkN 1 (pt x y) := okn_tup fun z hz => by
  simp only [List.mem_cons, List.not_mem_nil, or_false] at hz
  rcases hz with rfl | rfl <;> exact okn_int
theorem eqv_self {n : Nat} {d : D} (h : OkN n d) : D.eqv d d = true := SeqAt.eqv_refl _ h.l
end Z
namespace Z
open PySem L2
section
variable {K : PySem.W.Frag} {μ μ' : M} {Φ : D → M → Prop} {a b l : Addr} {X Y : MO}
theorem sb_own (h : SubB b μ μ') (hn : μ l = none) : SubB b μ (μ'.set l Y) := fun a m n e => by
  rw [set_ne (fun z => by subst z; rw [hn] at e; cases e)]
  exact h a m n e
theorem set_del {p : Addr} {m : MO} (h : μ p = none) : (μ.set p m).del p = μ := by
  funext x
  by_cases hx : x = p
  · subst hx; rw [del_same, h]
  · rw [del_ne hx, set_ne hx]
theorem cut1 {ds : List D} : cutD ds (some 1) none = ds.drop 1 := by
  unfold cutD
  have e1 : HT.sIx ds.length 0 (some 1) = min 1 ds.length := HT.sIx_nat ds.length 0 1
  rw [e1, HT.sIx_none]
  rcases ds with _ | ⟨x, ds⟩
  · simp
  · have e2 : min 1 (x :: ds).length = 1 := by simp only [List.length_cons]; omega
    rw [e2]
    simp
/-- a list of the store against an empty one -/
theorem ro_neNil {n : Nat} {ds : List D} (h1 : μ a = some (.lst ds)) (h2 : μ b = some (.lst [])) (ok : ∀ x ∈ ds, OkN n x) (hn : n < 64) (q : Φ (.bl (!ds.isEmpty)) μ) : RO K (rNeD K) (.ref a) (.ref b) μ Φ := fun H x y c r1 r2 Q k => by
  cases r1; cases r2
  obtain ⟨xs, hx, hr⟩ := c a _ h1
  obtain ⟨ys, hy, hr2⟩ := c b _ h2
  obtain ⟨p1, p2, p3⟩ := okn_all ok
  cases hr2
  have e : PyData.eqv (.list (D.pys ds)) (.list (D.pys [])) = ds.isEmpty := by
    cases ds <;> simp [D.pys, PyData.eqv, PyData.eqvAll]
  refine ⟨.list (D.pys ds), .list [], .lst (SqL.of hx) (Rels.dp _ _ hr p1), .lst (SqL.of hy) .nil, ?_, ?_, ?_⟩
  · unfold SeqAt.shaped
    rw [Bool.and_eq_true]
    exact ⟨by simp only [PyData.canLay0]; exact p2, decide_eq_true (by simp only [PyData.depth]; omega)⟩
  · rfl
  · have e' : PyData.eqv (.list (D.pys ds)) (.list []) = ds.isEmpty := by simpa [D.pys] using e
    rw [e']
    exact k _ μ _ H Fr.refl c (.bl _) q
end
end Z
namespace Tch
def ar (a b c : Int × Int) : Int := (b.1 - a.1) * (c.2 - a.2) - (b.2 - a.2) * (c.1 - a.1)
def Btw (x y z : Int) : Prop := (x ≤ z ∧ z ≤ y) ∨ (y ≤ z ∧ z ≤ x)
def Ovl (x y z w : Int) : Prop := (x ≤ z ∨ x ≤ w ∨ y ≤ z ∨ y ≤ w) ∧ (z ≤ x ∨ z ≤ y ∨ w ≤ x ∨ w ≤ y)
theorem btw_of {x y z : Int} (h : 0 ≤ (z - x) * (y - z)) : Btw x y z := by
  unfold Btw
  by_cases h1 : x ≤ z
  · by_cases h2 : z ≤ y
    · exact .inl ⟨h1, h2⟩
    · by_cases h3 : x = z
      · exact .inr ⟨by omega, by omega⟩
      · have : (z - x) * (y - z) < 0 := Int.mul_neg_of_pos_of_neg (by omega) (by omega)
        omega
  · by_cases h2 : y ≤ z
    · exact .inr ⟨h2, by omega⟩
    · have : (z - x) * (y - z) < 0 := Int.mul_neg_of_neg_of_pos (by omega) (by omega)
      omega
theorem of_btw {x y z : Int} (h : Btw x y z) : 0 ≤ (z - x) * (y - z) := by
  rcases h with ⟨h1, h2⟩ | ⟨h1, h2⟩
  · exact Int.mul_nonneg (by omega) (by omega)
  · exact Int.mul_nonneg_of_nonpos_of_nonpos (by omega) (by omega)
theorem sq_nn (x : Int) : 0 ≤ x * x := by
  rcases Int.le_total 0 x with h | h
  · exact Int.mul_nonneg h h
  · exact Int.mul_nonneg_of_nonpos_of_nonpos h h
theorem sq_pos {x : Int} (h : x ≠ 0) : 0 < x * x := by
  have h1 := sq_nn x
  have h2 : x * x ≠ 0 := fun z => h (by rcases Int.mul_eq_zero.mp z with h | h <;> exact h)
  omega
/-- from p * q ≥ 0 with p > 0 -/
theorem nn_of {p x : Int} (hp : 0 < p) (h : 0 ≤ x * p) : 0 ≤ x := by
  rcases Int.lt_or_le x 0 with hx | hx
  · have := Int.mul_neg_of_neg_of_pos hx hp
    omega
  · exact hx
theorem id1 (a b c d : Int × Int) : ar a b c - ar a b d = ar c d b - ar c d a := by unfold ar; grind
theorem id2 (a b c d : Int × Int) : a.1 * ar c d b - b.1 * ar c d a = d.1 * ar a b c - c.1 * ar a b d := by unfold ar; grind
theorem id3 (a b c d : Int × Int) : a.2 * ar c d b - b.2 * ar c d a = d.2 * ar a b c - c.2 * ar a b d := by unfold ar; grind
theorem id4 (a b c d : Int × Int) (h : ar a b c = 0) : (c.1 - a.1) * (ar c d b - ar c d a) = (b.1 - a.1) * (- ar c d a) := by unfold ar at *; grind
theorem id5 (a b c d : Int × Int) (h : ar a b c = 0) : (b.1 - c.1) * (ar c d b - ar c d a) = (b.1 - a.1) * ar c d b := by unfold ar at *; grind
theorem id6 (a b c d : Int × Int) (h : ar a b c = 0) : (c.2 - a.2) * (ar c d b - ar c d a) = (b.2 - a.2) * (- ar c d a) := by unfold ar at *; grind
theorem id7 (a b c d : Int × Int) (h : ar a b c = 0) : (b.2 - c.2) * (ar c d b - ar c d a) = (b.2 - a.2) * ar c d b := by unfold ar at *; grind
def Lies (a b c : Int × Int) : Prop := Btw a.1 b.1 c.1 ∧ Btw a.2 b.2 c.2 ∧ ar a b c = 0
/-- the two pieces as boxes overlap, and no piece parts the ends of the other -/
def TouchP (a b c d : Int × Int) : Prop := Ovl a.1 b.1 c.1 d.1 ∧ Ovl a.2 b.2 c.2 d.2 ∧ ar a b c * ar a b d ≤ 0 ∧ ar c d a * ar c d b ≤ 0
def MeetP (a b c d : Int × Int) : Prop := Lies a b c ∨ Lies a b d ∨ Lies c d a ∨ Lies c d b ∨ (ar a b c * ar a b d < 0 ∧ ar c d a * ar c d b < 0)
theorem sw1 (a b c : Int × Int) : ar b a c = - ar a b c := by unfold ar; grind
/-- an end on the other piece: the other piece's ends are not parted the same way -/
theorem lies_opp {a b c : Int × Int} (d : Int × Int) (h : Lies a b c) : ar c d a * ar c d b ≤ 0 := by
  obtain ⟨h1, h2, h3⟩ := h
  have k1 := of_btw h1
  have k2 := of_btw h2
  -- p = a - c, q = b - c
  have e1 : (c.1 - a.1) * (b.1 - c.1) = -((a.1 - c.1) * (b.1 - c.1)) := by grind
  have e2 : (c.2 - a.2) * (b.2 - c.2) = -((a.2 - c.2) * (b.2 - c.2)) := by grind
  have eC : (a.1 - c.1) * (b.2 - c.2) = (a.2 - c.2) * (b.1 - c.1) := by unfold ar at h3; grind
  by_cases hA : (a.1 - c.1) * (b.1 - c.1) = 0
  · -- then C = 0
    have hC : (a.1 - c.1) * (b.2 - c.2) = 0 := by
      rcases Int.mul_eq_zero.mp hA with h | h
      · rw [h, Int.zero_mul]
      · rw [eC, h, Int.mul_zero]
    have e : ar c d a * ar c d b = ((d.1 - c.1) * (d.1 - c.1)) * ((a.2 - c.2) * (b.2 - c.2)) := by unfold ar; grind
    rw [e]
    exact Int.mul_nonpos_of_nonneg_of_nonpos (sq_nn _) (by omega)
  · have hA' : 0 < -((a.1 - c.1) * (b.1 - c.1)) := by omega
    have e : (-(ar c d a * ar c d b)) * (-((a.1 - c.1) * (b.1 - c.1))) = ((d.1 - c.1) * ((a.1 - c.1) * (b.2 - c.2)) - (d.2 - c.2) * ((a.1 - c.1) * (b.1 - c.1))) * ((d.1 - c.1) * ((a.1 - c.1) * (b.2 - c.2)) - (d.2 - c.2) * ((a.1 - c.1) * (b.1 - c.1))) := by unfold ar; grind
    have := nn_of hA' (by rw [e]; exact sq_nn _)
    omega
theorem ovl_of_btw {x y z w : Int} (h : Btw x y z) : Ovl x y z w := by unfold Btw Ovl at *; omega
theorem ovl_sw {x y z w : Int} (h : Ovl x y z w) : Ovl z w x y := by unfold Ovl at *; omega
theorem ovl_sw2 {x y z w : Int} (h : Ovl x y z w) : Ovl x y w z := by unfold Ovl at *; omega
theorem touch_of_lies {a b c : Int × Int} (d : Int × Int) (h : Lies a b c) : TouchP a b c d :=
  ⟨ovl_of_btw h.1, ovl_of_btw h.2.1, by rw [h.2.2, Int.zero_mul]; exact Int.le_refl _, lies_opp d h⟩
theorem touch_sw {a b c d : Int × Int} (h : TouchP a b c d) : TouchP c d a b := ⟨ovl_sw h.1, ovl_sw h.2.1, h.2.2.2, h.2.2.1⟩
theorem touch_sw2 {a b c d : Int × Int} (h : TouchP a b c d) : TouchP a b d c :=
  ⟨ovl_sw2 h.1, ovl_sw2 h.2.1, by rw [Int.mul_comm]; exact h.2.2.1, by rw [sw1 c d a, sw1 c d b, Int.neg_mul_neg]; exact h.2.2.2⟩
/-- strictly parted both ways: the boxes overlap -/
theorem ovl_strict {x1 x2 y1 y2 p q r s : Int} (e : x1 * q - x2 * p = y2 * r - y1 * s) (ew : r - s = q - p) (h1 : r * s < 0) (h2 : p * q < 0) : Ovl x1 x2 y1 y2 := by
  -- signs
  have sg : (0 < r ∧ s < 0) ∨ (r < 0 ∧ 0 < s) := by
    rcases Int.lt_trichotomy r 0 with h | h | h
    · rcases Int.lt_trichotomy s 0 with k | k | k
      · have := Int.mul_pos_of_neg_of_neg h k; omega
      · rw [k, Int.mul_zero] at h1; omega
      · exact .inr ⟨h, k⟩
    · rw [h, Int.zero_mul] at h1; omega
    · rcases Int.lt_trichotomy s 0 with k | k | k
      · exact .inl ⟨h, k⟩
      · rw [k, Int.mul_zero] at h1; omega
      · have := Int.mul_pos h k; omega
  have sg2 : (0 < q ∧ p < 0) ∨ (q < 0 ∧ 0 < p) := by
    rcases Int.lt_trichotomy q 0 with h | h | h
    · rcases Int.lt_trichotomy p 0 with k | k | k
      · have := Int.mul_pos_of_neg_of_neg k h; omega
      · rw [k, Int.zero_mul] at h2; omega
      · exact .inr ⟨h, k⟩
    · rw [h, Int.mul_zero] at h2; omega
    · rcases Int.lt_trichotomy p 0 with k | k | k
      · exact .inl ⟨h, k⟩
      · rw [k, Int.zero_mul] at h2; omega
      · have := Int.mul_pos k h; omega
  -- if one box lies strictly ahead of the other
  have key : ∀ {p q r s : Int}, x1 * q - x2 * p = y2 * r - y1 * s → r - s = q - p → 0 < r → s < 0 → 0 < q → p < 0 → Ovl x1 x2 y1 y2 := by
    intro p q r s e ew hr hs hq hp
    unfold Ovl
    refine ⟨?_, ?_⟩
    · -- not both x above both y
      refine Classical.byContradiction fun n => ?_
      have a1 : y1 + 1 ≤ x1 := by omega
      have a2 : y2 + 1 ≤ x1 := by omega
      have a3 : y1 + 1 ≤ x2 := by omega
      have a4 : y2 + 1 ≤ x2 := by omega
      -- least x
      have m : ∃ m, y1 < m ∧ y2 < m ∧ m ≤ x1 ∧ m ≤ x2 := by
        by_cases h : x1 ≤ x2
        · exact ⟨x1, by omega, by omega, by omega, h⟩
        · exact ⟨x2, by omega, by omega, by omega, by omega⟩
      obtain ⟨m, b1, b2, b3, b4⟩ := m
      have c1 := Int.mul_le_mul_of_nonneg_right b3 (show 0 ≤ q by omega)
      have c2 := Int.mul_le_mul_of_nonneg_right b4 (show 0 ≤ -p by omega)
      have c3 := Int.mul_lt_mul_of_pos_right b2 hr
      have c4 := Int.mul_lt_mul_of_pos_right b1 (show 0 < -s by omega)
      have e2 : m * q + m * -p = m * r + m * -s := by
        have : m * (q - p) = m * (r - s) := by rw [ew]
        grind
      grind
    · refine Classical.byContradiction fun n => ?_
      have m : ∃ m, m < y1 ∧ m < y2 ∧ x1 ≤ m ∧ x2 ≤ m := by
        by_cases h : x1 ≤ x2
        · exact ⟨x2, by omega, by omega, h, by omega⟩
        · exact ⟨x1, by omega, by omega, by omega, by omega⟩
      obtain ⟨m, b1, b2, b3, b4⟩ := m
      have c1 := Int.mul_le_mul_of_nonneg_right b3 (show 0 ≤ q by omega)
      have c2 := Int.mul_le_mul_of_nonneg_right b4 (show 0 ≤ -p by omega)
      have c3 := Int.mul_lt_mul_of_pos_right b2 hr
      have c4 := Int.mul_lt_mul_of_pos_right b1 (show 0 < -s by omega)
      have e2 : m * q + m * -p = m * r + m * -s := by
        have : m * (q - p) = m * (r - s) := by rw [ew]
        grind
      grind
  rcases sg with ⟨hr, hs⟩ | ⟨hr, hs⟩
  · rcases sg2 with ⟨hq, hp⟩ | ⟨hq, hp⟩
    · exact key e ew hr hs hq hp
    · omega
  · rcases sg2 with ⟨hq, hp⟩ | ⟨hq, hp⟩
    · omega
    · exact key (p := -p) (q := -q) (r := -r) (s := -s) (by grind) (by omega) (by omega) (by omega) (by omega) (by omega)
theorem touch_of_meet {a b c d : Int × Int} (h : MeetP a b c d) : TouchP a b c d := by
  rcases h with h | h | h | h | ⟨h1, h2⟩
  · exact touch_of_lies d h
  · exact touch_sw2 (touch_of_lies c h)
  · exact touch_sw (touch_of_lies b h)
  · exact touch_sw (touch_sw2 (touch_of_lies a h))
  · refine ⟨ovl_strict (id2 a b c d) ?_ h1 h2, ovl_strict (id3 a b c d) ?_ h1 h2, by omega, by omega⟩
    · exact id1 a b c d
    · exact id1 a b c d
/-- c on the line of a and b, d beside it -/
theorem lies_of {a b c d : Int × Int} (h : TouchP a b c d) (h1 : ar a b c = 0) (h2 : ar a b d ≠ 0) : Lies a b c := by
  have hW : ar c d b - ar c d a ≠ 0 := by
    have := id1 a b c d
    omega
  have hp := sq_pos hW
  have h4 := h.2.2.2
  refine ⟨btw_of ?_, btw_of ?_, h1⟩
  · have i4 := id4 a b c d h1
    have i5 := id5 a b c d h1
    refine nn_of hp ?_
    have e : (c.1 - a.1) * (b.1 - c.1) * ((ar c d b - ar c d a) * (ar c d b - ar c d a)) = ((b.1 - a.1) * (b.1 - a.1)) * (-(ar c d a * ar c d b)) := by
      have : (c.1 - a.1) * (b.1 - c.1) * ((ar c d b - ar c d a) * (ar c d b - ar c d a)) = ((c.1 - a.1) * (ar c d b - ar c d a)) * ((b.1 - c.1) * (ar c d b - ar c d a)) := by grind
      rw [this, i4, i5]
      grind
    rw [e]
    exact Int.mul_nonneg (sq_nn _) (by omega)
  · have i4 := id6 a b c d h1
    have i5 := id7 a b c d h1
    refine nn_of hp ?_
    have e : (c.2 - a.2) * (b.2 - c.2) * ((ar c d b - ar c d a) * (ar c d b - ar c d a)) = ((b.2 - a.2) * (b.2 - a.2)) * (-(ar c d a * ar c d b)) := by
      have : (c.2 - a.2) * (b.2 - c.2) * ((ar c d b - ar c d a) * (ar c d b - ar c d a)) = ((c.2 - a.2) * (ar c d b - ar c d a)) * ((b.2 - c.2) * (ar c d b - ar c d a)) := by grind
      rw [this, i4, i5]
      grind
    rw [e]
    exact Int.mul_nonneg (sq_nn _) (by omega)
/-- on a line that is not upright: between by x is between by y -/
theorem btw_line {p q r p' q' r' dx dy : Int} (hx : dx ≠ 0) (h1 : (r' - p') * dx = dy * (r - p)) (h2 : (q' - r') * dx = dy * (q - r)) (h : Btw p q r) : Btw p' q' r' := by
  refine btw_of (nn_of (sq_pos hx) ?_)
  have e : (r' - p') * (q' - r') * (dx * dx) = (dy * dy) * ((r - p) * (q - r)) := by
    have : (r' - p') * (q' - r') * (dx * dx) = ((r' - p') * dx) * ((q' - r') * dx) := by grind
    rw [this, h1, h2]
    grind
  rw [e]
  exact Int.mul_nonneg (sq_nn _) (of_btw h)
theorem ovl_ends {x y z w : Int} (h : Ovl x y z w) : Btw x y z ∨ Btw x y w ∨ Btw z w x ∨ Btw z w y := by unfold Ovl Btw at *; omega
/-- all on one line, which is not upright -/
theorem flat_x {a b c d : Int × Int} (hx : b.1 - a.1 ≠ 0) (o : Ovl a.1 b.1 c.1 d.1) (h1 : ar a b c = 0) (h2 : ar a b d = 0) (h3 : ar c d a = 0) (h4 : ar c d b = 0) : Lies a b c ∨ Lies a b d ∨ Lies c d a ∨ Lies c d b := by
  have l1 : (c.2 - a.2) * (b.1 - a.1) = (b.2 - a.2) * (c.1 - a.1) := by unfold ar at h1; grind
  have l2 : (d.2 - a.2) * (b.1 - a.1) = (b.2 - a.2) * (d.1 - a.1) := by unfold ar at h2; grind
  rcases ovl_ends o with k | k | k | k
  · exact .inl ⟨k, btw_line (dy := b.2 - a.2) hx l1 (by grind) k, h1⟩
  · exact .inr (.inl ⟨k, btw_line (dy := b.2 - a.2) hx l2 (by grind) k, h2⟩)
  · exact .inr (.inr (.inl ⟨k, btw_line (dy := b.2 - a.2) hx (by grind) (by grind) k, h3⟩))
  · exact .inr (.inr (.inr ⟨k, btw_line (dy := b.2 - a.2) hx (by grind) (by grind) k, h4⟩))
theorem flat_y {a b c d : Int × Int} (hx : b.2 - a.2 ≠ 0) (o : Ovl a.2 b.2 c.2 d.2) (h1 : ar a b c = 0) (h2 : ar a b d = 0) (h3 : ar c d a = 0) (h4 : ar c d b = 0) : Lies a b c ∨ Lies a b d ∨ Lies c d a ∨ Lies c d b := by
  have l1 : (c.1 - a.1) * (b.2 - a.2) = (b.1 - a.1) * (c.2 - a.2) := by unfold ar at h1; grind
  have l2 : (d.1 - a.1) * (b.2 - a.2) = (b.1 - a.1) * (d.2 - a.2) := by unfold ar at h2; grind
  rcases ovl_ends o with k | k | k | k
  · exact .inl ⟨btw_line (dy := b.1 - a.1) hx l1 (by grind) k, k, h1⟩
  · exact .inr (.inl ⟨btw_line (dy := b.1 - a.1) hx l2 (by grind) k, k, h2⟩)
  · exact .inr (.inr (.inl ⟨btw_line (dy := b.1 - a.1) hx (by grind) (by grind) k, k, h3⟩))
  · exact .inr (.inr (.inr ⟨btw_line (dy := b.1 - a.1) hx (by grind) (by grind) k, k, h4⟩))
theorem meet_of_touch {a b c d : Int × Int} (h : TouchP a b c d) : MeetP a b c d := by
  unfold MeetP
  have i1 := id1 a b c d
  by_cases z1 : ar a b c = 0
  · by_cases z2 : ar a b d = 0
    · -- all four
      have h4 := h.2.2.2
      have e : ar c d b = ar c d a := by omega
      have z3 : ar c d a = 0 := by
        refine Classical.byContradiction fun n => ?_
        have := sq_pos n
        rw [e] at h4
        omega
      have z4 : ar c d b = 0 := by omega
      by_cases hx : b.1 - a.1 = 0
      · by_cases hy : b.2 - a.2 = 0
        · -- a = b
          by_cases kx : d.1 - c.1 = 0
          · by_cases ky : d.2 - c.2 = 0
            · -- all one place
              have o1 := h.1
              have o2 := h.2.1
              refine .inl ⟨?_, ?_, z1⟩
              · unfold Ovl at o1; unfold Btw; omega
              · unfold Ovl at o2; unfold Btw; omega
            · rcases flat_y ky (ovl_sw h.2.1) z3 z4 z1 z2 with k | k | k | k
              · exact .inr (.inr (.inl k))
              · exact .inr (.inr (.inr (.inl k)))
              · exact .inl k
              · exact .inr (.inl k)
          · rcases flat_x kx (ovl_sw h.1) z3 z4 z1 z2 with k | k | k | k
            · exact .inr (.inr (.inl k))
            · exact .inr (.inr (.inr (.inl k)))
            · exact .inl k
            · exact .inr (.inl k)
        · rcases flat_y hy h.2.1 z1 z2 z3 z4 with k | k | k | k
          · exact .inl k
          · exact .inr (.inl k)
          · exact .inr (.inr (.inl k))
          · exact .inr (.inr (.inr (.inl k)))
      · rcases flat_x hx h.1 z1 z2 z3 z4 with k | k | k | k
        · exact .inl k
        · exact .inr (.inl k)
        · exact .inr (.inr (.inl k))
        · exact .inr (.inr (.inr (.inl k)))
    · exact .inl (lies_of h z1 z2)
  · by_cases z2 : ar a b d = 0
    · exact .inr (.inl (lies_of (touch_sw2 h) z2 z1))
    · by_cases z3 : ar c d a = 0
      · by_cases z4 : ar c d b = 0
        · -- then the first two are alike, their product is not above 0
          have e : ar a b c = ar a b d := by omega
          have h3 := h.2.2.1
          rw [e] at h3
          have := sq_pos z2
          omega
        · exact .inr (.inr (.inl (lies_of (touch_sw h) z3 z4)))
      · by_cases z4 : ar c d b = 0
        · exact .inr (.inr (.inr (.inl (lies_of (touch_sw2 (touch_sw h)) z4 z3))))
        · have h3 := h.2.2.1
          have h4 := h.2.2.2
          have n1 : ar a b c * ar a b d ≠ 0 := fun z => by rcases Int.mul_eq_zero.mp z with k | k <;> omega
          have n2 : ar c d a * ar c d b ≠ 0 := fun z => by rcases Int.mul_eq_zero.mp z with k | k <;> omega
          exact .inr (.inr (.inr (.inr ⟨by omega, by omega⟩)))
theorem touch_iff (a b c d : Int × Int) : TouchP a b c d ↔ MeetP a b c d := ⟨meet_of_touch, touch_of_meet⟩
end Tch
namespace Fr2
open Z Tch
theorem sgn_mul_neg (x y : Int) : sgn x * sgn y < 0 ↔ x * y < 0 := by
  unfold sgn
  rcases Int.lt_trichotomy x 0 with h | h | h <;> rcases Int.lt_trichotomy y 0 with k | k | k
  · have := Int.mul_pos_of_neg_of_neg h k
    rw [if_neg (by omega), if_pos h, if_neg (by omega), if_pos k]; omega
  · subst k; simp
  · have := Int.mul_neg_of_neg_of_pos h k
    rw [if_neg (by omega), if_pos h, if_pos k]; omega
  · subst h; simp
  · subst h; simp
  · subst h; simp
  · have := Int.mul_neg_of_pos_of_neg h k
    rw [if_pos h, if_neg (by omega), if_pos k]; omega
  · subst k; simp
  · have := Int.mul_pos h k
    rw [if_pos h, if_pos k]; omega
theorem sgn_mul_pos (x y : Int) : 0 < sgn x * sgn y ↔ 0 < x * y := by
  unfold sgn
  rcases Int.lt_trichotomy x 0 with h | h | h <;> rcases Int.lt_trichotomy y 0 with k | k | k
  · have := Int.mul_pos_of_neg_of_neg h k
    rw [if_neg (by omega), if_pos h, if_neg (by omega), if_pos k]; omega
  · subst k; simp
  · have := Int.mul_neg_of_neg_of_pos h k
    rw [if_neg (by omega), if_pos h, if_pos k]; omega
  · subst h; simp
  · subst h; simp
  · subst h; simp
  · have := Int.mul_neg_of_pos_of_neg h k
    rw [if_pos h, if_neg (by omega), if_pos k]; omega
  · subst k; simp
  · have := Int.mul_pos h k
    rw [if_pos h, if_pos k]; omega
theorem sgn_zero (x : Int) : sgn x = 0 ↔ x = 0 := by
  unfold sgn
  split
  · omega
  · split <;> omega
theorem sz_sgn (x : Int) : Sz 1 (sgn x) := by
  unfold sgn
  split
  · decide
  · split <;> decide
/-- sgn is alike where both are stretched -/
theorem sgn_scale {x y u v : Int} (hu : 0 < u) (hv : 0 < v) (h : x * u = y * v) : sgn x = sgn y := by
  have a : 0 < x ↔ 0 < y := by
    constructor
    · intro hx
      have := Int.mul_pos hx hu
      rcases Int.lt_or_le 0 y with k | k
      · exact k
      · have := Int.mul_nonpos_of_nonpos_of_nonneg k (Int.le_of_lt hv); omega
    · intro hx
      have := Int.mul_pos hx hv
      rcases Int.lt_or_le 0 x with k | k
      · exact k
      · have := Int.mul_nonpos_of_nonpos_of_nonneg k (Int.le_of_lt hu); omega
  have b : x < 0 ↔ y < 0 := by
    constructor
    · intro hx
      have := Int.mul_neg_of_neg_of_pos hx hu
      rcases Int.lt_or_le y 0 with k | k
      · exact k
      · have := Int.mul_nonneg k (Int.le_of_lt hv); omega
    · intro hx
      have := Int.mul_neg_of_neg_of_pos hx hv
      rcases Int.lt_or_le x 0 with k | k
      · exact k
      · have := Int.mul_nonneg k (Int.le_of_lt hu); omega
  unfold sgn
  by_cases h1 : 0 < x
  · rw [if_pos h1, if_pos (a.mp h1)]
  · rw [if_neg h1, if_neg (fun z => h1 (a.mpr z))]
    by_cases h2 : x < 0
    · rw [if_pos h2, if_pos (b.mp h2)]
    · rw [if_neg h2, if_neg (fun z => h2 (b.mpr z))]
def lessF (p q : Fq) : Fq := (p.1 * q.2 - q.1 * p.2, p.2 * q.2)
def psd (a b c : Pl) : Int := sgn ((lessF b.1 a.1).1 * (lessF c.2 a.2).1 * (lessF b.2 a.2).2 * (lessF c.1 a.1).2 - (lessF b.2 a.2).1 * (lessF c.1 a.1).1 * (lessF b.1 a.1).2 * (lessF c.2 a.2).2)
def lst (p q : Fq) : Bool := decide (p.1 * q.2 ≤ q.1 * p.2)
def ovl (a b c d : Fq) : Bool := lst (if lst a b = true then a else b) (if lst c d = true then d else c) && lst (if lst c d = true then c else d) (if lst a b = true then b else a)
def tch (a b c d : Pl) : Bool := ovl a.1 b.1 c.1 d.1 && (ovl a.2 b.2 c.2 d.2 && (!decide (0 < psd a b c * psd a b d) && decide (psd c d a * psd c d b ≤ 0)))
/-- s is p times g -/
def Sc (g : Int) (p : Fq) (s : Int) : Prop := s * p.2 = p.1 * g
def ScP (g : Int) (p : Pl) (s : Int × Int) : Prop := Sc g p.1 s.1 ∧ Sc g p.2 s.2
section
variable {g : Int} {p q : Fq} {s t : Int}
theorem lst_iff (hg : 0 < g) (hp : 0 < p.2) (hq : 0 < q.2) (h : Sc g p s) (k : Sc g q t) : lst p q = true ↔ s ≤ t := by
  unfold lst
  rw [decide_eq_true_iff]
  have e1 : (p.1 * q.2) * g = s * (p.2 * q.2) := by unfold Sc at h; grind
  have e2 : (q.1 * p.2) * g = t * (p.2 * q.2) := by unfold Sc at k; grind
  have hpq : 0 < p.2 * q.2 := Int.mul_pos hp hq
  constructor
  · intro l
    have := Int.mul_le_mul_of_nonneg_right l (Int.le_of_lt hg)
    rw [e1, e2] at this
    exact Int.le_of_mul_le_mul_right this hpq
  · intro l
    have := Int.mul_le_mul_of_nonneg_right l (Int.le_of_lt hpq)
    rw [← e1, ← e2] at this
    exact Int.le_of_mul_le_mul_right this hg
theorem lst_false (hg : 0 < g) (hp : 0 < p.2) (hq : 0 < q.2) (h : Sc g p s) (k : Sc g q t) : lst p q = false ↔ t < s := by
  have := lst_iff hg hp hq h k
  cases e : lst p q with
  | true => rw [e] at this; have := this.mp rfl; constructor <;> intro z <;> first | cases z | omega
  | false => rw [e] at this; constructor <;> intro z <;> first | rfl | (rcases Int.lt_or_le t s with k | k; exact k; exact absurd (this.mpr k) (by decide))
theorem ovl_iff {a b c d : Fq} {sa sb sc sd : Int} (hg : 0 < g) (ha : 0 < a.2) (hb : 0 < b.2) (hc : 0 < c.2) (hd : 0 < d.2) (xa : Sc g a sa) (xb : Sc g b sb) (xc : Sc g c sc) (xd : Sc g d sd) : ovl a b c d = true ↔ Ovl sa sb sc sd := by
  unfold ovl
  cases e1 : lst a b <;> cases e2 : lst c d
  · have h1 := (lst_false hg ha hb xa xb).mp e1
    have h2 := (lst_false hg hc hd xc xd).mp e2
    simp only [Bool.false_eq_true, if_false, Bool.and_eq_true]
    rw [lst_iff hg hb hc xb xc, lst_iff hg hd ha xd xa]
    unfold Ovl; omega
  · have h1 := (lst_false hg ha hb xa xb).mp e1
    have h2 := (lst_iff hg hc hd xc xd).mp e2
    simp only [Bool.false_eq_true, if_false, if_true, Bool.and_eq_true]
    rw [lst_iff hg hb hd xb xd, lst_iff hg hc ha xc xa]
    unfold Ovl; omega
  · have h1 := (lst_iff hg ha hb xa xb).mp e1
    have h2 := (lst_false hg hc hd xc xd).mp e2
    simp only [Bool.false_eq_true, if_false, if_true, Bool.and_eq_true]
    rw [lst_iff hg ha hc xa xc, lst_iff hg hd hb xd xb]
    unfold Ovl; omega
  · have h1 := (lst_iff hg ha hb xa xb).mp e1
    have h2 := (lst_iff hg hc hd xc xd).mp e2
    simp only [if_true, Bool.and_eq_true]
    rw [lst_iff hg ha hd xa xd, lst_iff hg hc hb xc xb]
    unfold Ovl; omega
theorem psd_eq {a b c : Pl} {sa sb sc : Int × Int} (hg : 0 < g) (ha : GoodP a) (hb : GoodP b) (hc : GoodP c) (xa : ScP g a sa) (xb : ScP g b sb) (xc : ScP g c sc) : psd a b c = sgn (ar sa sb sc) := by
  obtain ⟨⟨a1, _, _⟩, ⟨a2, _, _⟩⟩ := ha
  obtain ⟨⟨b1, _, _⟩, ⟨b2, _, _⟩⟩ := hb
  obtain ⟨⟨c1, _, _⟩, ⟨c2, _, _⟩⟩ := hc
  obtain ⟨p1, p2⟩ := xa
  obtain ⟨q1, q2⟩ := xb
  obtain ⟨r1, r2⟩ := xc
  unfold psd
  refine sgn_scale (u := g * g) (v := (b.1.2 * a.1.2) * (c.2.2 * a.2.2) * ((b.2.2 * a.2.2) * (c.1.2 * a.1.2))) (Int.mul_pos hg hg) ?_ ?_
  · exact Int.mul_pos (Int.mul_pos (Int.mul_pos b1 a1) (Int.mul_pos c2 a2)) (Int.mul_pos (Int.mul_pos b2 a2) (Int.mul_pos c1 a1))
  · have x1 : (lessF b.1 a.1).1 * g = (sb.1 - sa.1) * (b.1.2 * a.1.2) := by unfold lessF Sc at *; grind
    have x2 : (lessF c.2 a.2).1 * g = (sc.2 - sa.2) * (c.2.2 * a.2.2) := by unfold lessF Sc at *; grind
    have x3 : (lessF b.2 a.2).1 * g = (sb.2 - sa.2) * (b.2.2 * a.2.2) := by unfold lessF Sc at *; grind
    have x4 : (lessF c.1 a.1).1 * g = (sc.1 - sa.1) * (c.1.2 * a.1.2) := by unfold lessF Sc at *; grind
    have y1 : (lessF b.2 a.2).2 = b.2.2 * a.2.2 := rfl
    have y2 : (lessF c.1 a.1).2 = c.1.2 * a.1.2 := rfl
    have y3 : (lessF b.1 a.1).2 = b.1.2 * a.1.2 := rfl
    have y4 : (lessF c.2 a.2).2 = c.2.2 * a.2.2 := rfl
    rw [y1, y2, y3, y4]
    generalize (lessF b.1 a.1).1 = l1 at *
    generalize (lessF c.2 a.2).1 = l2 at *
    generalize (lessF b.2 a.2).1 = l3 at *
    generalize (lessF c.1 a.1).1 = l4 at *
    have e : (l1 * l2 * (b.2.2 * a.2.2) * (c.1.2 * a.1.2) - l3 * l4 * (b.1.2 * a.1.2) * (c.2.2 * a.2.2)) * (g * g) = (l1 * g) * (l2 * g) * ((b.2.2 * a.2.2) * (c.1.2 * a.1.2)) - (l3 * g) * (l4 * g) * ((b.1.2 * a.1.2) * (c.2.2 * a.2.2)) := by grind
    rw [e, x1, x2, x3, x4]
    unfold ar
    generalize b.1.2 * a.1.2 = m1
    generalize c.2.2 * a.2.2 = m2
    generalize b.2.2 * a.2.2 = m3
    generalize c.1.2 * a.1.2 = m4
    grind
end
instance {x y z : Int} : Decidable (Btw x y z) := by unfold Btw; infer_instance
instance {x y z w : Int} : Decidable (Ovl x y z w) := by unfold Ovl; infer_instance
instance {a b c : Int × Int} : Decidable (Lies a b c) := by unfold Lies; infer_instance
instance {a b c d : Int × Int} : Decidable (MeetP a b c d) := by unfold MeetP; infer_instance
instance {a b c d : Int × Int} : Decidable (TouchP a b c d) := by unfold TouchP; infer_instance
/-- the program's touch is the pieces' meeting, of the places stretched to whole points -/
theorem tch_meet {g : Int} {a b c d : Pl} {sa sb sc sd : Int × Int} (hg : 0 < g) (ha : GoodP a) (hb : GoodP b) (hc : GoodP c) (hd : GoodP d) (xa : ScP g a sa) (xb : ScP g b sb) (xc : ScP g c sc) (xd : ScP g d sd) : tch a b c d = decide (MeetP sa sb sc sd) := by
  have e1 := ovl_iff hg ha.x.pos hb.x.pos hc.x.pos hd.x.pos xa.1 xb.1 xc.1 xd.1
  have e2 := ovl_iff hg ha.y.pos hb.y.pos hc.y.pos hd.y.pos xa.2 xb.2 xc.2 xd.2
  rw [Bool.eq_iff_iff, decide_eq_true_iff, ← touch_iff]
  unfold tch TouchP
  rw [psd_eq hg ha hb hc xa xb xc, psd_eq hg ha hb hd xa xb xd, psd_eq hg hc hd ha xc xd xa, psd_eq hg hc hd hb xc xd xb]
  simp only [Bool.and_eq_true, Bool.not_eq_true', decide_eq_false_iff_not, decide_eq_true_iff, e1, e2]
  have n1 := sgn_mul_pos (ar sa sb sc) (ar sa sb sd)
  have n2 := sgn_mul_pos (ar sc sd sa) (ar sc sd sb)
  constructor
  · rintro ⟨h1, h2, h3, h4⟩
    exact ⟨h1, h2, by omega, by omega⟩
  · rintro ⟨h1, h2, h3, h4⟩
    exact ⟨h1, h2, by omega, by omega⟩
end Fr2
namespace Fr2
open Z Tch
structure Mp where
  a : Int
  b : Int
  c : Int
  d : Int
  e : Int
  f : Int
def Mp.at (m : Mp) (g : Int) (p : Int × Int) : Int × Int := (m.a * p.1 + m.b * p.2 + m.e * g, m.c * p.1 + m.d * p.2 + m.f * g)
/-- some scale for four places -/
theorem ex_scale {a b c d : Pl} (ha : GoodP a) (hb : GoodP b) (hc : GoodP c) (hd : GoodP d) : ∃ (g : Int) (sa sb sc sd : Int × Int), 0 < g ∧ ScP g a sa ∧ ScP g b sb ∧ ScP g c sc ∧ ScP g d sd := by
  have a1 := ha.x.pos; have a2 := ha.y.pos; have b1 := hb.x.pos; have b2 := hb.y.pos
  have c1 := hc.x.pos; have c2 := hc.y.pos; have d1 := hd.x.pos; have d2 := hd.y.pos
  refine ⟨(a.1.2 * a.2.2) * (b.1.2 * b.2.2) * ((c.1.2 * c.2.2) * (d.1.2 * d.2.2)),
    (a.1.1 * a.2.2 * (b.1.2 * b.2.2) * ((c.1.2 * c.2.2) * (d.1.2 * d.2.2)), a.2.1 * a.1.2 * (b.1.2 * b.2.2) * ((c.1.2 * c.2.2) * (d.1.2 * d.2.2))),
    (b.1.1 * b.2.2 * (a.1.2 * a.2.2) * ((c.1.2 * c.2.2) * (d.1.2 * d.2.2)), b.2.1 * b.1.2 * (a.1.2 * a.2.2) * ((c.1.2 * c.2.2) * (d.1.2 * d.2.2))),
    (c.1.1 * c.2.2 * (d.1.2 * d.2.2) * ((a.1.2 * a.2.2) * (b.1.2 * b.2.2)), c.2.1 * c.1.2 * (d.1.2 * d.2.2) * ((a.1.2 * a.2.2) * (b.1.2 * b.2.2))),
    (d.1.1 * d.2.2 * (c.1.2 * c.2.2) * ((a.1.2 * a.2.2) * (b.1.2 * b.2.2)), d.2.1 * d.1.2 * (c.1.2 * c.2.2) * ((a.1.2 * a.2.2) * (b.1.2 * b.2.2))), ?_, ⟨?_, ?_⟩, ⟨?_, ?_⟩, ⟨?_, ?_⟩, ⟨?_, ?_⟩⟩
  · exact Int.mul_pos (Int.mul_pos (Int.mul_pos a1 a2) (Int.mul_pos b1 b2)) (Int.mul_pos (Int.mul_pos c1 c2) (Int.mul_pos d1 d2))
  all_goals (clear a1 a2 b1 b2 c1 c2 d1 d2; unfold Sc; simp only [Int.mul_assoc, Int.mul_comm, Int.mul_left_comm])
end Fr2
namespace Fr2
open Z Tch
def hmX (p : Pl) : Int := p.1.1 * p.2.2
def hmY (p : Pl) : Int := p.2.1 * p.1.2
def hmW (p : Pl) : Int := p.1.2 * p.2.2
def spinV (a b c : Pl) : Int := hmX a * (hmY b * hmW c - hmY c * hmW b) - hmY a * (hmX b * hmW c - hmX c * hmW b) + hmW a * (hmX b * hmY c - hmX c * hmY b)
def withinH (a b c : Pl) : Bool := decide (Btw (hmX a * hmW b * hmW c) (hmX b * hmW a * hmW c) (hmX c * hmW a * hmW b)) && decide (Btw (hmY a * hmW b * hmW c) (hmY b * hmW a * hmW c) (hmY c * hmW a * hmW b))
def lieH (a b c : Pl) : Bool := decide (psd a b c = 0) && withinH a b c
def touchH (a b c d : Pl) : Bool := (decide (psd a b c * psd a b d < 0) && decide (psd c d a * psd c d b < 0)) || (lieH a b c || (lieH a b d || (lieH c d a || lieH c d b)))
theorem hm_w {p : Pl} (h : GoodP p) : 0 < hmW p := Int.mul_pos h.x.pos h.y.pos
theorem hm_sc {g : Int} {p : Pl} {s : Int × Int} (h : ScP g p s) : hmX p * g = s.1 * hmW p ∧ hmY p * g = s.2 * hmW p := by
  obtain ⟨h1, h2⟩ := h
  unfold Sc at h1 h2
  unfold hmX hmY hmW
  constructor
  · calc p.1.1 * p.2.2 * g = (p.1.1 * g) * p.2.2 := by grind
      _ = (s.1 * p.1.2) * p.2.2 := by rw [h1]
      _ = _ := by grind
  · calc p.2.1 * p.1.2 * g = (p.2.1 * g) * p.1.2 := by grind
      _ = (s.2 * p.2.2) * p.1.2 := by rw [h2]
      _ = _ := by grind
theorem det_id {x1 y1 w1 x2 y2 w2 x3 y3 w3 g a1 b1 a2 b2 a3 b3 : Int} (e1 : x1 * g = a1 * w1) (e2 : y1 * g = b1 * w1) (e3 : x2 * g = a2 * w2) (e4 : y2 * g = b2 * w2) (e5 : x3 * g = a3 * w3) (e6 : y3 * g = b3 * w3) :
    (x1 * (y2 * w3 - y3 * w2) - y1 * (x2 * w3 - x3 * w2) + w1 * (x2 * y3 - x3 * y2)) * (g * g) = ((a2 - a1) * (b3 - b1) - (b2 - b1) * (a3 - a1)) * (w1 * (w2 * w3)) := by
  have h : (x1 * (y2 * w3 - y3 * w2) - y1 * (x2 * w3 - x3 * w2) + w1 * (x2 * y3 - x3 * y2)) * (g * g) = (x1 * g) * ((y2 * g) * w3 - (y3 * g) * w2) - (y1 * g) * ((x2 * g) * w3 - (x3 * g) * w2) + w1 * ((x2 * g) * (y3 * g) - (x3 * g) * (y2 * g)) := by grind
  rw [h, e1, e2, e3, e4, e5, e6]
  grind
theorem ex_scale3 {a b c : Pl} (ha : GoodP a) (hb : GoodP b) (hc : GoodP c) : ∃ (g : Int) (sa sb sc : Int × Int), 0 < g ∧ ScP g a sa ∧ ScP g b sb ∧ ScP g c sc := by
  obtain ⟨g, sa, sb, sc, _, h0, h1, h2, h3, _⟩ := ex_scale ha hb hc hc
  exact ⟨g, sa, sb, sc, h0, h1, h2, h3⟩
theorem spin_sgn {a b c : Pl} (ha : GoodP a) (hb : GoodP b) (hc : GoodP c) : sgn (spinV a b c) = psd a b c := by
  obtain ⟨g, sa, sb, sc, hg, xa, xb, xc⟩ := ex_scale3 ha hb hc
  rw [psd_eq hg ha hb hc xa xb xc]
  obtain ⟨a1, a2⟩ := hm_sc xa
  obtain ⟨b1, b2⟩ := hm_sc xb
  obtain ⟨c1, c2⟩ := hm_sc xc
  refine sgn_scale (u := g * g) (v := hmW a * (hmW b * hmW c)) (Int.mul_pos hg hg) (Int.mul_pos (hm_w ha) (Int.mul_pos (hm_w hb) (hm_w hc))) ?_
  unfold spinV ar
  exact det_id a1 a2 b1 b2 c1 c2
theorem le_scale2 {x y x' y' g k : Int} (hg : 0 < g) (hk : 0 < k) (e1 : x * g = x' * k) (e2 : y * g = y' * k) : x ≤ y ↔ x' ≤ y' := by
  constructor
  · intro h
    have := Int.mul_le_mul_of_nonneg_right h (Int.le_of_lt hg)
    rw [e1, e2] at this
    exact Int.le_of_mul_le_mul_right this hk
  · intro h
    have := Int.mul_le_mul_of_nonneg_right h (Int.le_of_lt hk)
    rw [← e1, ← e2] at this
    exact Int.le_of_mul_le_mul_right this hg
theorem btw_scale2 {x y z x' y' z' g k : Int} (hg : 0 < g) (hk : 0 < k) (e1 : x * g = x' * k) (e2 : y * g = y' * k) (e3 : z * g = z' * k) : Btw x y z ↔ Btw x' y' z' := by
  unfold Btw
  rw [le_scale2 hg hk e1 e3, le_scale2 hg hk e3 e2, le_scale2 hg hk e2 e3, le_scale2 hg hk e3 e1]
theorem within_iff {g : Int} {a b c : Pl} {sa sb sc : Int × Int} (hg : 0 < g) (ha : GoodP a) (hb : GoodP b) (hc : GoodP c) (xa : ScP g a sa) (xb : ScP g b sb) (xc : ScP g c sc) : withinH a b c = true ↔ (Btw sa.1 sb.1 sc.1 ∧ Btw sa.2 sb.2 sc.2) := by
  obtain ⟨a1, a2⟩ := hm_sc xa
  obtain ⟨b1, b2⟩ := hm_sc xb
  obtain ⟨c1, c2⟩ := hm_sc xc
  have wa := hm_w ha
  have wb := hm_w hb
  have wc := hm_w hc
  have hk : 0 < hmW a * (hmW b * hmW c) := Int.mul_pos wa (Int.mul_pos wb wc)
  unfold withinH
  rw [Bool.and_eq_true, decide_eq_true_iff, decide_eq_true_iff]
  have cr : ∀ {x s u v w : Int}, x * g = s * u → x * v * w * g = s * (u * (v * w)) := fun {x s u v w} h => by
    calc x * v * w * g = (x * g) * (v * w) := by grind
      _ = (s * u) * (v * w) := by rw [h]
      _ = _ := by grind
  have r2 : ∀ {s u v w : Int}, s * (v * (u * w)) = s * (u * (v * w)) := fun {s u v w} => by grind
  have r3 : ∀ {s u v w : Int}, s * (w * (u * v)) = s * (u * (v * w)) := fun {s u v w} => by grind
  rw [btw_scale2 hg hk (cr a1) ((cr b1).trans r2) ((cr c1).trans r3), btw_scale2 hg hk (cr a2) ((cr b2).trans r2) ((cr c2).trans r3)]
theorem lie_iff {g : Int} {a b c : Pl} {sa sb sc : Int × Int} (hg : 0 < g) (ha : GoodP a) (hb : GoodP b) (hc : GoodP c) (xa : ScP g a sa) (xb : ScP g b sb) (xc : ScP g c sc) : lieH a b c = true ↔ Lies sa sb sc := by
  unfold lieH Lies
  rw [Bool.and_eq_true, decide_eq_true_iff, within_iff hg ha hb hc xa xb xc, psd_eq hg ha hb hc xa xb xc, sgn_zero]
  exact ⟨fun h => ⟨h.2.1, h.2.2, h.1⟩, fun h => ⟨h.2.2, h.1, h.2.1⟩⟩
theorem touchH_eq {a b c d : Pl} (ha : GoodP a) (hb : GoodP b) (hc : GoodP c) (hd : GoodP d) : touchH a b c d = tch a b c d := by
  obtain ⟨g, sa, sb, sc, sd, hg, xa, xb, xc, xd⟩ := ex_scale ha hb hc hd
  rw [tch_meet hg ha hb hc hd xa xb xc xd, Bool.eq_iff_iff, decide_eq_true_iff]
  unfold touchH MeetP
  rw [Bool.or_eq_true, Bool.or_eq_true, Bool.or_eq_true, Bool.or_eq_true, Bool.and_eq_true, decide_eq_true_iff, decide_eq_true_iff, lie_iff hg ha hb hc xa xb xc, lie_iff hg ha hb hd xa xb xd, lie_iff hg hc hd ha xc xd xa, lie_iff hg hc hd hb xc xd xb,
    psd_eq hg ha hb hc xa xb xc, psd_eq hg ha hb hd xa xb xd, psd_eq hg hc hd ha xc xd xa, psd_eq hg hc hd hb xc xd xb, sgn_mul_neg, sgn_mul_neg]
  constructor
  · rintro (h | h | h | h | h)
    · exact .inr (.inr (.inr (.inr h)))
    · exact .inl h
    · exact .inr (.inl h)
    · exact .inr (.inr (.inl h))
    · exact .inr (.inr (.inr (.inl h)))
  · rintro (h | h | h | h | h)
    · exact .inr (.inl h)
    · exact .inr (.inr (.inl h))
    · exact .inr (.inr (.inr (.inl h)))
    · exact .inr (.inr (.inr (.inr h)))
    · exact .inl h
abbrev Ln := List Pl
abbrev encL (l : Ln) : D := .tup (l.map encP)
def pcs : Ln → List (Pl × Pl)
  | a :: b :: l => (a, b) :: pcs (b :: l)
  | _ => []
abbrev encC (q : Pl × Pl) : D := .tup [encP q.1, encP q.2]
theorem pcs_zip : ∀ l : Ln, zipD (l.map encP) ((l.map encP).drop 1) = (pcs l).map encC
  | [] => by simp [zipD, pcs]
  | [a] => by simp [zipD, pcs]
  | a :: b :: l => by
    have ih := pcs_zip (b :: l)
    simp only [List.map_cons, List.drop_succ_cons, List.drop_zero] at ih ⊢
    unfold zipD pcs
    rw [List.map_cons]
    congr 1
theorem pcs_get : ∀ {l : Ln} {k : Nat} {q : Pl × Pl}, (pcs l)[k]? = some q ↔ l[k]? = some q.1 ∧ l[k + 1]? = some q.2
  | [], k, q => by simp [pcs]
  | [a], k, q => by simp [pcs]
  | a :: b :: l, 0, q => by
    unfold pcs
    simp only [List.getElem?_cons_zero, List.getElem?_cons_succ, Option.some.injEq]
    exact ⟨fun h => by subst h; exact ⟨rfl, rfl⟩, fun h => Prod.ext h.1 h.2⟩
  | a :: b :: l, k + 1, q => by
    have ih := pcs_get (l := b :: l) (k := k) (q := q)
    unfold pcs
    simpa using ih
theorem pcs_len : ∀ l : Ln, (pcs l).length = l.length - 1
  | [] => rfl
  | [a] => rfl
  | a :: b :: l => by
    have ih := pcs_len (b :: l)
    unfold pcs
    simp only [List.length_cons] at ih ⊢
    omega
theorem pcs_mem {l : Ln} {q : Pl × Pl} (h : q ∈ pcs l) : q.1 ∈ l ∧ q.2 ∈ l := by
  obtain ⟨k, hk⟩ := List.mem_iff_getElem?.mp h
  obtain ⟨h1, h2⟩ := pcs_get.mp hk
  exact ⟨List.mem_of_getElem? h1, List.mem_of_getElem? h2⟩
def lmeet (l m : Ln) : Bool := (pcs l).any fun p => (pcs m).any fun q => tch p.1 p.2 q.1 q.2
/-- the pairs of lines of which the first is the i-th -/
def row (ls : List Ln) (f : Ln → Ln → Bool) (i : Nat) : List D := (((List.range (ls.length - (i + 1))).map fun k => i + 1 + k).filter fun j => f (ls.getD i []) (ls.getD j [])).map fun (j : Nat) => pt (i : Int) (j : Int)
def rows (ls : List Ln) (f : Ln → Ln → Bool) (k : Nat) : List D := (List.range k).flatMap (row ls f)
theorem rows_succ (ls : List Ln) (f : Ln → Ln → Bool) (k : Nat) : rows ls f (k + 1) = rows ls f k ++ row ls f k := by
  unfold rows
  rw [List.range_succ, List.flatMap_append]
  simp
theorem row_len (ls : List Ln) (f : Ln → Ln → Bool) (i : Nat) : (row ls f i).length ≤ ls.length := by
  unfold row
  rw [List.length_map]
  refine Nat.le_trans (List.length_filter_le _ _) ?_
  rw [List.length_map, List.length_range]
  omega
theorem rows_len (ls : List Ln) (f : Ln → Ln → Bool) : ∀ k, (rows ls f k).length ≤ k * ls.length
  | 0 => by unfold rows; simp
  | k + 1 => by
    rw [rows_succ, List.length_append, Nat.succ_mul]
    have := rows_len ls f k
    have := row_len ls f k
    omega
theorem rows_ok (ls : List Ln) (f : Ln → Ln → Bool) (k : Nat) : ∀ x ∈ rows ls f k, ∃ i j : Int, x = pt i j := by
  intro x hx
  unfold rows at hx
  obtain ⟨i, _, hi⟩ := List.mem_flatMap.mp hx
  unfold row at hi
  obtain ⟨j, _, rfl⟩ := List.mem_map.mp hi
  exact ⟨_, _, rfl⟩
theorem rows_okn (ls : List Ln) (f : Ln → Ln → Bool) (k : Nat) : OkN 2 (.tup (rows ls f k)) := okn_tup fun x hx => by
  obtain ⟨i, j, rfl⟩ := rows_ok ls f k x hx
  exact okn_pt
end Fr2
namespace W
open PySem L2 Z
local macro_rules | `(tactic| walk_at "mu") => `(tactic| first
  | assumption
  | exact set_same
  | (refine Eq.trans (set_ne ?_) ?_; (first | assumption | (apply Ne.symm; assumption) | (intro h; subst h; simp_all)); walk_at "mu"))
local macro_rules | `(tactic| walk_at "seq") => `(tactic| first
  | rfl
  | (refine seq_ref ?_; walk_at "mu"))
local macro_rules | `(tactic| walk_at "sz") => `(tactic| first
  | assumption
  | (refine sz_2 ?_; decide)
  | (refine sz_8 ?_; decide)
  | (refine sz_32 ?_; decide)
  | (refine sz_128 ?_; decide +kernel)
  | ((with_reducible refine sz_add (a := ?a) (b := ?b) ?h ?k); (case h => walk_at "sz"); (case k => walk_at "sz"))
  | ((with_reducible refine sz_sub (a := ?a) (b := ?b) ?h ?k); (case h => walk_at "sz"); (case k => walk_at "sz"))
  | ((with_reducible refine sz_mul (a := ?a) (b := ?b) ?h ?k); (case h => walk_at "sz"); (case k => walk_at "sz"))
  | ((with_reducible refine sz_neg ?_) <;> walk_at "sz")
  | with_reducible exact sz_b
  | ((with_reducible refine sz_mod ?h1 ?h2); (case h1 => omega); (case h2 => walk_at "sz")))
local macro_rules | `(tactic| walk_at "szN") => `(tactic| first
  | assumption
  | (refine sz_mono (a := ?a) ?h ?l; (case h => walk_at "sz"); (case l => first | decide | omega)))
local macro_rules | `(tactic| walk_at "cond") => `(tactic| first
  | assumption
  | (refine mulw_of (a := ?a) (b := ?b) ?h ?k ?l; (case h => walk_at "sz"); (case k => walk_at "sz"); (case l => first | decide | omega))
  | (refine divw_of (b := ?b) ?h ?k ?l; (case h => omega); (case k => walk_at "sz"); (case l => first | decide | omega))
  | (show (0 : Int) < _; first | assumption | omega | decide)
  | (refine ⟨?_, ?_, ?_⟩ <;> first | assumption | decide | omega))
local macro_rules | `(tactic| walk_at "nf") => `(tactic| ((try simp only [List.set_cons_zero, List.set_cons_succ, Int.reduceToNat, Int.reducePow]); (try dsimp only)))
local macro_rules | `(tactic| walk_at "z1") => `(tactic| first
  | (with_reducible refine s_seq ?_)
  | ((with_reducible refine s_asgX ?_); (first | refine x_meth ?_ | refine x_call ?_))
  | (with_reducible refine s_asg ?_)
  | ((with_reducible refine s_ret ?_); (try dsimp only))
  | ((with_reducible refine s_next ?_); (try dsimp only))
  | ((with_reducible refine s_dropX ?_); (first | refine x_meth ?_ | refine x_call ?_))
  | (with_reducible refine s_drop ?_)
  | ((with_reducible refine s_retN ?_); (try dsimp only))
  | (with_reducible refine s_par ?_)
  | (with_reducible refine s_par3 ?_)
  | ((with_reducible refine g_name ?_); walk_at "nf")
  | ((with_reducible refine g_tup ?zn ?_); (case zn => rfl))
  | (with_reducible refine gs_cons ?_)
  | ((with_reducible refine gs_nil ?_); (try dsimp only))
  | ((with_reducible refine s_aug (d := ?zd) ?zh ?_); (case zh => rfl))
  | ((with_reducible refine a_var (d := ?zd) ?zh ?_); (case zh => rfl))
  | (with_reducible refine a_int ?_)
  | (with_reducible refine a_bl ?_)
  | (with_reducible refine a_str ?_)
  | (with_reducible refine a_non ?_)
  | (with_reducible refine a_ty ?_)
  | (with_reducible refine a_cref ?_)
  | (with_reducible refine a_revT ?_)
  | (with_reducible refine ro_neS ?_)
  | (with_reducible refine a_op ?_)
  | (with_reducible refine a_un ?_)
  | (with_reducible refine aa_cons ?_)
  | (with_reducible refine aa_nil ?_)
  | ((with_reducible refine a_tup ?_))
  | ((with_reducible refine a_lst ?_))
  | ((with_reducible refine a_lenSc (dec := ?zd) ?zt ?_); (case zt => first | exact tg_4 | exact tg_2 | exact tg_3 | exact tg_name))
  | (with_reducible refine a_cb ?_)
  | (with_reducible refine a_call ?_)
  | (with_reducible refine a_callX ?_)
  | (with_reducible refine a_methX ?_)
  | (with_reducible refine a_methI ?_)
  | (with_reducible refine rc_max3 ?_)
  | (with_reducible refine a_if ?_)
  | (with_reducible refine a_andV ?_)
  | (with_reducible refine a_orV ?_)
  | (with_reducible refine a_notV ?_)
  | (with_reducible refine at_test ?_)
  | (with_reducible refine at_B ?_)
  | (with_reducible refine at_and ?_)
  | (with_reducible refine at_or ?_)
  | (with_reducible refine at_not ?_)
  | (with_reducible refine at_yes ?_)
  | (with_reducible refine a_chain ?_)
  | (with_reducible refine a_chain3 ?_)
  | (with_reducible refine s_if ?_)
  | (with_reducible refine g_sub ?_)
  | (with_reducible refine ro_i ?_)
  | (with_reducible refine ru_i ?_)
  | (with_reducible refine ro_b ?_)
  | ((with_reducible refine ro_c (C := CPow) ?zc ?_); (case zc => walk_at "cond"); walk_at "nf")
  | ((with_reducible refine ro_c ?zc ?_); (case zc => walk_at "cond"))
  | ((with_reducible refine ro_ix (ds := ?zd) (e := ?ze) ?zs ?zi ?_); (case zs => walk_at "seq"); (case zi => rfl))
  | ((with_reducible refine set_lst (ds := ?zd) (j := ?zj) ?zs ?zi ?_); (case zs => walk_at "mu"); (case zi => rfl); walk_at "nf")
  | (with_reducible refine a_sl ?_)
  | (with_reducible refine ao_no ?_)
  | (with_reducible refine ao_pt ?_)
  | ((with_reducible refine rs_ref (ds := ?zd) ?zs ?_); (case zs => walk_at "mu"))
  | (with_reducible refine rs_rol ?_)
  | (with_reducible refine rs_tupA ?_)
  | ((with_reducible refine ro_catA ?zl ?_); (case zl => exact Nat.le_of_ble_eq_true rfl))
  | ((with_reducible refine ro_cat (ds := ?zd) (es := ?ze) ?zs ?zt ?zl ?_); (case zs => walk_at "mu"); (case zt => walk_at "mu"); (case zl => exact Nat.le_of_ble_eq_true rfl))
  | (with_reducible refine iteT ?_)
  | (with_reducible refine iteF ?_)
  | (with_reducible refine iteNT ?_)
  | (with_reducible refine iteNF ?_)
  | ((with_reducible refine ro_eqD ?h1 ?h2 ?_); (case h1 => rfl); (case h2 => rfl))
  | ((with_reducible refine ro_neD ?h1 ?h2 ?_); (case h1 => rfl); (case h2 => rfl))
  | ((with_reducible refine ro_inS (ds := ?zd) ?zs ?h1 ?h2 ?_); (case zs => walk_at "seq"); (case h1 => rfl); (case h2 => rfl); (try simp only [if_true, if_false, Bool.false_eq_true]))
  | (with_reducible refine ro_isB ?_)
  | (with_reducible refine ro_isN ?_)
  | (with_reducible refine ro_notN ?_)
  | (with_reducible refine ro_notB ?_)
  | (with_reducible refine ro_eqI ?_)
  | (with_reducible refine ro_neI ?_)
  | (with_reducible refine ro_eqB ?_)
  | (with_reducible refine ro_neB ?_)
  | (with_reducible refine rc_intB ?_)
  | (with_reducible refine rc_intI ?_)
  | (with_reducible refine rc_abs ?_)
  | (with_reducible refine rc_min ?_)
  | (with_reducible refine rc_max ?_)
  | ((with_reducible refine rc_len (ds := ?zd) ?zs ?_); (case zs => walk_at "seq"))
  | ((with_reducible refine rc_isi (n := ?zn) (b := ?zb) ?zs ?zk ?_); (case zs => rfl); (case zk => first | rfl | decide +kernel))
  | (with_reducible refine ⟨_, rfl, ?_⟩)
  | ((with_reducible refine ⟨_, _, rfl, ?_⟩); walk_at "nf")
  | ((with_reducible refine ⟨_, _, _, rfl, ?_⟩); walk_at "nf")
  | (refine ⟨Nat.le_of_ble_eq_true rfl, ?_⟩))
local macro_rules | `(tactic| walk_at "go") => `(tactic| repeat (walk_at "z1"))
def top (i : Nat) : Stmt := PySem.Challenge.pw_rubberroutes_k42_lines_that_meet.main.body.getD i (.Pass ⟨0, 0, 0, 0⟩)
abbrev s_sign_of : Stmt := top 1
abbrev N_sign_of : List Str := ["number"]
theorem sc_sign_of : FnScope N_sign_of ["number"] (defScope s_sign_of) := ⟨rfl, rfl, rfl, by decide +kernel, rfl, by decide +kernel, by decide +kernel⟩
abbrev s_less : Stmt := top 2
abbrev N_less : List Str := ["one", "other"]
theorem sc_less : FnScope N_less ["one", "other"] (defScope s_less) := ⟨rfl, rfl, rfl, by decide +kernel, rfl, by decide +kernel, by decide +kernel⟩
abbrev s_place_side : Stmt := top 3
abbrev N_place_side : List Str := ["a", "b", "c", "along", "up", "across", "over", "left"]
theorem sc_place_side : FnScope N_place_side ["a", "b", "c"] (defScope s_place_side) := ⟨rfl, rfl, rfl, by decide +kernel, rfl, by decide +kernel, by decide +kernel⟩
abbrev s_is_least : Stmt := top 4
abbrev N_is_least : List Str := ["one", "other"]
theorem sc_is_least : FnScope N_is_least ["one", "other"] (defScope s_is_least) := ⟨rfl, rfl, rfl, by decide +kernel, rfl, by decide +kernel, by decide +kernel⟩
abbrev s_overlap : Stmt := top 5
abbrev N_overlap : List Str := ["a", "b", "c", "d", "low", "high", "least", "most"]
theorem sc_overlap : FnScope N_overlap ["a", "b", "c", "d"] (defScope s_overlap) := ⟨rfl, rfl, rfl, by decide +kernel, rfl, by decide +kernel, by decide +kernel⟩
abbrev s_touch : Stmt := top 6
abbrev N_touch : List Str := ["a", "b", "c", "d"]
theorem sc_touch : FnScope N_touch ["a", "b", "c", "d"] (defScope s_touch) := ⟨rfl, rfl, rfl, by decide +kernel, rfl, by decide +kernel, by decide +kernel⟩
abbrev s_l_low : Stmt := top 14
abbrev N_l_low : List Str := ["_law_over", "_law_under", "_law_one", "_law_other"]
theorem sc_l_low : FnScope N_l_low ["_law_over", "_law_under"] (defScope s_l_low) := ⟨rfl, rfl, rfl, by decide +kernel, rfl, by decide +kernel, by decide +kernel⟩
abbrev s_pieces_of : Stmt := top 8
abbrev N_pieces_of : List Str := ["line"]
theorem sc_pieces_of : FnScope N_pieces_of ["line"] (defScope s_pieces_of) := ⟨rfl, rfl, rfl, by decide +kernel, rfl, by decide +kernel, by decide +kernel⟩
abbrev s_lines_meet : Stmt := top 9
abbrev N_lines_meet : List Str := ["one", "other", "a", "b", "c", "d"]
theorem sc_lines_meet : FnScope N_lines_meet ["one", "other"] (defScope s_lines_meet) := ⟨rfl, rfl, rfl, by decide +kernel, rfl, by decide +kernel, by decide +kernel⟩
abbrev s_meeting : Stmt := top 10
abbrev N_meeting : List Str := ["lines", "many", "i", "j"]
theorem sc_meeting : FnScope N_meeting ["lines"] (defScope s_meeting) := ⟨rfl, rfl, rfl, by decide +kernel, rfl, by decide +kernel, by decide +kernel⟩
abbrev s_l_bag : Stmt := top 12
abbrev N_l_bag : List Str := ["_law_script", "_law_at", "_law_cell", "_law_great", "_law_primes"]
theorem sc_l_bag : FnScope N_l_bag ["_law_script", "_law_at"] (defScope s_l_bag) := ⟨rfl, rfl, rfl, by decide +kernel, rfl, by decide +kernel, by decide +kernel⟩
abbrev s_l_take : Stmt := top 13
abbrev N_l_take : List Str := ["_law_bag_here", "_law_many", "_law_digit"]
theorem sc_l_take : FnScope N_l_take ["_law_bag_here", "_law_many"] (defScope s_l_take) := ⟨rfl, rfl, rfl, by decide +kernel, rfl, by decide +kernel, by decide +kernel⟩
abbrev s_l_homogen : Stmt := top 15
abbrev N_l_homogen : List Str := ["_law_place_here", "_law_a", "_law_b", "_law_c", "_law_d"]
theorem sc_l_homogen : FnScope N_l_homogen ["_law_place_here"] (defScope s_l_homogen) := ⟨rfl, rfl, rfl, by decide +kernel, rfl, by decide +kernel, by decide +kernel⟩
abbrev s_l_spin : Stmt := top 16
abbrev N_l_spin : List Str := ["_law_a", "_law_b", "_law_c", "_law_found"]
theorem sc_l_spin : FnScope N_l_spin ["_law_a", "_law_b", "_law_c"] (defScope s_l_spin) := ⟨rfl, rfl, rfl, by decide +kernel, rfl, by decide +kernel, by decide +kernel⟩
abbrev s_l_within : Stmt := top 17
abbrev N_l_within : List Str := ["_law_a", "_law_b", "_law_c", "_law_found", "_law_k", "_law_ends"]
theorem sc_l_within : FnScope N_l_within ["_law_a", "_law_b", "_law_c"] (defScope s_l_within) := ⟨rfl, rfl, rfl, by decide +kernel, rfl, by decide +kernel, by decide +kernel⟩
abbrev s_l_touch : Stmt := top 18
abbrev N_l_touch : List Str := ["_law_a", "_law_b", "_law_c", "_law_d", "_law_rows", "_law_sides", "_law_hand", "_law_one", "_law_other", "_law_far"]
theorem sc_l_touch : FnScope N_l_touch ["_law_a", "_law_b", "_law_c", "_law_d"] (defScope s_l_touch) := ⟨rfl, rfl, rfl, by decide +kernel, rfl, by decide +kernel, by decide +kernel⟩
abbrev s_l_place : Stmt := top 19
abbrev N_l_place : List Str := ["_law_bag_here", "_law_under", "_law_far", "_law_found", "_law_turn", "_law_top"]
theorem sc_l_place : FnScope N_l_place ["_law_bag_here", "_law_under", "_law_far"] (defScope s_l_place) := ⟨rfl, rfl, rfl, by decide +kernel, rfl, by decide +kernel, by decide +kernel⟩
abbrev s_l_lines : Stmt := top 20
abbrev N_l_lines : List Str := ["_law_bag_here", "_law_most", "_law_far", "_law_found", "_law_all_places", "_law_turn", "_law_line", "_law_again", "_law_way", "_law_place_here"]
theorem sc_l_lines : FnScope N_l_lines ["_law_bag_here", "_law_most"] (defScope s_l_lines) := ⟨rfl, rfl, rfl, by decide +kernel, rfl, by decide +kernel, by decide +kernel⟩
abbrev s_l_meet : Stmt := top 21
abbrev N_l_meet : List Str := ["_law_one", "_law_other", "_law_mine", "_law_yours", "_law_k", "_law_j", "_law_place_here"]
theorem sc_l_meet : FnScope N_l_meet ["_law_one", "_law_other"] (defScope s_l_meet) := ⟨rfl, rfl, rfl, by decide +kernel, rfl, by decide +kernel, by decide +kernel⟩
abbrev s_l_pairs : Stmt := top 22
abbrev N_l_pairs : List Str := ["_law_lines_here", "_law_found", "_law_one", "_law_other"]
theorem sc_l_pairs : FnScope N_l_pairs ["_law_lines_here"] (defScope s_l_pairs) := ⟨rfl, rfl, rfl, by decide +kernel, rfl, by decide +kernel, by decide +kernel⟩
abbrev s_law : Stmt := top 23
abbrev N_law : List Str := ["_law_script", "_law_k", "_law_bag_here", "_law_lines_here"]
theorem sc_law : FnScope N_law ["_law_script"] (defScope s_law) := ⟨rfl, rfl, rfl, by decide +kernel, rfl, by decide +kernel, by decide +kernel⟩
structure Bs (mg : Str → Option Value) : Prop where
  b_abs : mg "abs" = none
  b_any : mg "any" = none
  b_int : mg "int" = none
  b_len : mg "len" = none
  b_list : mg "list" = none
  b_max : mg "max" = none
  b_min : mg "min" = none
  b_range : mg "range" = none
  b_tuple : mg "tuple" = none
  b_zip : mg "zip" = none
section
variable {P : Program} {w : World} {K : PySem.W.Frag} {mg : Str → Option Value} {base : Heap}
open Tch Fr2
theorem sz_psd (a b c : Pl) : Sz 1 (psd a b c) := sz_sgn _
local macro_rules | `(tactic| walk_at "sz") => `(tactic| with_reducible exact sz_sgn _)
local macro_rules | `(tactic| walk_at "sz") => `(tactic| with_reducible exact sz_psd _ _ _)
def P_sign_of : PT3 := fun ds μ Φ => ∃ n, ds = [.int n] ∧ Φ (.int (sgn n)) μ
theorem len_sign_of (ds : List D) (μ : M) (Φ : D → M → Prop) (h : P_sign_of ds μ Φ) : ds.length = 1 := by
  obtain ⟨_, rfl, _⟩ := h
  rfl
def P_less : PT3 := fun ds μ Φ => ∃ p1 p2 q1 q2, ds = [pt p1 p2, pt q1 q2] ∧ Sz 2000 p1 ∧ Sz 2000 p2 ∧ Sz 2000 q1 ∧ Sz 2000 q2 ∧ Φ (pt (p1 * q2 - q1 * p2) (p2 * q2)) μ
theorem len_less (ds : List D) (μ : M) (Φ : D → M → Prop) (h : P_less ds μ Φ) : ds.length = 2 := by
  obtain ⟨_, _, _, _, rfl, _⟩ := h
  rfl
theorem use_less {μ : M} {Φ : D → M → Prop} {p1 p2 q1 q2 : Int} (s1 : Sz 2000 p1) (s2 : Sz 2000 p2) (s3 : Sz 2000 q1) (s4 : Sz 2000 q2) (q : Φ (pt (p1 * q2 - q1 * p2) (p2 * q2)) μ) : P_less [pt p1 p2, pt q1 q2] μ Φ := ⟨p1, p2, q1, q2, rfl, s1, s2, s3, s4, q⟩
def P_place_side : PT3 := fun ds μ Φ => ∃ a b c : Pl, ds = [encP a, encP b, encP c] ∧ GoodP a ∧ GoodP b ∧ GoodP c ∧ Φ (.int (psd a b c)) μ
theorem len_place_side (ds : List D) (μ : M) (Φ : D → M → Prop) (h : P_place_side ds μ Φ) : ds.length = 3 := by
  obtain ⟨_, _, _, rfl, _⟩ := h
  rfl
theorem use_place_side {μ : M} {Φ : D → M → Prop} {a b c : Pl} (ha : GoodP a) (hb : GoodP b) (hc : GoodP c) (q : Φ (.int (psd a b c)) μ) : P_place_side [encP a, encP b, encP c] μ Φ := ⟨a, b, c, rfl, ha, hb, hc, q⟩
def P_is_least : PT3 := fun ds μ Φ => ∃ p q : Fq, ds = [encF p, encF q] ∧ Good p ∧ Good q ∧ Φ (.bl (lst p q)) μ
theorem len_is_least (ds : List D) (μ : M) (Φ : D → M → Prop) (h : P_is_least ds μ Φ) : ds.length = 2 := by
  obtain ⟨_, _, rfl, _⟩ := h
  rfl
theorem use_is_least {μ : M} {Φ : D → M → Prop} {p q : Fq} (hp : Good p) (hq : Good q) (k : Φ (.bl (lst p q)) μ) : P_is_least [encF p, encF q] μ Φ := ⟨p, q, rfl, hp, hq, k⟩
def P_overlap : PT3 := fun ds μ Φ => ∃ a b c d : Fq, ds = [encF a, encF b, encF c, encF d] ∧ Good a ∧ Good b ∧ Good c ∧ Good d ∧ Φ (.bl (ovl a b c d)) μ
theorem len_overlap (ds : List D) (μ : M) (Φ : D → M → Prop) (h : P_overlap ds μ Φ) : ds.length = 4 := by
  obtain ⟨_, _, _, _, rfl, _⟩ := h
  rfl
theorem use_overlap {μ : M} {Φ : D → M → Prop} {a b c d : Fq} (ha : Good a) (hb : Good b) (hc : Good c) (hd : Good d) (k : Φ (.bl (ovl a b c d)) μ) : P_overlap [encF a, encF b, encF c, encF d] μ Φ := ⟨a, b, c, d, rfl, ha, hb, hc, hd, k⟩
def P_touch : PT3 := fun ds μ Φ => ∃ a b c d : Pl, ds = [encP a, encP b, encP c, encP d] ∧ GoodP a ∧ GoodP b ∧ GoodP c ∧ GoodP d ∧ Φ (.bl (tch a b c d)) μ
theorem len_touch (ds : List D) (μ : M) (Φ : D → M → Prop) (h : P_touch ds μ Φ) : ds.length = 4 := by
  obtain ⟨_, _, _, _, rfl, _⟩ := h
  rfl
theorem use_touch {μ : M} {Φ : D → M → Prop} {a b c d : Pl} (ha : GoodP a) (hb : GoodP b) (hc : GoodP c) (hd : GoodP d) (k : Φ (.bl (tch a b c d)) μ) : P_touch [encP a, encP b, encP c, encP d] μ Φ := ⟨a, b, c, d, rfl, ha, hb, hc, hd, k⟩
theorem ok_sign_of {f : Addr} {fd : FuncData} (F : Fun K "sign_of" "sign_of" s_sign_of f fd) (B : Bs mg) : FnOk P w K mg base CX0 1 f fd ["number"] (spI K P_sign_of) := by
  refine F.ok sc_sign_of (fun vs H Q E h => spI_len h len_sign_of) (fun cdv A outer s H vs Q E hr h => ?_)
  have hu65 := hu65_of hr
  refine ⟨_, (pss_one (ps_ret (pe_op op_sub (pe_callTy call_int1 (by rfl) B.b_int (by decide +kernel) (pa_cons (pe_cmpR op_gt (pv 0) pe_int (by first | exact nomark _ | rfl)) pa_nil)) (pe_callTy call_int1 (by rfl) B.b_int (by decide +kernel) (pa_cons (pe_cmpR op_lt (pv 0) pe_int (by first | exact nomark _ | rfl)) pa_nil))))), body_ok h (fun ds μ Φ p => ?_)⟩
  (try dsimp only [cxOf, Cx.nox, Cx.wish, List.map_cons, List.map_nil])
  obtain ⟨n, rfl, q⟩ := p
  show AS K _ [some _] _ _
  walk_at "go"
  refine cast_int ?_ q
  unfold sgn
  by_cases h1 : 0 < n <;> by_cases h2 : n < 0 <;> simp [h1, h2] <;> omega
theorem ok_less {f : Addr} {fd : FuncData} (F : Fun K "less" "less" s_less f fd) (B : Bs mg) : FnOk P w K mg base CX0 1 f fd ["one", "other"] (spI K P_less) := by
  refine F.ok sc_less (fun vs H Q E h => spI_len h len_less) (fun cdv A outer s H vs Q E hr h => ?_)
  have hu65 := hu65_of hr
  refine ⟨_, (pss_one (ps_ret (pe_tup (pa_cons (pe_op op_sub (pe_op op_mulW (pe_ix (ix_seqK (K := K) rfl) (pv 0) pe_int (fun _ _ => rfl)) (pe_ix (ix_seqK (K := K) rfl) (pv 1) pe_int (fun _ _ => rfl))) (pe_op op_mulW (pe_ix (ix_seqK (K := K) rfl) (pv 1) pe_int (fun _ _ => rfl)) (pe_ix (ix_seqK (K := K) rfl) (pv 0) pe_int (fun _ _ => rfl)))) (pa_cons (pe_op op_mulW (pe_ix (ix_seqK (K := K) rfl) (pv 0) pe_int (fun _ _ => rfl)) (pe_ix (ix_seqK (K := K) rfl) (pv 1) pe_int (fun _ _ => rfl))) pa_nil))))), body_ok h (fun ds μ Φ p => ?_)⟩
  (try dsimp only [cxOf, Cx.nox, Cx.wish, List.map_cons, List.map_nil])
  obtain ⟨p1, p2, q1, q2, rfl, s1, s2, s3, s4, q⟩ := p
  show AS K _ [some _, some _] _ _
  walk_at "go"
  exact q
theorem ok_place_side {f : Addr} {fd : FuncData} (F : Fun K "place_side" "place_side" s_place_side f fd) (B : Bs mg) (G_less : Def P w K mg base "less" ["one", "other"] 1 (spI K P_less)) (G_sign_of : Def P w K mg base "sign_of" ["number"] 1 (spI K P_sign_of)) : FnOk P w K mg base CX0 2 f fd ["a", "b", "c"] (spI K P_place_side) := by
  refine F.ok sc_place_side (fun vs H Q E h => spI_len h len_place_side) (fun cdv A outer s H vs Q E hr h => ?_)
  have hu65 := hu65_of hr
  refine ⟨_, (pss_cons (ps_par (i := 3) (j := 4) rfl sc_place_side.nd rfl rfl (by decide) rfl rfl (pa_cons (pe_def G_less (hr.mono (by decide)) (by rfl) (pa_cons (pe_ix (ix_seqK (K := K) rfl) (pv 1) pe_int (fun _ _ => rfl)) (pa_cons (pe_ix (ix_seqK (K := K) rfl) (pv 0) pe_int (fun _ _ => rfl)) pa_nil))) (pa_cons (pe_def G_less (hr.mono (by decide)) (by rfl) (pa_cons (pe_ix (ix_seqK (K := K) rfl) (pv 1) pe_int (fun _ _ => rfl)) (pa_cons (pe_ix (ix_seqK (K := K) rfl) (pv 0) pe_int (fun _ _ => rfl)) pa_nil))) pa_nil)) (by rfl))
      (pss_cons (ps_par (i := 5) (j := 6) rfl sc_place_side.nd rfl rfl (by decide) rfl rfl (pa_cons (pe_def G_less (hr.mono (by decide)) (by rfl) (pa_cons (pe_ix (ix_seqK (K := K) rfl) (pv 2) pe_int (fun _ _ => rfl)) (pa_cons (pe_ix (ix_seqK (K := K) rfl) (pv 0) pe_int (fun _ _ => rfl)) pa_nil))) (pa_cons (pe_def G_less (hr.mono (by decide)) (by rfl) (pa_cons (pe_ix (ix_seqK (K := K) rfl) (pv 2) pe_int (fun _ _ => rfl)) (pa_cons (pe_ix (ix_seqK (K := K) rfl) (pv 0) pe_int (fun _ _ => rfl)) pa_nil))) pa_nil)) (by rfl))
      (pss_cons (ps_set (i := 7) sc_place_side.nd rfl (by first | exact Or.inl rfl | exact Or.inr rfl) (pe_op op_mulW (pe_op op_mulW (pe_op op_mulW (pe_ix (ix_seqK (K := K) rfl) (pv 3) pe_int (fun _ _ => rfl)) (pe_ix (ix_seqK (K := K) rfl) (pv 6) pe_int (fun _ _ => rfl))) (pe_ix (ix_seqK (K := K) rfl) (pv 4) pe_int (fun _ _ => rfl))) (pe_ix (ix_seqK (K := K) rfl) (pv 5) pe_int (fun _ _ => rfl))))
      (pss_one (ps_ret (pe_def G_sign_of (hr.mono (by decide)) (by rfl) (pa_cons (pe_op op_sub (pv 7) (pe_op op_mulW (pe_op op_mulW (pe_op op_mulW (pe_ix (ix_seqK (K := K) rfl) (pv 4) pe_int (fun _ _ => rfl)) (pe_ix (ix_seqK (K := K) rfl) (pv 5) pe_int (fun _ _ => rfl))) (pe_ix (ix_seqK (K := K) rfl) (pv 3) pe_int (fun _ _ => rfl))) (pe_ix (ix_seqK (K := K) rfl) (pv 6) pe_int (fun _ _ => rfl)))) pa_nil))))))), body_ok h (fun ds μ Φ p => ?_)⟩
  (try dsimp only [cxOf, Cx.nox, Cx.wish, List.map_cons, List.map_nil])
  obtain ⟨a, b, c, rfl, ⟨⟨_, a1, a2⟩, ⟨_, a3, a4⟩⟩, ⟨⟨_, b1, b2⟩, ⟨_, b3, b4⟩⟩, ⟨⟨_, c1, c2⟩, ⟨_, c3, c4⟩⟩, q⟩ := p
  show AS K _ [some _, some _, some _, none, none, none, none, none] _ _
  walk_at "go"
  refine use_less b1 b2 a1 a2 ?_
  walk_at "go"
  refine use_less b3 b4 a3 a4 ?_
  walk_at "go"
  refine use_less c1 c2 a1 a2 ?_
  walk_at "go"
  refine use_less c3 c4 a3 a4 ?_
  walk_at "go"
  exact ⟨_, rfl, q⟩
theorem ok_is_least {f : Addr} {fd : FuncData} (F : Fun K "is_least" "is_least" s_is_least f fd) (B : Bs mg) : FnOk P w K mg base CX0 1 f fd ["one", "other"] (spI K P_is_least) := by
  refine F.ok sc_is_least (fun vs H Q E h => spI_len h len_is_least) (fun cdv A outer s H vs Q E hr h => ?_)
  have hu65 := hu65_of hr
  refine ⟨_, (pss_one (ps_ret (pe_cmpR op_le (pe_op op_mulW (pe_ix (ix_seqK (K := K) rfl) (pv 0) pe_int (fun _ _ => rfl)) (pe_ix (ix_seqK (K := K) rfl) (pv 1) pe_int (fun _ _ => rfl))) (pe_op op_mulW (pe_ix (ix_seqK (K := K) rfl) (pv 1) pe_int (fun _ _ => rfl)) (pe_ix (ix_seqK (K := K) rfl) (pv 0) pe_int (fun _ _ => rfl))) (by first | exact nomark _ | rfl)))), body_ok h (fun ds μ Φ p => ?_)⟩
  (try dsimp only [cxOf, Cx.nox, Cx.wish, List.map_cons, List.map_nil])
  obtain ⟨a, b, rfl, ⟨_, a1, a2⟩, ⟨_, b1, b2⟩, q⟩ := p
  show AS K _ [some _, some _] _ _
  walk_at "go"
  exact q
theorem ok_overlap {f : Addr} {fd : FuncData} (F : Fun K "overlap" "overlap" s_overlap f fd) (B : Bs mg) (G_is_least : Def P w K mg base "is_least" ["one", "other"] 1 (spI K P_is_least)) : FnOk P w K mg base CX0 2 f fd ["a", "b", "c", "d"] (spI K P_overlap) := by
  refine F.ok sc_overlap (fun vs H Q E h => spI_len h len_overlap) (fun cdv A outer s H vs Q E hr h => ?_)
  have hu65 := hu65_of hr
  refine ⟨_, (pss_cons (ps_asg (pe_ifExp (pt_val (pe_def G_is_least (hr.mono (by decide)) (by rfl) (pa_cons (pv 0) (pa_cons (pv 1) pa_nil)))) (pe_tup (pa_cons (pv 0) (pa_cons (pv 1) pa_nil))) (pe_tup (pa_cons (pv 1) (pa_cons (pv 0) pa_nil)))) (pg_tup (by rfl) (pgs_cons (pg_name (i := 4) sc_overlap.nd rfl (by first | exact Or.inl rfl | exact Or.inr rfl)) (pgs_cons (pg_name (i := 5) sc_overlap.nd rfl (by first | exact Or.inl rfl | exact Or.inr rfl)) pgs_nil))))
      (pss_cons (ps_asg (pe_ifExp (pt_val (pe_def G_is_least (hr.mono (by decide)) (by rfl) (pa_cons (pv 2) (pa_cons (pv 3) pa_nil)))) (pe_tup (pa_cons (pv 2) (pa_cons (pv 3) pa_nil))) (pe_tup (pa_cons (pv 3) (pa_cons (pv 2) pa_nil)))) (pg_tup (by rfl) (pgs_cons (pg_name (i := 6) sc_overlap.nd rfl (by first | exact Or.inl rfl | exact Or.inr rfl)) (pgs_cons (pg_name (i := 7) sc_overlap.nd rfl (by first | exact Or.inl rfl | exact Or.inr rfl)) pgs_nil))))
      (pss_one (ps_ret (pe_and (pe_def G_is_least (hr.mono (by decide)) (by rfl) (pa_cons (pv 4) (pa_cons (pv 7) pa_nil))) (pe_one (pe_def G_is_least (hr.mono (by decide)) (by rfl) (pa_cons (pv 6) (pa_cons (pv 5) pa_nil))))))))), body_ok h (fun ds μ Φ p => ?_)⟩
  (try dsimp only [cxOf, Cx.nox, Cx.wish, List.map_cons, List.map_nil])
  obtain ⟨a, b, c, d, rfl, ha, hb, hc, hd, q⟩ := p
  show AS K _ [some _, some _, some _, some _, none, none, none, none] _ _
  walk_at "go"
  refine use_is_least ha hb ?_
  walk_at "go"
  refine ite_b (fun e1 => ?_) (fun e1 => ?_)
  · walk_at "go"
    refine use_is_least hc hd ?_
    walk_at "go"
    refine ite_b (fun e2 => ?_) (fun e2 => ?_)
    · walk_at "go"
      refine use_is_least ha hd ?_
      walk_at "go"
      refine ite_b (fun e3 => ?_) (fun e3 => ?_)
      · walk_at "go"
        refine use_is_least hc hb ?_
        exact cast_bl (by unfold ovl; simp only [e1, e2, e3, if_true, Bool.true_and]) q
      · exact cast_bl (by unfold ovl; simp only [e1, e2, e3, if_true, Bool.false_and]) q
    · walk_at "go"
      refine use_is_least ha hc ?_
      walk_at "go"
      refine ite_b (fun e3 => ?_) (fun e3 => ?_)
      · walk_at "go"
        refine use_is_least hd hb ?_
        exact cast_bl (by unfold ovl; simp only [e1, e2, e3, if_true, Bool.true_and, Bool.false_eq_true, if_false]) q
      · exact cast_bl (by unfold ovl; simp only [e1, e2, e3, if_true, Bool.false_and, Bool.false_eq_true, if_false]) q
  · walk_at "go"
    refine use_is_least hc hd ?_
    walk_at "go"
    refine ite_b (fun e2 => ?_) (fun e2 => ?_)
    · walk_at "go"
      refine use_is_least hb hd ?_
      walk_at "go"
      refine ite_b (fun e3 => ?_) (fun e3 => ?_)
      · walk_at "go"
        refine use_is_least hc ha ?_
        exact cast_bl (by unfold ovl; simp only [e1, e2, e3, if_true, Bool.true_and, Bool.false_eq_true, if_false]) q
      · exact cast_bl (by unfold ovl; simp only [e1, e2, e3, if_true, Bool.false_and, Bool.false_eq_true, if_false]) q
    · walk_at "go"
      refine use_is_least hb hc ?_
      walk_at "go"
      refine ite_b (fun e3 => ?_) (fun e3 => ?_)
      · walk_at "go"
        refine use_is_least hd ha ?_
        exact cast_bl (by unfold ovl; simp only [e1, e2, e3, if_true, Bool.true_and, Bool.false_eq_true, if_false]) q
      · exact cast_bl (by unfold ovl; simp only [e1, e2, e3, if_true, Bool.false_and, Bool.false_eq_true, if_false]) q
theorem ok_touch {f : Addr} {fd : FuncData} (F : Fun K "touch" "touch" s_touch f fd) (B : Bs mg) (G_overlap : Def P w K mg base "overlap" ["a", "b", "c", "d"] 2 (spI K P_overlap)) (G_place_side : Def P w K mg base "place_side" ["a", "b", "c"] 2 (spI K P_place_side)) : FnOk P w K mg base CX0 3 f fd ["a", "b", "c", "d"] (spI K P_touch) := by
  refine F.ok sc_touch (fun vs H Q E h => spI_len h len_touch) (fun cdv A outer s H vs Q E hr h => ?_)
  have hu65 := hu65_of hr
  refine ⟨_, (pss_cons (ps_if (PW.pt (pw_or (pt_not (pt_val (pe_def G_overlap (hr.mono (by decide)) (by rfl) (pa_cons (pe_ix (ix_seqK (K := K) rfl) (pv 0) pe_int (fun _ _ => rfl)) (pa_cons (pe_ix (ix_seqK (K := K) rfl) (pv 1) pe_int (fun _ _ => rfl)) (pa_cons (pe_ix (ix_seqK (K := K) rfl) (pv 2) pe_int (fun _ _ => rfl)) (pa_cons (pe_ix (ix_seqK (K := K) rfl) (pv 3) pe_int (fun _ _ => rfl)) pa_nil))))))) (pw_or1 (pt_not (pt_val (pe_def G_overlap (hr.mono (by decide)) (by rfl) (pa_cons (pe_ix (ix_seqK (K := K) rfl) (pv 0) pe_int (fun _ _ => rfl)) (pa_cons (pe_ix (ix_seqK (K := K) rfl) (pv 1) pe_int (fun _ _ => rfl)) (pa_cons (pe_ix (ix_seqK (K := K) rfl) (pv 2) pe_int (fun _ _ => rfl)) (pa_cons (pe_ix (ix_seqK (K := K) rfl) (pv 3) pe_int (fun _ _ => rfl)) pa_nil)))))))))) (pss_one (ps_ret pe_bl)) pss_nil)
      (pss_cons (ps_if (pt_cmpR op_gt (pe_op op_mulW (pe_def G_place_side (hr.mono (by decide)) (by rfl) (pa_cons (pv 0) (pa_cons (pv 1) (pa_cons (pv 2) pa_nil)))) (pe_def G_place_side (hr.mono (by decide)) (by rfl) (pa_cons (pv 0) (pa_cons (pv 1) (pa_cons (pv 3) pa_nil))))) pe_int (by first | exact nomark _ | rfl)) (pss_one (ps_ret pe_bl)) pss_nil)
      (pss_one (ps_ret (pe_cmpR op_le (pe_op op_mulW (pe_def G_place_side (hr.mono (by decide)) (by rfl) (pa_cons (pv 2) (pa_cons (pv 3) (pa_cons (pv 0) pa_nil)))) (pe_def G_place_side (hr.mono (by decide)) (by rfl) (pa_cons (pv 2) (pa_cons (pv 3) (pa_cons (pv 1) pa_nil))))) pe_int (by first | exact nomark _ | rfl)))))), body_ok h (fun ds μ Φ p => ?_)⟩
  (try dsimp only [cxOf, Cx.nox, Cx.wish, List.map_cons, List.map_nil])
  obtain ⟨a, b, c, d, rfl, ha, hb, hc, hd, q⟩ := p
  show AS K _ [some _, some _, some _, some _] _ _
  walk_at "go"
  refine use_overlap ha.x hb.x hc.x hd.x ?_
  walk_at "go"
  cases e1 : ovl a.1 b.1 c.1 d.1
  · walk_at "go"
    exact cast_bl (by unfold tch; simp only [e1, Bool.false_and]) q
  · walk_at "go"
    refine use_overlap ha.y hb.y hc.y hd.y ?_
    walk_at "go"
    cases e2 : ovl a.2 b.2 c.2 d.2
    · walk_at "go"
      exact cast_bl (by unfold tch; simp only [e1, e2, Bool.false_and, Bool.true_and]) q
    · walk_at "go"
      refine use_place_side ha hb hc ?_
      walk_at "go"
      refine use_place_side ha hb hd ?_
      walk_at "go"
      refine ite_d (fun e3 => ?_) (fun e3 => ?_)
      · walk_at "go"
        exact cast_bl (by unfold tch; simp only [e1, e2, decide_eq_true e3, Bool.not_true, Bool.false_and, Bool.true_and]) q
      · walk_at "go"
        refine use_place_side hc hd ha ?_
        walk_at "go"
        refine use_place_side hc hd hb ?_
        walk_at "go"
        exact cast_bl (by unfold tch; simp only [e1, e2, decide_eq_false e3, Bool.not_false, Bool.true_and]) q
def Lo (x y : Int) (p : Fq) : Prop := ∃ k : Int, 0 < k ∧ p.1 * k = x ∧ p.2 * k = y
def P_l_low : PT3 := fun ds μ Φ => ∃ (x y : Int) (n : Nat), ds = [.int x, .int y] ∧ 0 < y ∧ Sz n x ∧ Sz n y ∧ n ≤ 8000 ∧ ∀ p : Fq, Lo x y p → Gd n p → Φ (encF p) μ
theorem len_l_low (ds : List D) (μ : M) (Φ : D → M → Prop) (h : P_l_low ds μ Φ) : ds.length = 2 := by
  obtain ⟨_, _, _, rfl, _⟩ := h
  rfl
theorem use_low (n : Nat) {μ : M} {Φ : D → M → Prop} {x y : Int} (h0 : 0 < y) (s1 : Sz n x) (s2 : Sz n y) (hn : n ≤ 8000) (q : ∀ p : Fq, Lo x y p → Gd n p → Φ (encF p) μ) : P_l_low [.int x, .int y] μ Φ := ⟨x, y, n, rfl, h0, s1, s2, hn, q⟩
theorem ok_l_low {f : Addr} {fd : FuncData} (F : Fun K "_law_low" "_law_low" s_l_low f fd) (B : Bs mg) : FnOk P w K mg base CX0 1 f fd ["_law_over", "_law_under"] (spI K P_l_low) := by
  refine F.ok sc_l_low (fun vs H Q E h => spI_len h len_l_low) (fun cdv A outer s H vs Q E hr h => ?_)
  have hu65 := hu65_of hr
  refine ⟨_, (pss_cons (ps_par (i := 2) (j := 3) rfl sc_l_low.nd rfl rfl (by decide) rfl rfl (pa_cons (pe_callB call_abs (by rfl) B.b_abs (by decide +kernel) (pa_cons (pv 0) pa_nil)) (pa_cons (pv 1) pa_nil)) (by rfl))
      (pss_cons (ps_while PassesOwn.never (pt_cmpR op_gt (pv 2) pe_int (by first | exact nomark _ | rfl)) (pss_one (ps_par (i := 2) (j := 3) rfl sc_l_low.nd rfl rfl (by decide) rfl rfl (pa_cons (pe_op op_mod (pv 3) (pv 2)) (pa_cons (pv 2) pa_nil)) (by rfl))))
      (pss_one (ps_ret (pe_tup (pa_cons (pe_op op_fdivW (pv 0) (pv 3)) (pa_cons (pe_op op_fdivW (pv 1) (pv 3)) pa_nil))))))), body_ok h (fun ds μ Φ p => ?_)⟩
  (try dsimp only [cxOf, Cx.nox, Cx.wish, List.map_cons, List.map_nil])
  obtain ⟨x, y, n, rfl, hy, s1, s2, hn, q⟩ := p
  show AS K _ [some _, some _, none, none] _ _
  walk_at "go"
  refine s_while (fun m τ' μ' => ∃ l b : Nat, m = l ∧ 0 < b ∧ Nat.gcd l b = Nat.gcd x.natAbs y.natAbs ∧ μ' = μ ∧ τ' = [some (.int x), some (.int y), some (.int (l : Int)), some (.int (b : Int))]) x.natAbs ?_ ?_
  · refine ⟨x.natAbs, y.natAbs, rfl, by omega, rfl, rfl, ?_⟩
    show [some (D.int x), some (D.int y), some (D.int (if x < 0 then -x else x)), some (D.int y)] = _
    rw [absn, show ((y.natAbs : Nat) : Int) = y by omega]
  · rintro m τ' μ' ⟨l, b, rfl, hb, hg, rfl, rfl⟩
    walk_at "go"
    refine ite_d (fun hl => ?_) (fun hl => ?_)
    · walk_at "go"
      refine ⟨b % m, Nat.mod_lt _ (by omega), b % m, m, rfl, by omega, by rw [gcd_turn]; exact hg, ?_⟩
      simp
    · have e : m = 0 := by omega
      subst e
      rw [Nat.gcd_zero_left] at hg
      obtain ⟨g0, e1, e2, p2⟩ := div_fact (x := x) hy hg.symm
      have sb : Sz n (b : Int) := by
        have : Sz n y := s2
        have hd : b ∣ y.natAbs := by rw [hg]; exact Nat.gcd_dvd_right _ _
        have hle := Nat.le_of_dvd (by omega) hd
        unfold Sz at *
        omega
      have c1 : CDivW x (b : Int) := divw_of (by omega) sb (by omega)
      have c2 : CDivW y (b : Int) := c1
      have z1 := div_size g0 e1 s1
      have z2 := div_size g0 e2 s2
      walk_at "go"
      exact q (x / (b : Int), y / (b : Int)) ⟨b, by omega, e1, e2⟩ ⟨p2, z1, z2⟩
open Tch Fr2
def P_pieces_of : PT3 := fun ds μ Φ => ∃ l : Ln, ds = [encL l] ∧ ∀ p, μ p = none → Φ (.ref p) (μ.set p (.lst ((pcs l).map encC)))
theorem len_pieces_of (ds : List D) (μ : M) (Φ : D → M → Prop) (h : P_pieces_of ds μ Φ) : ds.length = 1 := by
  obtain ⟨_, rfl, _⟩ := h
  rfl
theorem use_pieces {μ : M} {Φ : D → M → Prop} {l : Ln} (q : ∀ p, μ p = none → Φ (.ref p) (μ.set p (.lst ((pcs l).map encC)))) : P_pieces_of [encL l] μ Φ := ⟨l, rfl, q⟩
def P_lines_meet : PT3 := fun ds μ Φ => ∃ l m : Ln, ds = [encL l, encL m] ∧ l.length ≤ 1000 ∧ m.length ≤ 1000 ∧ (∀ p ∈ l, GoodP p) ∧ (∀ p ∈ m, GoodP p) ∧ Φ (.bl (lmeet l m)) μ
theorem len_lines_meet (ds : List D) (μ : M) (Φ : D → M → Prop) (h : P_lines_meet ds μ Φ) : ds.length = 2 := by
  obtain ⟨_, _, rfl, _⟩ := h
  rfl
theorem use_lines_meet {μ : M} {Φ : D → M → Prop} {l m : Ln} (h1 : l.length ≤ 1000) (h2 : m.length ≤ 1000) (g1 : ∀ p ∈ l, GoodP p) (g2 : ∀ p ∈ m, GoodP p) (q : Φ (.bl (lmeet l m)) μ) : P_lines_meet [encL l, encL m] μ Φ := ⟨l, m, rfl, h1, h2, g1, g2, q⟩
structure LsOk (ls : List Ln) : Prop where
  n : ls.length ≤ 100
  l : ∀ l ∈ ls, l.length ≤ 1000 ∧ ∀ p ∈ l, GoodP p
abbrev encLs (ls : List Ln) : D := .tup (ls.map encL)
def P_meeting : PT3 := fun ds μ Φ => ∃ ls : List Ln, ds = [encLs ls] ∧ LsOk ls ∧ Φ (.tup (rows ls lmeet ls.length)) μ
theorem len_meeting (ds : List D) (μ : M) (Φ : D → M → Prop) (h : P_meeting ds μ Φ) : ds.length = 1 := by
  obtain ⟨_, rfl, _⟩ := h
  rfl
theorem use_meeting {μ : M} {Φ : D → M → Prop} {ls : List Ln} (h : LsOk ls) (q : Φ (.tup (rows ls lmeet ls.length)) μ) : P_meeting [encLs ls] μ Φ := ⟨ls, rfl, h, q⟩
theorem size_of {n : Nat} (h : n ≤ 100000) : n < sizeLine := Nat.lt_of_le_of_lt h (by decide)
theorem mapget {α β : Type} {f : α → β} {l : List α} {i : Nat} {x : β} (h : (l.map f)[i]? = some x) : ∃ y, l[i]? = some y ∧ x = f y := by
  rw [List.getElem?_map] at h
  cases e : l[i]? with
  | none => rw [e] at h; cases h
  | some y => rw [e] at h; cases h; exact ⟨y, rfl, rfl⟩
theorem take_snoc {α : Type} {l : List α} {i : Nat} {x : α} (h : l[i]? = some x) : l.take (i + 1) = l.take i ++ [x] := by
  rw [List.take_add_one, h]; rfl
theorem mem_snoc {α : Type} {p : α → Prop} {l : List α} {i : Nat} {x : α} (h : l[i]? = some x) (k : ∀ y ∈ l.take i, p y) (hx : p x) : ∀ y ∈ l.take (i + 1), p y := by
  intro y hy
  rw [take_snoc h, List.mem_append] at hy
  rcases hy with hy | hy
  · exact k y hy
  · rw [List.mem_singleton.mp hy]; exact hx
theorem atl {ls : List Ln} {i : Nat} (h : i < ls.length) : atI (ls.map encL) (i : Int) = some (encL (ls.getD i [])) := by
  refine atI_nat ?_
  rw [List.getElem?_map, List.getElem?_eq_getElem h, List.getD_eq_getElem?_getD, List.getElem?_eq_getElem h]
  rfl
theorem getD_mem {ls : List Ln} {i : Nat} (h : i < ls.length) : ls.getD i [] ∈ ls := by
  rw [List.getD_eq_getElem?_getD, List.getElem?_eq_getElem h]
  exact List.getElem_mem h
/-- the first k of the i-th row -/
def part (ls : List Ln) (f : Ln → Ln → Bool) (i k : Nat) : List D := (((List.range k).map fun k => i + 1 + k).filter fun j => f (ls.getD i []) (ls.getD j [])).map fun (j : Nat) => pt (i : Int) (j : Int)
theorem part_succ (ls : List Ln) (f : Ln → Ln → Bool) (i k : Nat) : part ls f i (k + 1) = part ls f i k ++ (if f (ls.getD i []) (ls.getD (i + 1 + k) []) = true then [pt (i : Int) ((i + 1 + k : Nat) : Int)] else []) := by
  unfold part
  rw [List.range_succ, List.map_append, List.filter_append, List.map_append]
  congr 1
  simp only [List.map_cons, List.map_nil, List.filter_cons, List.filter_nil]
  split <;> rfl
theorem part_len (ls : List Ln) (f : Ln → Ln → Bool) (i k : Nat) : (part ls f i k).length ≤ k := by
  unfold part
  rw [List.length_map]
  refine Nat.le_trans (List.length_filter_le _ _) ?_
  rw [List.length_map, List.length_range]
  exact Nat.le_refl _
theorem part_all (ls : List Ln) (f : Ln → Ln → Bool) (i : Nat) : part ls f i (ls.length - (i + 1)) = row ls f i := rfl
theorem rows_small {ls : List Ln} (h : LsOk ls) (f : Ln → Ln → Bool) {k : Nat} (hk : k ≤ ls.length) : (rows ls f k).length ≤ 10000 := by
  have h1 := rows_len ls f k
  have h2 := h.n
  have h3 : k * ls.length ≤ 100 * 100 := Nat.mul_le_mul (by omega) h2
  omega
theorem ok_pieces_of {f : Addr} {fd : FuncData} (F : Fun K "pieces_of" "pieces_of" s_pieces_of f fd) (B : Bs mg) : FnOk P w K mg base CX0 1 f fd ["line"] (spI K P_pieces_of) := by
  refine F.ok sc_pieces_of (fun vs H Q E h => spI_len h len_pieces_of) (fun cdv A outer s H vs Q E hr h => ?_)
  have hu65 := hu65_of hr
  refine ⟨_, (pss_one (ps_ret (ZL.pe_listZip rfl (by rfl) B.b_list (by rfl) B.b_zip (pa_cons (pv 0) (pa_cons (pe_slice (sl_tupAK (K := K) rfl) (pv 0) (po_some pe_int) po_none) pa_nil))))), body_ok h (fun ds μ Φ p => ?_)⟩
  (try dsimp only [cxOf, Cx.nox, Cx.wish, List.map_cons, List.map_nil])
  obtain ⟨l, rfl, q⟩ := p
  show AS K _ [some _] _ _
  refine s_ret (a_listZip ?_)
  walk_at "go"
  intro p hp
  rw [cut1, pcs_zip]
  exact q p hp
theorem ok_lines_meet {f : Addr} {fd : FuncData} (F : Fun K "lines_meet" "lines_meet" s_lines_meet f fd) (B : Bs mg) (G_pieces_of : Def P w K mg base "pieces_of" ["line"] 1 (spI K P_pieces_of)) (G_touch : Def P w K mg base "touch" ["a", "b", "c", "d"] 3 (spI K P_touch)) : FnOk P w K mg base CX0 4 f fd ["one", "other"] (spI K P_lines_meet) := by
  refine F.ok sc_lines_meet (fun vs H Q E h => spI_len h len_lines_meet) (fun cdv A outer s H vs Q E hr h => ?_)
  have hu65 := hu65_of hr
  refine ⟨_, (pss_cons (ps_for PassesOwn.never rfl (pi_listK (K := K) rfl (pe_def G_pieces_of (hr.mono (by decide)) (by rfl) (pa_cons (pv 0) pa_nil))) (pg_tup (by rfl) (pgs_cons (pg_name (i := 2) sc_lines_meet.nd rfl (by first | exact Or.inl rfl | exact Or.inr rfl)) (pgs_cons (pg_name (i := 3) sc_lines_meet.nd rfl (by first | exact Or.inl rfl | exact Or.inr rfl)) pgs_nil)))
      (pss_one (ps_if (pt_val (pe_callB (cr_anyK (K := K) rfl rfl) (by rfl) B.b_any (by decide +kernel) (pa_cons (pe_lc (own := [("c", 4), ("d", 5)]) (g := gTup K 2 (gCons (gName 4) (gCons (gName 5) gNil))) (tt := tYes) rfl sc_lines_meet.nd (pi_listK (K := K) rfl (pe_def G_pieces_of (hr.mono (by decide)) (by rfl) (pa_cons (pv 1) pa_nil))) (blkOk_by (own := [("c", 4), ("d", 5)]) (N := N_lines_meet) (sc := defScope s_lines_meet) (by decide +kernel)) (fun _ _ _ _ _ => (pg_tup (by rfl) (pgs_cons (pg_name (i := 4) sc_lines_meet.nd rfl (by first | exact Or.inl rfl | exact Or.inr rfl)) (pgs_cons (pg_name (i := 5) sc_lines_meet.nd rfl (by first | exact Or.inl rfl | exact Or.inr rfl)) pgs_nil)))) (fun _ _ _ _ _ => pts_nil) (fun _ _ _ _ _ => (pe_def G_touch (hr.mono (by decide)) (by rfl) (pa_cons (pv 2) (pa_cons (pv 3) (pa_cons (pv 4) (pa_cons (pv 5) pa_nil))))))) pa_nil))) (pss_one (ps_ret pe_bl)) pss_nil)))
      (pss_one (ps_ret pe_bl))), body_okU h (fun ds μ Φ p => ?_)⟩
  (try dsimp only [cxOf, Cx.nox, Cx.wish, List.map_cons, List.map_nil])
  obtain ⟨l, m, rfl, h1, h2, g1, g2, q⟩ := p
  show AS K _ [some _, some _, none, none, none, none] _ _
  walk_at "go"
  refine s_for (ai_L ?_)
  walk_at "go"
  refine use_pieces fun p hp => ?_
  refine ⟨p, _, rfl, set_same, ?_⟩
  rw [set_del hp]
  refine ⟨fun i τ' μ' => (∀ x ∈ (pcs l).take i, ((pcs m).any fun y => tch x.1 x.2 y.1 y.2) = false) ∧ Sub μ μ' ∧ ∃ o3 o4 : Option D, τ' = [some (encL l), some (encL m), o3, o4, none, none], ⟨by simp, Sub.refl, _, _, rfl⟩, ?_, ?_⟩
  · rintro i x τ' μ' hx ⟨hi, sb, o3, o4, rfl⟩
    obtain ⟨x, hx', rfl⟩ := mapget hx
    have hm := pcs_mem (List.mem_of_getElem? hx')
    have ga := g1 _ hm.1
    have gb := g1 _ hm.2
    walk_at "go"
    refine a_lc tg_2 (ai_L ?_)
    walk_at "go"
    refine use_pieces fun r hr => ?_
    refine ⟨r, _, rfl, set_same, ?_⟩
    rw [set_del hr]
    refine ⟨fun j acc μ2 => acc = (((pcs m).take j).map fun y => tch x.1 x.2 y.1 y.2).map D.bl ∧ μ2 = μ', ⟨rfl, rfl⟩, ?_, ?_⟩
    · rintro j y acc μ2 hy ⟨rfl, rfl⟩
      obtain ⟨y, hy', rfl⟩ := mapget hy
      have hn := pcs_mem (List.mem_of_getElem? hy')
      refine ⟨_, ⟨rfl, rfl⟩, rfl, ?_⟩
      refine at_yes ?_
      rw [if_pos rfl]
      walk_at "nf"
      walk_at "go"
      refine use_touch ga gb (g2 _ hn.1) (g2 _ hn.2) ?_
      refine ⟨size_of ?_, ?_, rfl⟩
      · rw [List.length_map, List.length_map, List.length_take]
        have := pcs_len m
        omega
      · rw [take_snoc hy', List.map_append, List.map_append]
        rfl
    · rintro acc μ2 ⟨rfl, rfl⟩ w hw
      dsimp only at hw ⊢
      walk_at "go"
      refine rc_any set_same ?_
      have e : (((((pcs m).map encC).length |> (pcs m).take).map fun y => tch x.1 x.2 y.1 y.2).any id) = (pcs m).any fun y => tch x.1 x.2 y.1 y.2 := by
        rw [List.length_map, List.take_length, List.any_map]
        rfl
      rw [e]
      have nr : ∀ {Y : MO}, Sub μ (μ2.set r Y) := fun {Y} => sub_new sb hr
      have sbw : ∀ {Z : MO}, Sub μ ((μ2.set r (.lst ((pcs m).map encC))).set w Z) := fun {Z} => sub_new nr hw
      cases e2 : (pcs m).any fun y => tch x.1 x.2 y.1 y.2
      · walk_at "go"
        exact ⟨mem_snoc hx' hi e2, sbw, _, _, rfl⟩
      · walk_at "go"
        refine up_of (sub_own sbw hp) (cast_bl ?_ q)
        unfold lmeet
        exact (List.any_eq_true.mpr ⟨x, List.mem_of_getElem? hx', e2⟩).symm
  · rintro τ' μ' ⟨hi, sb, o3, o4, rfl⟩
    dsimp only
    walk_at "go"
    refine up_of (sub_own sb hp) (cast_bl ?_ q)
    unfold lmeet
    rw [List.length_map, List.take_length] at hi
    exact (List.any_eq_false.mpr fun x hx => by rw [hi x hx]; exact Bool.false_ne_true).symm
theorem ok_meeting {f : Addr} {fd : FuncData} (F : Fun K "meeting" "meeting" s_meeting f fd) (B : Bs mg) (G_lines_meet : Def P w K mg base "lines_meet" ["one", "other"] 4 (spI K P_lines_meet)) : FnOk P w K mg base CX0 5 f fd ["lines"] (spI K P_meeting) := by
  refine F.ok sc_meeting (fun vs H Q E h => spI_len h len_meeting) (fun cdv A outer s H vs Q E hr h => ?_)
  have hu65 := hu65_of hr
  refine ⟨_, (pss_cons (ps_set (i := 1) sc_meeting.nd rfl (by first | exact Or.inl rfl | exact Or.inr rfl) (pe_callB (call_lenK (K := K) rfl) (by rfl) B.b_len (by decide +kernel) (pa_cons (pv 0) pa_nil)))
      (pss_one (ps_ret (pe_callTy (call_tupleK (K := K) rfl) (by rfl) B.b_tuple (by decide +kernel) (pa_cons (pe_lc2 (own := [("i", 2), ("j", 3)]) (vs1 := [3]) (g := gName 2) (tt := tYes) (g1 := gName 3)  rfl sc_meeting.nd (pi_range1 (by rfl) B.b_range (pa_cons (pv 1) pa_nil)) (blkOk_by (own := [("i", 2), ("j", 3)]) (N := N_meeting) (sc := defScope s_meeting) (by decide +kernel)) (by decide) (fun _ _ _ _ _ => (pg_name (i := 2) sc_meeting.nd rfl (by first | exact Or.inl rfl | exact Or.inr rfl))) (fun _ _ _ _ _ => pts_nil) (fun _ _ _ _ _ => (pi_range2 (by rfl) B.b_range (pa_cons (pe_op op_add (pv 2) pe_int) (pa_cons (pv 1) pa_nil)))) (fun _ _ _ _ _ => (pg_name (i := 3) sc_meeting.nd rfl (by first | exact Or.inl rfl | exact Or.inr rfl))) (fun _ _ _ _ _ => (pts_one (pt_val (pe_def G_lines_meet (hr.mono (by decide)) (by rfl) (pa_cons (pe_ix (ix_seqK (K := K) rfl) (pv 0) (pv 2) (fun _ _ => rfl)) (pa_cons (pe_ix (ix_seqK (K := K) rfl) (pv 0) (pv 3) (fun _ _ => rfl)) pa_nil)))))) (fun _ _ _ _ _ => (pe_tup (pa_cons (pv 2) (pa_cons (pv 3) pa_nil))))) pa_nil))))), body_okU h (fun ds μ Φ p => ?_)⟩
  (try dsimp only [cxOf, Cx.nox, Cx.wish, List.map_cons, List.map_nil])
  obtain ⟨ls, rfl, h, q⟩ := p
  show AS K _ [some _, none, none, none] _ _
  have hn := h.n
  have hm : (ls.map encL).length = ls.length := List.length_map _
  walk_at "go"
  refine a_lc2 tg_name tg_name (by intro j hj d; simp at hj; rcases hj with rfl | rfl <;> simp) (by decide) (ai_1 ?_)
  walk_at "go"
  refine ⟨by omega, by omega, ?_⟩
  refine ⟨fun i acc μ' => acc = rows ls lmeet i ∧ i ≤ ls.length ∧ μ' = μ, ⟨rfl, Nat.zero_le _, rfl⟩, ?_, ?_⟩
  · rintro i x acc μ' hx ⟨rfl, hi, rfl⟩
    obtain ⟨k, hk, rfl⟩ := mapget hx
    have hik : k = i ∧ i < ls.length := by
      rw [List.getElem?_range] at hk
      · cases hk
        exact ⟨rfl, by have := (List.getElem?_eq_some_iff.mp hx).1; simpa using this⟩
      · have := (List.getElem?_eq_some_iff.mp hx).1
        simpa using this
    obtain ⟨rfl, hlt⟩ := hik
    refine ⟨_, rfl, rfl, ?_⟩
    refine at_yes ?_
    rw [if_pos rfl]
    intro Dl hD
    walk_at "nf"
    refine ai_2 ?_
    walk_at "go"
    refine ⟨by omega, ?_⟩
    have eN : ((((ls.map encL).length : Nat) : Int) - (0 + (k : Int) + 1)).toNat = ls.length - (k + 1) := by rw [List.length_map]; omega
    rw [eN]
    refine ⟨μ', fun j acc μ2 => acc = rows ls lmeet k ++ part ls lmeet k j ∧ μ2 = μ', rfl, hD, ⟨by unfold part; simp, rfl⟩, ?_, ?_⟩
    · rintro j y acc μ2 hy ⟨rfl, rfl⟩
      obtain ⟨j', hj, rfl⟩ := mapget hy
      have hj' : j' = j ∧ j < ls.length - (k + 1) := by
        have hlt := (List.getElem?_eq_some_iff.mp hj).1
        rw [List.length_range] at hlt
        rw [List.getElem?_range hlt] at hj
        cases hj
        exact ⟨rfl, hlt⟩
      obtain ⟨rfl, hjlt⟩ := hj'
      refine ⟨_, rfl, rfl, ?_⟩
      walk_at "nf"
      have e1 : (0 : Int) + (k : Int) = (k : Int) := by omega
      have e2 : (k : Int) + 1 + (j' : Int) = ((k + 1 + j' : Nat) : Int) := by omega
      rw [e1, e2]
      have hk2 : k + 1 + j' < ls.length := by omega
      walk_at "go"
      refine ro_ix rfl (atl hlt) ?_
      walk_at "go"
      refine ro_ix rfl (atl hk2) ?_
      walk_at "go"
      have m1 := h.l _ (getD_mem hlt)
      have m2 := h.l _ (getD_mem hk2)
      refine use_lines_meet m1.1 m2.1 m1.2 m2.2 ?_
      have sm : (rows ls lmeet k ++ part ls lmeet k j').length < sizeLine := by
        rw [List.length_append]
        have s1 := rows_small h lmeet (k := k) (by omega)
        have s2 := part_len ls lmeet k j'
        exact size_of (by omega)
      cases e3 : lmeet (ls.getD k []) (ls.getD (k + 1 + j') [])
      · walk_at "go"
        refine ⟨?_, rfl⟩
        rw [part_succ, e3, if_neg Bool.false_ne_true, List.append_nil]
      · walk_at "go"
        refine ⟨sm, ?_, rfl⟩
        rw [part_succ, e3, if_pos rfl, List.append_assoc]
    · rintro acc μ2 ⟨rfl, rfl⟩ hD2
      refine ⟨μ2, rfl, hD2, ?_, by omega, rfl⟩
      rw [List.length_map, List.length_range, part_all, rows_succ]
  · rintro acc μ' ⟨rfl, hi, rfl⟩ p hp
    walk_at "go"
    refine rc_tuple (seq_ref set_same) ?_
    refine up_of (sub_new Sub.refl hp) ?_
    rw [List.length_map, List.length_range]
    have e : ((((ls.map encL).length : Nat) : Int)).toNat = ls.length := by rw [List.length_map]; omega
    rw [e]
    exact q
theorem use_take {μ : M} {Φ : D → M → Prop} {b : Addr} {n c m : Int} (h : μ b = some (.lst [.int c, .int m])) (hm : BgOk m) (hn : 0 < n) (hz : Sz 4000 n) (q : ∀ d c' m', 0 ≤ d → d < n → Sz 4000 d → BgOk m' → Φ (.int d) (μ.set b (.lst [.int c', .int m']))) : P_l_take [.ref b, .int n] μ Φ := ⟨b, n, c, m, rfl, h, hm, hn, hz, q⟩
theorem use_bag {μ : M} {Φ : D → M → Prop} {ns : List Int} {k : Int} (h0 : 0 ≤ k) (h1 : k ≤ 1000) (q : ∀ p c m, μ p = none → BgOk m → Φ (.ref p) (μ.set p (.lst [.int c, .int m]))) : P_l_bag [.rol (ns.map D.int), .int k] μ Φ := ⟨ns, k, rfl, h0, h1, q⟩
theorem prime8 {k : Int} (h0 : 0 ≤ k) (h1 : k < 8) : ∃ p : Int, atI [D.int 2147483629, D.int 2147483587, D.int 2147483579, D.int 2147483563, D.int 2147483549, D.int 2147483543, D.int 2147483497, D.int 2147483489] k = some (.int p) ∧ 0 < p ∧ p < 2147483648 := by
  have h : k = 0 ∨ k = 1 ∨ k = 2 ∨ k = 3 ∨ k = 4 ∨ k = 5 ∨ k = 6 ∨ k = 7 := by omega
  rcases h with h | h | h | h | h | h | h | h <;> subst h <;> exact ⟨_, rfl, by decide, by decide⟩
theorem ok_l_bag {f : Addr} {fd : FuncData} (F : Fun K "_law_bag" "_law_bag" s_l_bag f fd) (B : Bs mg) : FnOk P w K mg base CX0 2 f fd ["_law_script", "_law_at"] (spI K P_l_bag) := by
  refine F.ok sc_l_bag (fun vs H Q E h => spI_len h len_l_bag) (fun cdv A outer s H vs Q E hr h => ?_)
  have hu65 := hu65_of hr
  refine ⟨_, (pss_cons (ps_set (i := 2) sc_l_bag.nd rfl (by first | exact Or.inl rfl | exact Or.inr rfl) pe_int)
      (pss_cons (ps_if (pt_cmpR op_lt (pv 1) (pe_callB (call_lenK (K := K) rfl) (by rfl) B.b_len (by decide +kernel) (pa_cons (pv 0) pa_nil)) (by first | exact nomark _ | rfl)) (pss_one (ps_set (i := 2) sc_l_bag.nd rfl (by first | exact Or.inl rfl | exact Or.inr rfl) (pe_ix (ix_seqK (K := K) rfl) (pv 0) (pv 1) (fun _ _ => rfl)))) pss_nil)
      (pss_cons (ps_set (i := 3) sc_l_bag.nd rfl (by first | exact Or.inl rfl | exact Or.inr rfl) pe_int)
      (pss_cons (ps_if (pt_cmpR op_ge (pe_callB call_abs (by rfl) B.b_abs (by decide +kernel) (pa_cons (pv 2) pa_nil)) (pe_op op_pow pe_int pe_int) (by first | exact nomark _ | rfl)) (pss_one (ps_set (i := 3) sc_l_bag.nd rfl (by first | exact Or.inl rfl | exact Or.inr rfl) (pe_callB call_abs (by rfl) B.b_abs (by decide +kernel) (pa_cons (pv 2) pa_nil)))) pss_nil)
      (pss_cons (ps_set (i := 4) sc_l_bag.nd rfl (by first | exact Or.inl rfl | exact Or.inr rfl) (pe_lst (pa_cons pe_int (pa_cons pe_int (pa_cons pe_int (pa_cons pe_int (pa_cons pe_int (pa_cons pe_int (pa_cons pe_int (pa_cons pe_int pa_nil))))))))))
      (pss_one (ps_ret (pe_lst (pa_cons (pv 3) (pa_cons (pe_op op_mod (pe_op op_pow (pe_op op_add (pe_op op_add (pe_op op_mod (pv 2) pe_int) (pe_op op_mulW pe_int (pv 1))) pe_int) pe_int) (pe_ix (ix_seqK (K := K) rfl) (pv 4) (pe_op op_mod (pv 1) pe_int) (fun _ _ => rfl))) pa_nil)))))))))), body_okU h (fun ds μ Φ p => ?_)⟩
  (try dsimp only [cxOf, Cx.nox, Cx.wish, List.map_cons, List.map_nil])
  obtain ⟨ns, k, rfl, h0, h1, q⟩ := p
  show AS K _ [some _, some _, none, none, none] _ _
  have sk : Sz 31 k := by unfold Sz; omega
  walk_at "go"
  refine if_cut (fun τ' μ' => μ' = μ ∧ ∃ c : Int, τ' = [some (.rol (ns.map D.int)), some (.int k), some (.int c), none, none]) (fun h => ?_) (fun h => ?_) ?_
  · obtain ⟨z, hz⟩ := map_get (ns := ns) h0 (by simpa using h)
    walk_at "go"
    refine ro_ix rfl hz ?_
    walk_at "go"
    exact ⟨by trivial, _, rfl⟩
  · walk_at "go"
    exact ⟨by trivial, _, rfl⟩
  rintro τ' μ' ⟨rfl, c, rfl⟩
  walk_at "go"
  refine if_cut (fun τ' μ2 => μ2 = μ' ∧ ∃ g : Int, τ' = [some (.rol (ns.map D.int)), some (.int k), some (.int c), some (.int g), none]) (fun h => ?_) (fun h => ?_) ?_
  · walk_at "go"
    exact ⟨by trivial, _, rfl⟩
  · walk_at "go"
    exact ⟨by trivial, _, rfl⟩
  rintro τ' μ2 ⟨rfl, g, rfl⟩
  walk_at "go"
  intro l hl
  obtain ⟨pr, hp, p0, p1⟩ := prime8 (k := k % 8) (Int.emod_nonneg _ (by decide)) (Int.emod_lt_of_pos _ (by decide))
  have hb : (c % 2147483647 + 104729 * k + 7).natAbs < 2 ^ 64 := by
    have := Int.emod_nonneg c (by decide : (2147483647 : Int) ≠ 0)
    have := Int.emod_lt_of_pos c (by decide : (0 : Int) < 2147483647)
    omega
  have cp : CPow (c % 2147483647 + 104729 * k + 7) 5 := ⟨by decide, by decide, hb⟩
  walk_at "go"
  refine ro_ix (seq_ref (by walk_at "mu")) hp ?_
  walk_at "go"
  intro r hr
  have hr' := none_back hr
  refine up_of (sb_sub (sb_new sb_refl hl)) (q r _ _ hr' ⟨Int.emod_nonneg _ (by omega), ?_⟩)
  have := Int.emod_lt_of_pos ((c % 2147483647 + 104729 * k + 7) ^ 5) p0
  omega
theorem ok_l_take {f : Addr} {fd : FuncData} (F : Fun K "_law_take" "_law_take" s_l_take f fd) (B : Bs mg) : FnOk P w K mg base CX0 1 f fd ["_law_bag_here", "_law_many"] (spI K P_l_take) := by
  refine F.ok sc_l_take (fun vs H Q E h => spI_len h len_l_take) (fun cdv A outer s H vs Q E hr h => ?_)
  have hu65 := hu65_of hr
  refine ⟨_, (pss_cons (ps_if (pt_cmpR op_gt (pe_ix (ix_seqK (K := K) rfl) (pv 0) pe_int (fun _ _ => rfl)) pe_int (by first | exact nomark _ | rfl)) (pss_cons (ps_set (i := 2) sc_l_take.nd rfl (by first | exact Or.inl rfl | exact Or.inr rfl) (pe_op op_mod (pe_ix (ix_seqK (K := K) rfl) (pv 0) pe_int (fun _ _ => rfl)) (pv 1)))
      (pss_cons (ps_asg (pe_op op_fdivW (pe_ix (ix_seqK (K := K) rfl) (pv 0) pe_int (fun _ _ => rfl)) (pv 1)) (pg_sub (pv 0) pe_int set_list))
      (pss_one (ps_ret (pv 2))))) pss_nil)
      (pss_cons (ps_asg (pe_op op_mod (pe_op op_add (pe_op op_mulW (pe_ix (ix_seqK (K := K) rfl) (pv 0) pe_int (fun _ _ => rfl)) pe_int) pe_int) pe_int) (pg_sub (pv 0) pe_int set_list))
      (pss_one (ps_ret (pe_op op_mod (pe_op op_mod (pe_op op_pow (pe_op op_fdivW (pe_ix (ix_seqK (K := K) rfl) (pv 0) pe_int (fun _ _ => rfl)) pe_int) pe_int) pe_int) (pv 1)))))), body_ok h (fun ds μ Φ p => ?_)⟩
  (try dsimp only [cxOf, Cx.nox, Cx.wish, List.map_cons, List.map_nil])
  obtain ⟨b, n, c, m, rfl, hb, hm, hn, hz, q⟩ := p
  show AS K _ [some _, some _, none] _ _
  have sm : Sz 31 m := by unfold Sz; have := hm.1; have := hm.2; omega
  walk_at "go"
  refine ite_d (fun h => ?_) (fun h => ?_)
  · walk_at "go"
    exact q _ _ _ (Int.emod_nonneg _ (by omega)) (Int.emod_lt_of_pos _ hn) (sz_mod hn hz) hm
  · walk_at "go"
    exact q _ _ _ (Int.emod_nonneg _ (by omega)) (Int.emod_lt_of_pos _ hn) (sz_mod hn hz) ⟨Int.emod_nonneg _ (by decide), by have := Int.emod_lt_of_pos (m * 48271 + 11) (show (0 : Int) < 2147483647 by decide); omega⟩
abbrev encH (p : Pl) : D := .tup [.int (hmX p), .int (hmY p), .int (hmW p)]
theorem szh {p : Pl} (h : GoodP p) : Sz 4000 (hmX p) ∧ Sz 4000 (hmY p) ∧ Sz 4000 (hmW p) := ⟨sz_mul h.x.s1 h.y.s2, sz_mul h.y.s1 h.x.s2, sz_mul h.x.s2 h.y.s2⟩
def P_l_homogen : PT3 := fun ds μ Φ => ∃ p : Pl, ds = [encP p] ∧ GoodP p ∧ Φ (encH p) μ
theorem len_l_homogen (ds : List D) (μ : M) (Φ : D → M → Prop) (h : P_l_homogen ds μ Φ) : ds.length = 1 := by
  obtain ⟨_, rfl, _⟩ := h
  rfl
theorem use_homogen {μ : M} {Φ : D → M → Prop} {p : Pl} (h : GoodP p) (q : Φ (encH p) μ) : P_l_homogen [encP p] μ Φ := ⟨p, rfl, h, q⟩
def P_l_spin : PT3 := fun ds μ Φ => ∃ a b c : Pl, ds = [encH a, encH b, encH c] ∧ GoodP a ∧ GoodP b ∧ GoodP c ∧ Φ (.int (psd a b c)) μ
theorem len_l_spin (ds : List D) (μ : M) (Φ : D → M → Prop) (h : P_l_spin ds μ Φ) : ds.length = 3 := by
  obtain ⟨_, _, _, rfl, _⟩ := h
  rfl
theorem use_spin {μ : M} {Φ : D → M → Prop} {a b c : Pl} (ha : GoodP a) (hb : GoodP b) (hc : GoodP c) (q : Φ (.int (psd a b c)) μ) : P_l_spin [encH a, encH b, encH c] μ Φ := ⟨a, b, c, rfl, ha, hb, hc, q⟩
def P_l_within : PT3 := fun ds μ Φ => ∃ a b c : Pl, ds = [encH a, encH b, encH c] ∧ GoodP a ∧ GoodP b ∧ GoodP c ∧ Φ (.bl (withinH a b c)) μ
theorem len_l_within (ds : List D) (μ : M) (Φ : D → M → Prop) (h : P_l_within ds μ Φ) : ds.length = 3 := by
  obtain ⟨_, _, _, rfl, _⟩ := h
  rfl
theorem use_within {μ : M} {Φ : D → M → Prop} {a b c : Pl} (ha : GoodP a) (hb : GoodP b) (hc : GoodP c) (q : Φ (.bl (withinH a b c)) μ) : P_l_within [encH a, encH b, encH c] μ Φ := ⟨a, b, c, rfl, ha, hb, hc, q⟩
def P_l_touch : PT3 := fun ds μ Φ => ∃ a b c d : Pl, ds = [encH a, encH b, encH c, encH d] ∧ GoodP a ∧ GoodP b ∧ GoodP c ∧ GoodP d ∧ Φ (.bl (tch a b c d)) μ
theorem len_l_touch (ds : List D) (μ : M) (Φ : D → M → Prop) (h : P_l_touch ds μ Φ) : ds.length = 4 := by
  obtain ⟨_, _, _, _, rfl, _⟩ := h
  rfl
theorem use_l_touch {μ : M} {Φ : D → M → Prop} {a b c d : Pl} (ha : GoodP a) (hb : GoodP b) (hc : GoodP c) (hd : GoodP d) (q : Φ (.bl (tch a b c d)) μ) : P_l_touch [encH a, encH b, encH c, encH d] μ Φ := ⟨a, b, c, d, rfl, ha, hb, hc, hd, q⟩
theorem due_sgn (n : Int) : ((if decide (0 < n) = true then 1 else 0) - (if decide (n < 0) = true then 1 else 0) : Int) = sgn n := by
  unfold sgn
  by_cases h1 : 0 < n <;> by_cases h2 : n < 0 <;> simp [h1, h2] <;> omega
theorem btw_ml {x y z m M : Int} (h1 : m ∈ [x, y]) (h2 : ∀ v ∈ [x, y], m ≤ v) (h3 : M ∈ [x, y]) (h4 : ∀ v ∈ [x, y], v ≤ M) : Btw x y z ↔ (m ≤ z ∧ z ≤ M) := by
  unfold Btw
  simp only [List.mem_cons, List.not_mem_nil, or_false] at h1 h3
  have a1 := h2 x (by simp)
  have a2 := h2 y (by simp)
  have a3 := h4 x (by simp)
  have a4 := h4 y (by simp)
  rcases h1 with h1 | h1 <;> rcases h3 with h3 | h3 <;> subst h1 <;> subst h3 <;> omega
/-- what is found ahead of turn i -/
def accW (a b c : Pl) (i : Nat) : Bool := match i with
  | 0 => true
  | 1 => decide (Btw (hmX a * hmW b * hmW c) (hmX b * hmW a * hmW c) (hmX c * hmW a * hmW b))
  | _ => withinH a b c
theorem btw_lo {x y z m : Int} (h2 : ∀ v ∈ [x, y], m ≤ v) (h : Btw x y z) : m ≤ z := by
  have a1 := h2 x (by simp)
  have a2 := h2 y (by simp)
  unfold Btw at h
  omega
theorem acc_is {x y z w v : Option D} {b c : Bool} (e : b = c) : [x, y, z, some (.bl b), w, v] = [x, y, z, some (.bl c), w, v] := by rw [e]
theorem ok_l_homogen {f : Addr} {fd : FuncData} (F : Fun K "_law_homogen" "_law_homogen" s_l_homogen f fd) (B : Bs mg) : FnOk P w K mg base CX0 1 f fd ["_law_place_here"] (spI K P_l_homogen) := by
  refine F.ok sc_l_homogen (fun vs H Q E h => spI_len h len_l_homogen) (fun cdv A outer s H vs Q E hr h => ?_)
  have hu65 := hu65_of hr
  refine ⟨_, (pss_cons (ps_asg (pv 0) (pg_tup (by rfl) (pgs_cons (pg_tup (by rfl) (pgs_cons (pg_name (i := 1) sc_l_homogen.nd rfl (by first | exact Or.inl rfl | exact Or.inr rfl)) (pgs_cons (pg_name (i := 2) sc_l_homogen.nd rfl (by first | exact Or.inl rfl | exact Or.inr rfl)) pgs_nil))) (pgs_cons (pg_tup (by rfl) (pgs_cons (pg_name (i := 3) sc_l_homogen.nd rfl (by first | exact Or.inl rfl | exact Or.inr rfl)) (pgs_cons (pg_name (i := 4) sc_l_homogen.nd rfl (by first | exact Or.inl rfl | exact Or.inr rfl)) pgs_nil))) pgs_nil))))
      (pss_one (ps_ret (pe_tup (pa_cons (pe_op op_mulW (pv 1) (pv 4)) (pa_cons (pe_op op_mulW (pv 3) (pv 2)) (pa_cons (pe_op op_mulW (pv 2) (pv 4)) pa_nil))))))), body_ok h (fun ds μ Φ p => ?_)⟩
  (try dsimp only [cxOf, Cx.nox, Cx.wish, List.map_cons, List.map_nil])
  obtain ⟨p, rfl, ⟨⟨_, h1, h2⟩, ⟨_, h3, h4⟩⟩, q⟩ := p
  show AS K _ [some _, none, none, none, none] _ _
  walk_at "go"
  exact q
theorem ok_l_spin {f : Addr} {fd : FuncData} (F : Fun K "_law_spin" "_law_spin" s_l_spin f fd) (B : Bs mg) : FnOk P w K mg base CX0 1 f fd ["_law_a", "_law_b", "_law_c"] (spI K P_l_spin) := by
  refine F.ok sc_l_spin (fun vs H Q E h => spI_len h len_l_spin) (fun cdv A outer s H vs Q E hr h => ?_)
  have hu65 := hu65_of hr
  refine ⟨_, (pss_cons (ps_set (i := 3) sc_l_spin.nd rfl (by first | exact Or.inl rfl | exact Or.inr rfl) (pe_op op_mulW (pe_ix (ix_seqK (K := K) rfl) (pv 0) pe_int (fun _ _ => rfl)) (pe_op op_sub (pe_op op_mulW (pe_ix (ix_seqK (K := K) rfl) (pv 1) pe_int (fun _ _ => rfl)) (pe_ix (ix_seqK (K := K) rfl) (pv 2) pe_int (fun _ _ => rfl))) (pe_op op_mulW (pe_ix (ix_seqK (K := K) rfl) (pv 2) pe_int (fun _ _ => rfl)) (pe_ix (ix_seqK (K := K) rfl) (pv 1) pe_int (fun _ _ => rfl))))))
      (pss_cons (ps_set (i := 3) sc_l_spin.nd rfl (by first | exact Or.inl rfl | exact Or.inr rfl) (pe_op op_sub (pv 3) (pe_op op_mulW (pe_ix (ix_seqK (K := K) rfl) (pv 0) pe_int (fun _ _ => rfl)) (pe_op op_sub (pe_op op_mulW (pe_ix (ix_seqK (K := K) rfl) (pv 1) pe_int (fun _ _ => rfl)) (pe_ix (ix_seqK (K := K) rfl) (pv 2) pe_int (fun _ _ => rfl))) (pe_op op_mulW (pe_ix (ix_seqK (K := K) rfl) (pv 2) pe_int (fun _ _ => rfl)) (pe_ix (ix_seqK (K := K) rfl) (pv 1) pe_int (fun _ _ => rfl)))))))
      (pss_cons (ps_set (i := 3) sc_l_spin.nd rfl (by first | exact Or.inl rfl | exact Or.inr rfl) (pe_op op_add (pv 3) (pe_op op_mulW (pe_ix (ix_seqK (K := K) rfl) (pv 0) pe_int (fun _ _ => rfl)) (pe_op op_sub (pe_op op_mulW (pe_ix (ix_seqK (K := K) rfl) (pv 1) pe_int (fun _ _ => rfl)) (pe_ix (ix_seqK (K := K) rfl) (pv 2) pe_int (fun _ _ => rfl))) (pe_op op_mulW (pe_ix (ix_seqK (K := K) rfl) (pv 2) pe_int (fun _ _ => rfl)) (pe_ix (ix_seqK (K := K) rfl) (pv 1) pe_int (fun _ _ => rfl)))))))
      (pss_one (ps_ret (pe_op op_sub (pe_callTy call_int1 (by rfl) B.b_int (by decide +kernel) (pa_cons (pe_cmpR op_gt (pv 3) pe_int (by first | exact nomark _ | rfl)) pa_nil)) (pe_callTy call_int1 (by rfl) B.b_int (by decide +kernel) (pa_cons (pe_cmpR op_lt (pv 3) pe_int (by first | exact nomark _ | rfl)) pa_nil)))))))), body_ok h (fun ds μ Φ p => ?_)⟩
  (try dsimp only [cxOf, Cx.nox, Cx.wish, List.map_cons, List.map_nil])
  obtain ⟨a, b, c, rfl, ha, hb, hc, q⟩ := p
  show AS K _ [some _, some _, some _, none] _ _
  obtain ⟨a1, a2, a3⟩ := szh ha
  obtain ⟨b1, b2, b3⟩ := szh hb
  obtain ⟨c1, c2, c3⟩ := szh hc
  walk_at "go"
  exact cast_int ((due_sgn _).trans (spin_sgn ha hb hc)) q
theorem ok_l_within {f : Addr} {fd : FuncData} (F : Fun K "_law_within" "_law_within" s_l_within f fd) (B : Bs mg) : FnOk P w K mg base CX0 1 f fd ["_law_a", "_law_b", "_law_c"] (spI K P_l_within) := by
  refine F.ok sc_l_within (fun vs H Q E h => spI_len h len_l_within) (fun cdv A outer s H vs Q E hr h => ?_)
  have hu65 := hu65_of hr
  refine ⟨_, (pss_cons (ps_set (i := 3) sc_l_within.nd rfl (by first | exact Or.inl rfl | exact Or.inr rfl) pe_bl)
      (pss_cons (ps_for PassesOwn.never rfl (pi_range1 (by rfl) B.b_range (pa_cons pe_int pa_nil)) (pg_name (i := 4) sc_l_within.nd rfl (by first | exact Or.inl rfl | exact Or.inr rfl))
      (pss_cons (ps_set (i := 5) sc_l_within.nd rfl (by first | exact Or.inl rfl | exact Or.inr rfl) (pe_lst (pa_cons (pe_op op_mulW (pe_op op_mulW (pe_ix (ix_seqK (K := K) rfl) (pv 0) (pv 4) (fun _ _ => rfl)) (pe_ix (ix_seqK (K := K) rfl) (pv 1) pe_int (fun _ _ => rfl))) (pe_ix (ix_seqK (K := K) rfl) (pv 2) pe_int (fun _ _ => rfl))) (pa_cons (pe_op op_mulW (pe_op op_mulW (pe_ix (ix_seqK (K := K) rfl) (pv 1) (pv 4) (fun _ _ => rfl)) (pe_ix (ix_seqK (K := K) rfl) (pv 0) pe_int (fun _ _ => rfl))) (pe_ix (ix_seqK (K := K) rfl) (pv 2) pe_int (fun _ _ => rfl))) pa_nil))))
      (pss_one (ps_set (i := 3) sc_l_within.nd rfl (by first | exact Or.inl rfl | exact Or.inr rfl) (pe_and (pv 3) (pe_one (pe_chain op_le op_le (pe_callB (cr_min rfl) (by rfl) B.b_min (by decide +kernel) (pa_cons (pv 5) pa_nil)) (pe_op op_mulW (pe_op op_mulW (pe_ix (ix_seqK (K := K) rfl) (pv 2) (pv 4) (fun _ _ => rfl)) (pe_ix (ix_seqK (K := K) rfl) (pv 0) pe_int (fun _ _ => rfl))) (pe_ix (ix_seqK (K := K) rfl) (pv 1) pe_int (fun _ _ => rfl))) (pe_callB (cr_max rfl) (by rfl) B.b_max (by decide +kernel) (pa_cons (pv 5) pa_nil)))))))))
      (pss_one (ps_ret (pv 3))))), body_okU h (fun ds μ Φ p => ?_)⟩
  (try dsimp only [cxOf, Cx.nox, Cx.wish, List.map_cons, List.map_nil])
  obtain ⟨a, b, c, rfl, ha, hb, hc, q⟩ := p
  show AS K _ [some _, some _, some _, none, none, none] _ _
  obtain ⟨a1, a2, a3⟩ := szh ha
  obtain ⟨b1, b2, b3⟩ := szh hb
  obtain ⟨c1, c2, c3⟩ := szh hc
  walk_at "go"
  refine s_for1 2 (fun (i : Nat) τ' μ' => Sub μ μ' ∧ ∃ o5 o6 : Option D, τ' = [some (encH a), some (encH b), some (encH c), some (.bl (accW a b c i)), o5, o6]) ?_ ?_ ?_
  · walk_at "go"
    exact ⟨rfl, by decide, by decide, Sub.refl, _, _, rfl⟩
  · rintro i τ' μ' hi ⟨sb, o5, o6, rfl⟩
    have hi' : i = 0 ∨ i = 1 := by omega
    rcases hi' with rfl | rfl
    · walk_at "go"
      intro l hl
      walk_at "go"
      refine iteT ?_
      walk_at "go"
      refine rc_minL (ns := [_, _]) set_same (Nat.succ_pos _) fun m hm hle => ?_
      walk_at "go"
      refine ite_d (fun h1 => ?_) (fun h1 => ?_)
      · walk_at "go"
        refine rc_maxL (ns := [_, _]) set_same (Nat.succ_pos _) fun M hM hge => ?_
        walk_at "go"
        refine ⟨sub_new sb hl, _, _, acc_is ?_⟩
        exact decide_eq_decide.mpr ⟨fun h2 => (btw_ml hm hle hM hge).mpr ⟨h1, h2⟩, fun h2 => ((btw_ml hm hle hM hge).mp h2).2⟩
      · walk_at "go"
        exact ⟨sub_new sb hl, _, _, acc_is (decide_eq_false fun h2 => h1 (btw_lo hle h2)).symm⟩
    · walk_at "go"
      intro l hl
      walk_at "go"
      refine ite_d (fun h0 => ?_) (fun h0 => ?_)
      · walk_at "go"
        refine rc_minL (ns := [_, _]) set_same (Nat.succ_pos _) fun m hm hle => ?_
        walk_at "go"
        refine ite_d (fun h1 => ?_) (fun h1 => ?_)
        · walk_at "go"
          refine rc_maxL (ns := [_, _]) set_same (Nat.succ_pos _) fun M hM hge => ?_
          walk_at "go"
          refine ⟨sub_new sb hl, _, _, acc_is ?_⟩
          show _ = withinH a b c
          unfold withinH
          rw [decide_eq_true h0, Bool.true_and]
          exact decide_eq_decide.mpr ⟨fun h2 => (btw_ml hm hle hM hge).mpr ⟨h1, h2⟩, fun h2 => ((btw_ml hm hle hM hge).mp h2).2⟩
        · walk_at "go"
          refine ⟨sub_new sb hl, _, _, acc_is ?_⟩
          show _ = withinH a b c
          unfold withinH
          rw [decide_eq_false fun h2 => h1 (btw_lo hle h2), Bool.and_false]
      · walk_at "go"
        refine ⟨sub_new sb hl, _, _, acc_is ?_⟩
        show _ = withinH a b c
        unfold withinH
        rw [decide_eq_false h0, Bool.false_and]
  · rintro τ' μ' ⟨sb, o5, o6, rfl⟩
    walk_at "go"
    exact up_of sb q
abbrev Tri := Pl × Pl × Pl
abbrev enc3 (t : Tri) : D := .tup [encH t.1, encH t.2.1, encH t.2.2]
def lie3 (t : Tri) : Bool := lieH t.1 t.2.1 t.2.2
theorem zip_tri : ∀ ts : List Tri, zipD (ts.map fun t => .int (psd t.1 t.2.1 t.2.2)) (ts.map enc3) = ts.map fun t => .tup [.int (psd t.1 t.2.1 t.2.2), enc3 t]
  | [] => by simp [zipD]
  | t :: ts => by
    have ih := zip_tri ts
    simp only [List.map_cons]
    unfold zipD
    rw [ih]
theorem sub_del {μ μ' : M} {l : Addr} (h : Sub μ μ') (hn : μ l = none) : Sub μ (μ'.del l) := fun a m e => by
  rw [del_ne (fun z => by rw [z, hn] at e; cases e)]
  exact h a m e
theorem ok_l_touch {f : Addr} {fd : FuncData} (F : Fun K "_law_touch" "_law_touch" s_l_touch f fd) (B : Bs mg) (G_l_spin : Def P w K mg base "_law_spin" ["_law_a", "_law_b", "_law_c"] 1 (spI K P_l_spin)) (G_l_within : Def P w K mg base "_law_within" ["_law_a", "_law_b", "_law_c"] 1 (spI K P_l_within)) : FnOk P w K mg base CX0 2 f fd ["_law_a", "_law_b", "_law_c", "_law_d"] (spI K P_l_touch) := by
  refine F.ok sc_l_touch (fun vs H Q E h => spI_len h len_l_touch) (fun cdv A outer s H vs Q E hr h => ?_)
  have hu65 := hu65_of hr
  refine ⟨_, (pss_cons (ps_set (i := 4) sc_l_touch.nd rfl (by first | exact Or.inl rfl | exact Or.inr rfl) (pe_lst (pa_cons (pe_tup (pa_cons (pv 0) (pa_cons (pv 1) (pa_cons (pv 2) pa_nil)))) (pa_cons (pe_tup (pa_cons (pv 0) (pa_cons (pv 1) (pa_cons (pv 3) pa_nil)))) (pa_cons (pe_tup (pa_cons (pv 2) (pa_cons (pv 3) (pa_cons (pv 0) pa_nil)))) (pa_cons (pe_tup (pa_cons (pv 2) (pa_cons (pv 3) (pa_cons (pv 1) pa_nil)))) pa_nil))))))
      (pss_cons (ps_setLc (i := 5) (own := [("_law_one", 7), ("_law_other", 8), ("_law_far", 9)]) (g := gTup K 3 (gCons (gName 7) (gCons (gName 8) (gCons (gName 9) gNil)))) (tt := tYes) rfl sc_l_touch.nd rfl rfl (sw_true rfl rfl rfl (by decide +kernel)) (pi_listK (K := K) rfl (pv 4)) (blkOk_by (own := [("_law_one", 7), ("_law_other", 8), ("_law_far", 9)]) (N := N_l_touch) (sc := defScope s_l_touch) (by decide +kernel)) (fun _ _ _ _ _ => (pg_tup (by rfl) (pgs_cons (pg_name (i := 7) sc_l_touch.nd rfl (by first | exact Or.inl rfl | exact Or.inr rfl)) (pgs_cons (pg_name (i := 8) sc_l_touch.nd rfl (by first | exact Or.inl rfl | exact Or.inr rfl)) (pgs_cons (pg_name (i := 9) sc_l_touch.nd rfl (by first | exact Or.inl rfl | exact Or.inr rfl)) pgs_nil))))) (fun _ _ _ _ _ => pts_nil) (fun _ _ _ _ _ => (pe_def G_l_spin (hr.mono (by decide)) (by rfl) (pa_cons (pv 7) (pa_cons (pv 8) (pa_cons (pv 9) pa_nil))))))
      (pss_cons (ps_if (PW.pt (pw_and (pt_cmpR op_lt (pe_op op_mulW (pe_ix (ix_seqK (K := K) rfl) (pv 5) pe_int (fun _ _ => rfl)) (pe_ix (ix_seqK (K := K) rfl) (pv 5) pe_int (fun _ _ => rfl))) pe_int (by first | exact nomark _ | rfl)) (pw_and1 (pt_cmpR op_lt (pe_op op_mulW (pe_ix (ix_seqK (K := K) rfl) (pv 5) pe_int (fun _ _ => rfl)) (pe_ix (ix_seqK (K := K) rfl) (pv 5) pe_int (fun _ _ => rfl))) pe_int (by first | exact nomark _ | rfl))))) (pss_one (ps_ret pe_bl)) pss_nil)
      (pss_cons (ps_for PassesOwn.never rfl (pi_zipK (K := K) rfl (by rfl) B.b_zip (pa_cons (pv 5) (pa_cons (pv 4) pa_nil))) (pg_tup (by rfl) (pgs_cons (pg_name (i := 6) sc_l_touch.nd rfl (by first | exact Or.inl rfl | exact Or.inr rfl)) (pgs_cons (pg_tup (by rfl) (pgs_cons (pg_name (i := 7) sc_l_touch.nd rfl (by first | exact Or.inl rfl | exact Or.inr rfl)) (pgs_cons (pg_name (i := 8) sc_l_touch.nd rfl (by first | exact Or.inl rfl | exact Or.inr rfl)) (pgs_cons (pg_name (i := 9) sc_l_touch.nd rfl (by first | exact Or.inl rfl | exact Or.inr rfl)) pgs_nil)))) pgs_nil)))
      (pss_one (ps_if (PW.pt (pw_and (pt_cmpR op_eq (pv 6) pe_int (by first | exact nomark _ | rfl)) (pw_and1 (pt_val (pe_def G_l_within (hr.mono (by decide)) (by rfl) (pa_cons (pv 7) (pa_cons (pv 8) (pa_cons (pv 9) pa_nil)))))))) (pss_one (ps_ret pe_bl)) pss_nil)))
      (pss_one (ps_ret pe_bl)))))), body_okU h (fun ds μ Φ p => ?_)⟩
  (try dsimp only [cxOf, Cx.nox, Cx.wish, List.map_cons, List.map_nil])
  obtain ⟨a, b, c, d, rfl, ha, hb, hc, hd, q⟩ := p
  show AS K _ [some _, some _, some _, some _, none, none, none, none, none, none] _ _
  have good : ∀ t ∈ ([(a, b, c), (a, b, d), (c, d, a), (c, d, b)] : List Tri), GoodP t.1 ∧ GoodP t.2.1 ∧ GoodP t.2.2 := by
    intro t ht
    simp only [List.mem_cons, List.not_mem_nil, or_false] at ht
    rcases ht with rfl | rfl | rfl | rfl <;> exact ⟨by assumption, by assumption, by assumption⟩
  walk_at "go"
  intro l hl
  walk_at "go"
  refine a_lc tg_3 (ai_L ?_)
  walk_at "go"
  refine ⟨l, _, rfl, set_same, ?_⟩
  rw [set_del hl]
  have er : [D.tup [encH a, encH b, encH c], D.tup [encH a, encH b, encH d], D.tup [encH c, encH d, encH a], D.tup [encH c, encH d, encH b]] = ([(a, b, c), (a, b, d), (c, d, a), (c, d, b)] : List Tri).map enc3 := rfl
  refine ⟨fun i acc μ' => acc = (([(a, b, c), (a, b, d), (c, d, a), (c, d, b)] : List Tri).take i).map (fun t => .int (psd t.1 t.2.1 t.2.2)) ∧ μ' = μ, ⟨rfl, rfl⟩, ?_, ?_⟩
  · rintro i x acc μ' hx ⟨rfl, rfl⟩
    rw [er] at hx
    obtain ⟨t, ht, rfl⟩ := mapget hx
    obtain ⟨g1, g2, g3⟩ := good t (List.mem_of_getElem? ht)
    refine ⟨_, ⟨rfl, rfl⟩, rfl, ?_⟩
    refine at_yes ?_
    rw [if_pos rfl]
    walk_at "nf"
    walk_at "go"
    refine use_spin g1 g2 g3 ?_
    refine ⟨size_of ?_, ?_, rfl⟩
    · rw [List.length_map, List.length_take]
      exact Nat.le_trans (Nat.min_le_right _ _) (show 4 ≤ 100000 by decide)
    · rw [take_snoc ht, List.map_append]
      rfl
  · rintro acc μ' ⟨rfl, rfl⟩ r hr
    have hlr : l ≠ r := fun e => none_ne hr e.symm
    have hr' : μ' r = none := none_back hr
    show AG K _ _ _ ((μ'.set l _).set r (.lst [.int (psd a b c), .int (psd a b d), .int (psd c d a), .int (psd c d b)])) _
    walk_at "go"
    have eq0 : tch a b c d = ((decide (psd a b c * psd a b d < 0) && decide (psd c d a * psd c d b < 0)) || ([(a, b, c), (a, b, d), (c, d, a), (c, d, b)] : List Tri).any lie3) := by
      rw [← touchH_eq ha hb hc hd]
      unfold touchH lie3
      simp only [List.any_cons, List.any_nil, Bool.or_false]
    refine ite_d (fun h1 => ?_) (fun h1 => ?_)
    walk_at "go"
    refine ite_d (fun h2 => ?_) (fun h2 => ?_)
    (walk_at "go"; exact up_of (sub_new (sub_new Sub.refl hl) hr) (cast_bl (by rw [eq0, decide_eq_true h1, decide_eq_true h2]; rfl) q))
    all_goals
      have hn : (decide (psd a b c * psd a b d < 0) && decide (psd c d a * psd c d b < 0)) = false := by
        first
          | rw [decide_eq_false h2, Bool.and_false]
          | rw [decide_eq_false h1, Bool.false_and]
      rw [hn, Bool.false_or] at eq0
      walk_at "go"
      refine s_for (ai_ZL ?_)
      walk_at "go"
      refine ⟨r, l, _, _, rfl, hlr.symm, set_same, by walk_at "mu", ?_⟩
      have ez : zipD [D.int (psd a b c), D.int (psd a b d), D.int (psd c d a), D.int (psd c d b)] [D.tup [encH a, encH b, encH c], D.tup [encH a, encH b, encH d], D.tup [encH c, encH d, encH a], D.tup [encH c, encH d, encH b]] = ([(a, b, c), (a, b, d), (c, d, a), (c, d, b)] : List Tri).map fun t => .tup [.int (psd t.1 t.2.1 t.2.2), enc3 t] := zip_tri [(a, b, c), (a, b, d), (c, d, a), (c, d, b)]
      rw [ez]
      refine ⟨fun i τ' μ2 => (∀ t ∈ ([(a, b, c), (a, b, d), (c, d, a), (c, d, b)] : List Tri).take i, lie3 t = false) ∧ Sub μ' μ2 ∧ ∃ o6 o7 o8 o9 : Option D, τ' = [some (encH a), some (encH b), some (encH c), some (encH d), some (.ref l), some (.ref r), o6, o7, o8, o9], ⟨by simp, sub_del (sub_del (sub_new (sub_new Sub.refl hl) hr) hr') hl, _, _, _, _, rfl⟩, ?_, ?_⟩
      · rintro i x τ' μ2 hx ⟨hi, sb, o6, o7, o8, o9, rfl⟩
        obtain ⟨t, ht, rfl⟩ := mapget hx
        have htm := List.mem_of_getElem? ht
        obtain ⟨g1, g2, g3⟩ := good t htm
        walk_at "go"
        refine ite_d (fun h3 => ?_) (fun h3 => ?_)
        · walk_at "go"
          refine use_within g1 g2 g3 ?_
          cases e : withinH t.1 t.2.1 t.2.2
          · walk_at "go"
            exact ⟨mem_snoc ht hi (by unfold lie3 lieH; rw [e, Bool.and_false]), sb, _, _, _, _, rfl⟩
          · walk_at "go"
            refine up_of (sub_own (sub_own sb hl) hr') (cast_bl ?_ q)
            rw [eq0]
            exact (List.any_eq_true.mpr ⟨t, htm, by unfold lie3 lieH; rw [e, decide_eq_true h3]; rfl⟩).symm
        · walk_at "go"
          exact ⟨mem_snoc ht hi (by unfold lie3 lieH; rw [decide_eq_false h3, Bool.false_and]), sb, _, _, _, _, rfl⟩
      · rintro τ' μ2 ⟨hi, sb, o6, o7, o8, o9, rfl⟩
        dsimp only
        walk_at "go"
        refine up_of (sub_own (sub_own sb hl) hr') (cast_bl ?_ q)
        rw [eq0]
        exact (List.any_eq_false.mpr fun t ht => by rw [hi t (by simpa using ht)]; exact Bool.false_ne_true).symm
def P_l_place : PT3 := fun ds μ Φ => ∃ (b : Addr) (u f c m : Int), ds = [.ref b, .int u, .int f] ∧ μ b = some (.lst [.int c, .int m]) ∧ BgOk m ∧ 0 < u ∧ Sz 8 u ∧ 0 < f ∧ Sz 68 f ∧ ∀ p c' m', GdP 80 p → BgOk m' → Φ (encP p) (μ.set b (.lst [.int c', .int m']))
theorem len_l_place (ds : List D) (μ : M) (Φ : D → M → Prop) (h : P_l_place ds μ Φ) : ds.length = 3 := by
  obtain ⟨_, _, _, _, _, rfl, _⟩ := h
  rfl
theorem use_place {μ : M} {Φ : D → M → Prop} {b : Addr} {u f c m : Int} (h : μ b = some (.lst [.int c, .int m])) (hm : BgOk m) (u0 : 0 < u) (us : Sz 8 u) (f0 : 0 < f) (fs : Sz 68 f) (q : ∀ p c' m', GdP 80 p → BgOk m' → Φ (encP p) (μ.set b (.lst [.int c', .int m']))) : P_l_place [.ref b, .int u, .int f] μ Φ := ⟨b, u, f, c, m, rfl, h, hm, u0, us, f0, fs, q⟩
theorem pick_sign {d : Int} (h0 : 0 ≤ d) (h1 : d < 4) : ∃ z : Int, atI [D.int 1, D.int 1, D.int 1, D.int (-1)] d = some (.int z) ∧ Sz 1 z := by
  have h : d = 0 ∨ d = 1 ∨ d = 2 ∨ d = 3 := by omega
  rcases h with h | h | h | h <;> subst h <;> exact ⟨_, rfl, by decide⟩
theorem sbmu {b l : Addr} {μ : M} {m : MO} (h : μ b = some m) (k : μ l = none) : b ≠ l := fun e => by subst e; rw [h] at k; cases k
theorem ok_l_place {f : Addr} {fd : FuncData} (F : Fun K "_law_place" "_law_place" s_l_place f fd) (B : Bs mg) (G_l_low : Def P w K mg base "_law_low" ["_law_over", "_law_under"] 1 (spI K P_l_low)) (G_l_take : Def P w K mg base "_law_take" ["_law_bag_here", "_law_many"] 1 (spI K P_l_take)) : FnOk P w K mg base CX0 2 f fd ["_law_bag_here", "_law_under", "_law_far"] (spI K P_l_place) := by
  refine F.ok sc_l_place (fun vs H Q E h => spI_len h len_l_place) (fun cdv A outer s H vs Q E hr h => ?_)
  have hu65 := hu65_of hr
  refine ⟨_, (pss_cons (ps_set (i := 3) sc_l_place.nd rfl (by first | exact Or.inl rfl | exact Or.inr rfl) (pe_lst pa_nil))
      (pss_cons (ps_for PassesOwn.never rfl (pi_range1 (by rfl) B.b_range (pa_cons pe_int pa_nil)) (pg_name (i := 4) sc_l_place.nd rfl (by first | exact Or.inl rfl | exact Or.inr rfl))
      (pss_cons (ps_set (i := 5) sc_l_place.nd rfl (by first | exact Or.inl rfl | exact Or.inr rfl) (pe_op op_mulW (pe_def G_l_take (hr.mono (by decide)) (by rfl) (pa_cons (pv 0) (pa_cons (pe_op op_add (pe_op op_mulW (pv 2) (pv 1)) pe_int) pa_nil))) (pe_ix (ix_seqK (K := K) rfl) (pe_lst (pa_cons pe_int (pa_cons pe_int (pa_cons pe_int (pa_cons (pe_un un_neg pe_int) pa_nil))))) (pe_def G_l_take (hr.mono (by decide)) (by rfl) (pa_cons (pv 0) (pa_cons pe_int pa_nil))) (fun _ _ => rfl))))
      (pss_one (ps_expr (pe_bm PySem.F.plainAttrs_list PySem.F.slot_list_append PySem.F.type_list_append mt_append (pv 3) (pa_cons (pe_def G_l_low (hr.mono (by decide)) (by rfl) (pa_cons (pv 5) (pa_cons (pv 1) pa_nil))) pa_nil))))))
      (pss_one (ps_ret (pe_callTy (call_tupleK (K := K) rfl) (by rfl) B.b_tuple (by decide +kernel) (pa_cons (pv 3) pa_nil)))))), body_okU h (fun ds μ Φ p => ?_)⟩
  (try dsimp only [cxOf, Cx.nox, Cx.wish, List.map_cons, List.map_nil])
  obtain ⟨b, u, f, c, m, rfl, hb, hm, u0, us, f0, fs, q⟩ := p
  show AS K _ [some _, some _, some _, none, none, none] _ _
  have hfu : 0 < f * u := Int.mul_pos f0 u0
  walk_at "go"
  intro l hl
  have hbl : b ≠ l := sbmu hb hl
  walk_at "go"
  refine s_for1 2 (fun (i : Nat) τ' μ' => ∃ (ps : List Fq) (c m : Int) (o5 o6 : Option D), ps.length = i ∧ (∀ p ∈ ps, Gd 80 p) ∧ BgOk m ∧ SubB b μ μ' ∧ μ' b = some (.lst [.int c, .int m]) ∧ μ' l = some (.lst (ps.map encF)) ∧ τ' = [some (.ref b), some (.int u), some (.int f), some (.ref l), o5, o6]) ?_ ?_ ?_
  · walk_at "go"
    exact ⟨rfl, by decide, by decide, [], c, m, none, none, rfl, by simp, hm, sb_new sb_refl hl, by walk_at "mu", set_same, rfl⟩
  · rintro i τ' μ' hi ⟨ps, c1, m1, o5, o6, rfl, hps, hm1, sb, hb1, hl1, rfl⟩
    walk_at "go"
    refine use_take hb1 hm1 (by omega) (by walk_at "szN") fun d c2 m2 d0 d1 ds hm2 => ?_
    have sd : Sz 77 d := sz_lt d0 d1 (by walk_at "szN")
    walk_at "go"
    intro r hr
    have hbr : b ≠ r := fun e => none_ne hr e.symm
    have hr1 : μ' r = none := none_back hr
    have hlr : l ≠ r := sbmu hl1 hr1
    walk_at "go"
    refine use_take (by walk_at "mu") hm2 (by decide) (by walk_at "szN") fun e c3 m3 e0 e1 es hm3 => ?_
    obtain ⟨z, hz, sz⟩ := pick_sign e0 e1
    walk_at "go"
    refine ro_ix (seq_ref (by walk_at "mu")) hz ?_
    walk_at "go"
    refine m_append (ds := ps.map encF) (a := l) ?_
    walk_at "go"
    refine ⟨rfl, ⟨_, by walk_at "mu"⟩, ?_⟩
    walk_at "go"
    refine use_low 80 u0 (by walk_at "szN") (by walk_at "szN") (by decide) fun p _ hp => ?_
    refine ⟨by walk_at "mu", size_of (by rw [List.length_map]; omega), ?_⟩
    walk_at "go"
    refine ⟨ps ++ [p], c3, m3, _, _, by simp, fun x hx => (List.mem_append.mp hx).elim (hps x) fun z => by rw [List.mem_singleton.mp z]; exact hp, hm3, ?_, by walk_at "mu", ?_, rfl⟩
    · exact sb_own (sb_self (sb_new (sb_self sb) hr)) hl
    · rw [set_same]; simp
  · rintro τ' μ' ⟨ps, c1, m1, o5, o6, hlen, hps, hm1, sb, hb1, hl1, rfl⟩
    match ps, hlen, hps with
    | [x, y], _, hps =>
      walk_at "go"
      refine rc_tuple (seq_ref hl1) ?_
      exact up_of (sb_end sb hb1) (q (x, y) c1 m1 ⟨hps x (by simp), hps y (by simp)⟩ hm1)
structure LOk (l : Ln) : Prop where
  lo : 2 ≤ l.length
  hi : l.length ≤ 20
  g : ∀ p ∈ l, GdP 80 p
def P_l_lines : PT3 := fun ds μ Φ => ∃ (b : Addr) (n c m : Int), ds = [.ref b, .int n] ∧ μ b = some (.lst [.int c, .int m]) ∧ BgOk m ∧ 0 ≤ n ∧ n ≤ 50 ∧ ∀ (ls : List Ln) c' m', (ls.length : Int) ≤ n → (∀ l ∈ ls, LOk l) → BgOk m' → Φ (encLs ls) (μ.set b (.lst [.int c', .int m']))
theorem len_l_lines (ds : List D) (μ : M) (Φ : D → M → Prop) (h : P_l_lines ds μ Φ) : ds.length = 2 := by
  obtain ⟨_, _, _, _, rfl, _⟩ := h
  rfl
theorem use_lines {μ : M} {Φ : D → M → Prop} {b : Addr} {n c m : Int} (h : μ b = some (.lst [.int c, .int m])) (hm : BgOk m) (h0 : 0 ≤ n) (h1 : n ≤ 50) (q : ∀ (ls : List Ln) c' m', (ls.length : Int) ≤ n → (∀ l ∈ ls, LOk l) → BgOk m' → Φ (encLs ls) (μ.set b (.lst [.int c', .int m']))) : P_l_lines [.ref b, .int n] μ Φ := ⟨b, n, c, m, rfl, h, hm, h0, h1, q⟩
theorem pick_far {d : Int} (h0 : 0 ≤ d) (h1 : d < 4) : ∃ z : Int, atI [D.int 2, D.int 4, D.int 12, D.int 100000000000000000000] d = some (.int z) ∧ 0 < z ∧ Sz 68 z := by
  have h : d = 0 ∨ d = 1 ∨ d = 2 ∨ d = 3 := by omega
  rcases h with h | h | h | h <;> subst h <;> exact ⟨_, rfl, by decide, by decide⟩
theorem pick_many {d : Int} (h0 : 0 ≤ d) (h1 : d < 3) : ∃ z : Int, atI [D.int 5, D.int 5, D.int 19] d = some (.int z) ∧ 0 < z ∧ z ≤ 19 := by
  have h : d = 0 ∨ d = 1 ∨ d = 2 := by omega
  rcases h with h | h | h <;> subst h <;> exact ⟨_, rfl, by decide, by decide⟩
theorem pick_14 {d : Int} (h0 : 0 ≤ d) (h1 : d < 2) : ∃ z : Int, atI [D.int 1, D.int 4] d = some (.int z) ∧ 0 < z ∧ z ≤ 4 := by
  have h : d = 0 ∨ d = 1 := by omega
  rcases h with h | h <;> subst h <;> exact ⟨_, rfl, by decide, by decide⟩
theorem okn_encP (p : Pl) : OkN 2 (encP p) := okn_tup fun x hx => by
  simp only [List.mem_cons, List.not_mem_nil, or_false] at hx
  rcases hx with rfl | rfl <;> exact okn_pt
theorem okn_encPs (l : List Pl) : ∀ x ∈ l.map encP, OkN 2 x := fun x hx => by
  obtain ⟨p, _, rfl⟩ := List.mem_map.mp hx
  exact okn_encP p
theorem at_pl {l : List Pl} {d : Int} (h0 : 0 ≤ d) (h1 : d < l.length) : ∃ p ∈ l, atI (l.map encP) d = some (encP p) := by
  obtain ⟨j, rfl⟩ := Int.eq_ofNat_of_zero_le h0
  have hj : j < l.length := by omega
  exact ⟨l[j], List.getElem_mem hj, atI_nat (by rw [List.getElem?_map, List.getElem?_eq_getElem hj]; rfl)⟩
theorem at_last {l : List Pl} (h : 1 < l.length) : ∃ p ∈ l, atI (l.map encP) (-1) = some (encP p) := by
  rcases List.eq_nil_or_concat l with rfl | ⟨l', x, rfl⟩
  · simp at h
  · refine ⟨x, by simp, ?_⟩
    rw [List.concat_eq_append, List.map_append]
    exact atI_last _ _
/-- the state within _law_lines -/
structure LSt (b fo al : Addr) (μ μ' : M) (ls : List Ln) (ps : List Pl) (c m : Int) : Prop where
  hm : BgOk m
  sb : SubB b μ μ'
  hb : μ' b = some (.lst [.int c, .int m])
  hf : μ' fo = some (.lst (ls.map encL))
  ha : μ' al = some (.lst (ps.map encP))
  gl : ∀ l ∈ ls, LOk l
  gp : ∀ p ∈ ps, GdP 80 p
section
variable {b fo al l : Addr} {μ μ' : M} {ls : List Ln} {ps : List Pl} {c m c2 m2 : Int} {Y : MO}
theorem LSt.bag (h : LSt b fo al μ μ' ls ps c m) (hbf : b ≠ fo) (hba : b ≠ al) (hm2 : BgOk m2) : LSt b fo al μ (μ'.set b (.lst [.int c2, .int m2])) ls ps c2 m2 :=
  ⟨hm2, sb_self h.sb, set_same, by rw [set_ne hbf.symm]; exact h.hf, by rw [set_ne hba.symm]; exact h.ha, h.gl, h.gp⟩
theorem LSt.new (h : LSt b fo al μ μ' ls ps c m) (hl : μ' l = none) : LSt b fo al μ (μ'.set l Y) ls ps c m :=
  ⟨h.hm, sb_new h.sb hl, by rw [set_ne (sbmu h.hb hl)]; exact h.hb, by rw [set_ne (sbmu h.hf hl)]; exact h.hf, by rw [set_ne (sbmu h.ha hl)]; exact h.ha, h.gl, h.gp⟩
theorem LSt.own (h : LSt b fo al μ μ' ls ps c m) (hl : μ l = none) (n1 : b ≠ l) (n2 : fo ≠ l) (n3 : al ≠ l) : LSt b fo al μ (μ'.set l Y) ls ps c m :=
  ⟨h.hm, sb_own h.sb hl, by rw [set_ne n1]; exact h.hb, by rw [set_ne n2]; exact h.hf, by rw [set_ne n3]; exact h.ha, h.gl, h.gp⟩
theorem sb_none (h : SubB b μ μ') (hn : μ' l = none) (hne : l ≠ b) : μ l = none := by
  cases e : μ l with
  | none => rfl
  | some m => rw [h l m hne e] at hn; cases hn
end
theorem ok_l_lines {f : Addr} {fd : FuncData} (F : Fun K "_law_lines" "_law_lines" s_l_lines f fd) (B : Bs mg) (G_l_place : Def P w K mg base "_law_place" ["_law_bag_here", "_law_under", "_law_far"] 2 (spI K P_l_place)) (G_l_take : Def P w K mg base "_law_take" ["_law_bag_here", "_law_many"] 1 (spI K P_l_take)) : FnOk P w K mg base CX0 3 f fd ["_law_bag_here", "_law_most"] (spI K P_l_lines) := by
  refine F.ok sc_l_lines (fun vs H Q E h => spI_len h len_l_lines) (fun cdv A outer s H vs Q E hr h => ?_)
  have hu65 := hu65_of hr
  refine ⟨_, (pss_cons (ps_par3 (i := 2) (j := 3) (l := 4) rfl sc_l_lines.nd rfl rfl rfl (by decide) (by decide) (by decide) rfl rfl rfl (pa_cons (pe_ix (ix_seqK (K := K) rfl) (pe_lst (pa_cons pe_int (pa_cons pe_int (pa_cons pe_int (pa_cons (pe_op op_pow pe_int pe_int) pa_nil))))) (pe_def G_l_take (hr.mono (by decide)) (by rfl) (pa_cons (pv 0) (pa_cons pe_int pa_nil))) (fun _ _ => rfl)) (pa_cons (pe_lst pa_nil) (pa_cons (pe_lst pa_nil) pa_nil))) (by rfl))
      (pss_cons (ps_for PassesOwn.never rfl (pi_range1 (by rfl) B.b_range (pa_cons (pe_def G_l_take (hr.mono (by decide)) (by rfl) (pa_cons (pv 0) (pa_cons (pe_op op_add (pv 1) pe_int) pa_nil))) pa_nil)) (pg_name (i := 5) sc_l_lines.nd rfl (by first | exact Or.inl rfl | exact Or.inr rfl))
      (pss_cons (ps_set (i := 6) sc_l_lines.nd rfl (by first | exact Or.inl rfl | exact Or.inr rfl) (pe_lst pa_nil))
      (pss_cons (ps_for PassesOwn.never rfl (pi_range1 (by rfl) B.b_range (pa_cons (pe_op op_add pe_int (pe_def G_l_take (hr.mono (by decide)) (by rfl) (pa_cons (pv 0) (pa_cons (pe_ix (ix_seqK (K := K) rfl) (pe_lst (pa_cons pe_int (pa_cons pe_int (pa_cons pe_int pa_nil)))) (pe_def G_l_take (hr.mono (by decide)) (by rfl) (pa_cons (pv 0) (pa_cons pe_int pa_nil))) (fun _ _ => rfl)) pa_nil)))) pa_nil)) (pg_name (i := 7) sc_l_lines.nd rfl (by first | exact Or.inl rfl | exact Or.inr rfl))
      (pss_cons (ps_set (i := 8) sc_l_lines.nd rfl (by first | exact Or.inl rfl | exact Or.inr rfl) (pe_def G_l_take (hr.mono (by decide)) (by rfl) (pa_cons (pv 0) (pa_cons pe_int pa_nil))))
      (pss_cons (ps_set (i := 9) sc_l_lines.nd rfl (by first | exact Or.inl rfl | exact Or.inr rfl) (pe_def G_l_place (hr.mono (by decide)) (by rfl) (pa_cons (pv 0) (pa_cons (pe_op op_add pe_int (pe_def G_l_take (hr.mono (by decide)) (by rfl) (pa_cons (pv 0) (pa_cons (pe_ix (ix_seqK (K := K) rfl) (pe_lst (pa_cons pe_int (pa_cons pe_int pa_nil))) (pe_def G_l_take (hr.mono (by decide)) (by rfl) (pa_cons (pv 0) (pa_cons pe_int pa_nil))) (fun _ _ => rfl)) pa_nil)))) (pa_cons (pv 2) pa_nil)))))
      (pss_cons (ps_if (PW.pt (pw_and (pt_cmpR op_eq (pv 8) pe_int (by first | exact nomark _ | rfl)) (pw_and1 (pt_cmpR (op_neDK (K := K) rfl hr.units) (pv 4) (pe_lst pa_nil) (by first | exact nomark _ | rfl))))) (pss_one (ps_set (i := 9) sc_l_lines.nd rfl (by first | exact Or.inl rfl | exact Or.inr rfl) (pe_ix (ix_seqK (K := K) rfl) (pv 4) (pe_def G_l_take (hr.mono (by decide)) (by rfl) (pa_cons (pv 0) (pa_cons (pe_callB (call_lenK (K := K) rfl) (by rfl) B.b_len (by decide +kernel) (pa_cons (pv 4) pa_nil)) pa_nil))) (fun _ _ => rfl)))) pss_nil)
      (pss_cons (ps_if (PW.pt (pw_and (pt_cmpR op_eq (pv 8) pe_int (by first | exact nomark _ | rfl)) (pw_and (pt_cmpR op_gt (pe_callB (call_lenK (K := K) rfl) (by rfl) B.b_len (by decide +kernel) (pa_cons (pv 6) pa_nil)) pe_int (by first | exact nomark _ | rfl)) (pw_and1 (pt_cmpR op_lt (pv 2) pe_int (by first | exact nomark _ | rfl)))))) (pss_one (ps_set (i := 9) sc_l_lines.nd rfl (by first | exact Or.inl rfl | exact Or.inr rfl) (pe_ix (ix_seqK (K := K) rfl) (pv 6) (pe_un un_neg pe_int) (fun _ _ => rfl)))) pss_nil)
      (pss_cons (ps_expr (pe_bm PySem.F.plainAttrs_list PySem.F.slot_list_append PySem.F.type_list_append mt_append (pv 6) (pa_cons (pv 9) pa_nil)))
      (pss_one (ps_expr (pe_bm PySem.F.plainAttrs_list PySem.F.slot_list_append PySem.F.type_list_append mt_append (pv 4) (pa_cons (pv 9) pa_nil))))))))))
      (pss_one (ps_expr (pe_bm PySem.F.plainAttrs_list PySem.F.slot_list_append PySem.F.type_list_append mt_append (pv 3) (pa_cons (pe_callTy (call_tupleK (K := K) rfl) (by rfl) B.b_tuple (by decide +kernel) (pa_cons (pv 6) pa_nil)) pa_nil)))))))
      (pss_one (ps_ret (pe_callTy (call_tupleK (K := K) rfl) (by rfl) B.b_tuple (by decide +kernel) (pa_cons (pv 3) pa_nil)))))), body_okU h (fun ds μ Φ p => ?_)⟩
  (try dsimp only [cxOf, Cx.nox, Cx.wish, List.map_cons, List.map_nil])
  obtain ⟨b, n, c, m, rfl, hb, hm, n0, n1, q⟩ := p
  show AS K _ [some _, some _, none, none, none, none, none, none, none, none] _ _
  have sn : Sz 31 n := by unfold Sz; omega
  walk_at "go"
  intro r hr
  have hbr : b ≠ r := sbmu hb hr
  walk_at "go"
  refine use_take (by walk_at "mu") hm (by decide) (by walk_at "szN") fun d c1 m1 d0 d1 ds hm1 => ?_
  obtain ⟨far, hz, far0, fars⟩ := pick_far d0 d1
  walk_at "go"
  refine ro_ix (seq_ref (by walk_at "mu")) hz ?_
  walk_at "go"
  intro fo hfo
  have bf : b ≠ fo := (none_ne hfo).symm
  have f0' : μ fo = none := none_back (none_back hfo)
  walk_at "go"
  intro al hal
  have fa : fo ≠ al := (none_ne hal).symm
  have ba : b ≠ al := (none_ne (none_back hal)).symm
  have a0' : μ al = none := none_back (none_back (none_back hal))
  have st0 : LSt b fo al μ (((( μ.set r (.lst [.int 2, .int 4, .int 12, .int 100000000000000000000])).set b (.lst [.int c1, .int m1])).set fo (.lst [])).set al (.lst [])) [] [] c1 m1 :=
    ⟨hm1, sb_own (sb_own (sb_self (sb_new sb_refl hr)) f0') a0', by walk_at "mu", by walk_at "mu", set_same, by simp, by simp⟩
  walk_at "go"
  generalize ((((μ.set r (.lst [.int 2, .int 4, .int 12, .int 100000000000000000000])).set b (.lst [.int c1, .int m1])).set fo (.lst [])).set al (.lst [])) = μ3 at st0 ⊢
  refine s_for (ai_1 ?_)
  walk_at "go"
  refine use_take st0.hb hm1 (by omega) (by walk_at "szN") fun dn c2 m2 e0 e1 es hm2 => ?_
  walk_at "go"
  refine ⟨by omega, by omega, ?_⟩
  refine ⟨fun i τ' μ' => ∃ (ls : List Ln) (ps : List Pl) (c m : Int) (o5 o6 o7 o8 o9 : Option D), ls.length = i ∧ ps.length ≤ 20 * i ∧ LSt b fo al μ μ' ls ps c m ∧ τ' = [some (.ref b), some (.int n), some (.int far), some (.ref fo), some (.ref al), o5, o6, o7, o8, o9], ⟨[], [], _, _, none, none, none, none, none, rfl, by simp, st0.bag bf ba hm2, rfl⟩, ?_, ?_⟩
  · rintro i x τ' μ' hx ⟨ls, ps, c3, m3, o5, o6, o7, o8, o9, rfl, hpl, st, rfl⟩
    have hi : ls.length < dn.toNat := by
      have := (List.getElem?_eq_some_iff.mp hx).1
      simpa using this
    walk_at "go"
    intro ll hll
    have lb : b ≠ ll := sbmu st.hb hll
    have lf : fo ≠ ll := sbmu st.hf hll
    have la : al ≠ ll := sbmu st.ha hll
    have ll0 : μ ll = none := sb_none st.sb hll lb.symm
    have st1 : LSt b fo al μ (μ'.set ll (.lst [])) ls ps c3 m3 := st.new hll
    have hl1 : (μ'.set ll (.lst [])) ll = some (.lst (([] : Ln).map encP)) := set_same
    walk_at "go"
    generalize (μ'.set ll (.lst [])) = μ4 at st1 hl1 ⊢
    refine s_for (ai_1 ?_)
    walk_at "go"
    intro r5 hr5
    have st2 := st1.new (Y := .lst [.int 5, .int 5, .int 19]) hr5
    have hl2 : (μ4.set r5 (.lst [.int 5, .int 5, .int 19])) ll = some (.lst (([] : Ln).map encP)) := by rw [set_ne (sbmu hl1 hr5)]; exact hl1
    have hr2 : (μ4.set r5 (.lst [.int 5, .int 5, .int 19])) r5 = some (.lst [.int 5, .int 5, .int 19]) := set_same
    have br5 : b ≠ r5 := sbmu st1.hb hr5
    generalize (μ4.set r5 (.lst [.int 5, .int 5, .int 19])) = μ5 at st2 hl2 hr2 ⊢
    walk_at "go"
    refine use_take st2.hb st2.hm (by decide) (by walk_at "szN") fun d4 c4 m4 f0 f1 fs4 hm4 => ?_
    obtain ⟨mn, hz4, mn0, mn1⟩ := pick_many f0 f1
    walk_at "go"
    refine ro_ix (seq_ref (by walk_at "mu")) hz4 ?_
    have st3 := st2.bag (c2 := c4) (m2 := m4) bf ba hm4
    have hl3 : (μ5.set b (.lst [.int c4, .int m4])) ll = some (.lst (([] : Ln).map encP)) := by rw [set_ne lb.symm]; exact hl2
    generalize (μ5.set b (.lst [.int c4, .int m4])) = μ6 at st3 hl3 ⊢
    have smn : Sz 31 mn := by unfold Sz; omega
    walk_at "go"
    refine use_take st3.hb hm4 mn0 (by walk_at "szN") fun d5 c5 m5 g0 g1 gs hm5 => ?_
    walk_at "go"
    refine ⟨by omega, by omega, ?_⟩
    refine ⟨fun j τ' μ' => ∃ (li : Ln) (ps : List Pl) (c m : Int) (o7 o8 o9 : Option D), li.length = j ∧ (∀ p ∈ li, GdP 80 p) ∧ ps.length ≤ 20 * ls.length + j ∧ LSt b fo al μ μ' ls ps c m ∧ μ' ll = some (.lst (li.map encP)) ∧ τ' = [some (.ref b), some (.int n), some (.int far), some (.ref fo), some (.ref al), some x, some (.ref ll), o7, o8, o9], ⟨[], ps, c5, m5, _, _, _, rfl, by simp, by simpa using hpl, st3.bag bf ba hm5, by rw [set_ne lb.symm]; exact hl3, rfl⟩, ?_, ?_⟩
    · rintro j y τ' μ' hy ⟨li, ps, c6, m6, o7, o8, o9, rfl, hli, hpl, st4, hl4, rfl⟩
      have hj : li.length < (2 + d5).toNat := by
        have := (List.getElem?_eq_some_iff.mp hy).1
        simpa using this
      walk_at "go"
      refine use_take st4.hb st4.hm (by decide) (by walk_at "szN") fun way c7 m7 w0 w1 ws hm7 => ?_
      have st5 := st4.bag (c2 := c7) (m2 := m7) bf ba hm7
      have hl5 : (μ'.set b (.lst [.int c7, .int m7])) ll = some (.lst (li.map encP)) := by rw [set_ne lb.symm]; exact hl4
      generalize (μ'.set b (.lst [.int c7, .int m7])) = μ7 at st5 hl5 ⊢
      walk_at "go"
      intro r6 hr6
      have st6 := st5.new (Y := .lst [.int 1, .int 4]) hr6
      have hl6 : (μ7.set r6 (.lst [.int 1, .int 4])) ll = some (.lst (li.map encP)) := by rw [set_ne (sbmu hl5 hr6)]; exact hl5
      have br6 : b ≠ r6 := sbmu st5.hb hr6
      have hr6' : (μ7.set r6 (.lst [.int 1, .int 4])) r6 = some (.lst [.int 1, .int 4]) := set_same
      generalize (μ7.set r6 (.lst [.int 1, .int 4])) = μ8 at st6 hl6 hr6' ⊢
      walk_at "go"
      refine use_take st6.hb st6.hm (by decide) (by walk_at "szN") fun d8 c8 m8 h0 h1 hs8 hm8 => ?_
      obtain ⟨mx, hz8, mx0, mx1⟩ := pick_14 h0 h1
      walk_at "go"
      refine ro_ix (seq_ref (by walk_at "mu")) hz8 ?_
      have st7 := st6.bag (c2 := c8) (m2 := m8) bf ba hm8
      have hl7 : (μ8.set b (.lst [.int c8, .int m8])) ll = some (.lst (li.map encP)) := by rw [set_ne lb.symm]; exact hl6
      generalize (μ8.set b (.lst [.int c8, .int m8])) = μ9 at st7 hl7 ⊢
      have smx : Sz 31 mx := by unfold Sz; omega
      walk_at "go"
      refine use_take st7.hb st7.hm mx0 (by walk_at "szN") fun d9 c9 m9 i0 i1 is9 hm9 => ?_
      have st8 := st7.bag (c2 := c9) (m2 := m9) bf ba hm9
      have hl8 : (μ9.set b (.lst [.int c9, .int m9])) ll = some (.lst (li.map encP)) := by rw [set_ne lb.symm]; exact hl7
      generalize (μ9.set b (.lst [.int c9, .int m9])) = μa at st8 hl8 ⊢
      walk_at "go"
      refine use_place st8.hb st8.hm (by omega) (by unfold Sz; omega) far0 fars fun pl ca ma gpl hma => ?_
      have st9 := st8.bag (c2 := ca) (m2 := ma) bf ba hma
      have hl9 : (μa.set b (.lst [.int ca, .int ma])) ll = some (.lst (li.map encP)) := by rw [set_ne lb.symm]; exact hl8
      generalize (μa.set b (.lst [.int ca, .int ma])) = μb at st9 hl9 ⊢
      refine g_name ?_
      walk_at "nf"
      have hps : ps.length ≤ 2000 := by omega
      refine s_cut (M0 := fun τ' μ' => ∃ (pl : Pl) (c m : Int), GdP 80 pl ∧ LSt b fo al μ μ' ls ps c m ∧ μ' ll = some (.lst (li.map encP)) ∧ τ' = [some (.ref b), some (.int n), some (.int far), some (.ref fo), some (.ref al), some x, some (.ref ll), some y, some (.int way), some (encP pl)]) ?_ ?_
      · walk_at "go"
        refine ite_d (fun q1 => ?_) (fun q1 => ?_)
        · walk_at "go"
          intro rn hrn
          have sta := st9.new (Y := .lst []) hrn
          have hla : (μb.set rn (.lst [])) ll = some (.lst (li.map encP)) := by rw [set_ne (sbmu hl9 hrn)]; exact hl9
          have hrn' : (μb.set rn (.lst [])) rn = some (.lst []) := set_same
          generalize (μb.set rn (.lst [])) = μc at sta hla hrn' ⊢
          walk_at "go"
          refine ro_neNil (n := 2) sta.ha hrn' (okn_encPs ps) (by decide) ?_
          cases hem : (ps.map encP).isEmpty
          · have hpos : 0 < ps.length := by
              rcases ps with _ | ⟨p0, ps⟩
              · simp at hem
              · simp
            have haa := sta.ha
            walk_at "go"
            have slen : Sz 4000 (((ps.map encP).length : Nat) : Int) := by
              rw [List.length_map]
              have : Sz 31 ((ps.length : Nat) : Int) := by unfold Sz; omega
              exact sz_mono this (by decide)
            refine use_take sta.hb sta.hm (by rw [List.length_map]; omega) slen fun dd cb mb j0 j1 js hmb => ?_
            rw [List.length_map] at j1
            obtain ⟨p, hp, hat⟩ := at_pl j0 j1
            have stb := sta.bag (c2 := cb) (m2 := mb) bf ba hmb
            have hlb : (μc.set b (.lst [.int cb, .int mb])) ll = some (.lst (li.map encP)) := by rw [set_ne lb.symm]; exact hla
            generalize (μc.set b (.lst [.int cb, .int mb])) = μd at stb hlb ⊢
            walk_at "go"
            refine ro_ix (seq_ref stb.ha) hat ?_
            walk_at "go"
            exact ⟨p, cb, mb, stb.gp p hp, stb, hlb, rfl⟩
          · walk_at "go"
            exact ⟨pl, ca, ma, gpl, sta, hla, rfl⟩
        · walk_at "go"
          exact ⟨pl, ca, ma, gpl, st9, hl9, rfl⟩
      rintro τ' μ' ⟨pl, ca, ma, gpl, st9, hl9, rfl⟩
      refine s_cut (M0 := fun τ' μ' => ∃ (pl : Pl) (c m : Int), GdP 80 pl ∧ LSt b fo al μ μ' ls ps c m ∧ μ' ll = some (.lst (li.map encP)) ∧ τ' = [some (.ref b), some (.int n), some (.int far), some (.ref fo), some (.ref al), some x, some (.ref ll), some y, some (.int way), some (encP pl)]) ?_ ?_
      · walk_at "go"
        refine ite_d (fun q1 => ?_) (fun q1 => ?_)
        · walk_at "go"
          refine ite_d (fun q2 => ?_) (fun q2 => ?_)
          · have hlen : 1 < li.length := by
              rw [List.length_map] at q2
              omega
            walk_at "go"
            refine ite_d (fun q3 => ?_) (fun q3 => ?_)
            · obtain ⟨p, hp, hat⟩ := at_last hlen
              walk_at "go"
              refine ro_ix (seq_ref hl9) hat ?_
              walk_at "go"
              exact ⟨p, ca, ma, hli p hp, st9, hl9, rfl⟩
            · walk_at "go"
              exact ⟨pl, ca, ma, gpl, st9, hl9, rfl⟩
          · walk_at "go"
            exact ⟨pl, ca, ma, gpl, st9, hl9, rfl⟩
        · walk_at "go"
          exact ⟨pl, ca, ma, gpl, st9, hl9, rfl⟩
      rintro τ' μ' ⟨pl, ca, ma, gpl, st9, hl9, rfl⟩
      walk_at "go"
      refine m_append (ds := li.map encP) (a := ll) ?_
      walk_at "go"
      refine ⟨rfl, ⟨_, hl9⟩, ?_⟩
      walk_at "go"
      refine ⟨hl9, size_of (by rw [List.length_map]; omega), ?_⟩
      walk_at "go"
      refine m_append (ds := ps.map encP) (a := al) ?_
      walk_at "go"
      have sta := st9.own (Y := .lst (li.map encP ++ [encP pl])) ll0 lb lf la
      refine ⟨rfl, ⟨_, sta.ha⟩, ?_⟩
      walk_at "go"
      refine ⟨sta.ha, size_of (by rw [List.length_map]; omega), ?_⟩
      walk_at "go"
      refine ⟨li ++ [pl], ps ++ [pl], ca, ma, _, _, _, by simp, ?_, by simp only [List.length_append, List.length_cons, List.length_nil]; omega, ⟨st9.hm, ?_, ?_, ?_, ?_, st9.gl, ?_⟩, ?_, rfl⟩
      · exact fun z hz => (List.mem_append.mp hz).elim (hli z) fun e => by rw [List.mem_singleton.mp e]; exact gpl
      · exact sb_own (sb_own st9.sb ll0) a0'
      · rw [set_ne ba, set_ne lb]; exact st9.hb
      · rw [set_ne fa, set_ne lf]; exact st9.hf
      · rw [set_same]; simp
      · exact fun z hz => (List.mem_append.mp hz).elim (st9.gp z) fun e => by rw [List.mem_singleton.mp e]; exact gpl
      · rw [set_ne la.symm, set_same]; simp
    · rintro τ' μ' ⟨li, ps, c6, m6, o7, o8, o9, hlen, hli, hpl, st4, hl4, rfl⟩
      rw [List.length_map, List.length_range] at hlen hpl
      dsimp only [id]
      have hff := st4.hf
      walk_at "go"
      refine m_append (ds := ls.map encL) (a := fo) ?_
      walk_at "go"
      refine ⟨rfl, ⟨_, hff⟩, ?_⟩
      walk_at "go"
      refine rc_tuple (seq_ref hl4) ?_
      refine ⟨hff, size_of (by rw [List.length_map]; omega), ?_⟩
      walk_at "go"
      refine ⟨ls ++ [li], ps, c6, m6, _, _, _, _, _, by simp, by omega, ⟨st4.hm, sb_own st4.sb f0', ?_, ?_, ?_, ?_, st4.gp⟩, rfl⟩
      · rw [set_ne bf]; exact st4.hb
      · rw [set_same]; simp
      · rw [set_ne fa.symm]; exact st4.ha
      · intro z hz
        rcases List.mem_append.mp hz with hz | hz
        · exact st4.gl z hz
        · rw [List.mem_singleton.mp hz]
          exact ⟨by omega, by omega, hli⟩
  · rintro τ' μ' ⟨ls, ps, c6, m6, o5, o6, o7, o8, o9, hlen, hpl, st, rfl⟩
    rw [List.length_map, List.length_range] at hlen
    dsimp only [id]
    have hff := st.hf
    walk_at "go"
    refine rc_tuple (seq_ref hff) ?_
    exact up_of (sb_end st.sb st.hb) (q ls c6 m6 (by omega) st.gl st.hm)
def P_l_meet : PT3 := fun ds μ Φ => ∃ l m : Ln, ds = [encL l, encL m] ∧ l.length ≤ 1000 ∧ m.length ≤ 1000 ∧ (∀ p ∈ l, GoodP p) ∧ (∀ p ∈ m, GoodP p) ∧ Φ (.bl (lmeet l m)) μ
theorem len_l_meet (ds : List D) (μ : M) (Φ : D → M → Prop) (h : P_l_meet ds μ Φ) : ds.length = 2 := by
  obtain ⟨_, _, rfl, _⟩ := h
  rfl
theorem use_l_meet {μ : M} {Φ : D → M → Prop} {l m : Ln} (h1 : l.length ≤ 1000) (h2 : m.length ≤ 1000) (g1 : ∀ p ∈ l, GoodP p) (g2 : ∀ p ∈ m, GoodP p) (q : Φ (.bl (lmeet l m)) μ) : P_l_meet [encL l, encL m] μ Φ := ⟨l, m, rfl, h1, h2, g1, g2, q⟩
theorem at_hm {l : Ln} {i : Nat} {x : Pl × Pl} (h : (pcs l)[i]? = some x) : atI (l.map encH) (i : Int) = some (encH x.1) ∧ atI (l.map encH) ((i : Int) + 1) = some (encH x.2) := by
  obtain ⟨h1, h2⟩ := pcs_get.mp h
  exact ⟨atI_nat (by rw [List.getElem?_map, h1]; rfl), by
    rw [show (i : Int) + 1 = ((i + 1 : Nat) : Int) by omega]
    exact atI_nat (by rw [List.getElem?_map, h2]; rfl)⟩
theorem range_get {n i : Nat} {x : D} (h : ((List.range n).map fun (i : Nat) => D.int (0 + (i : Int)))[i]? = some x) : i < n ∧ x = .int (i : Int) := by
  have hlt := (List.getElem?_eq_some_iff.mp h).1
  rw [List.length_map, List.length_range] at hlt
  rw [List.getElem?_map, List.getElem?_range hlt] at h
  cases h
  exact ⟨hlt, by simp⟩
theorem pcs_at {l : Ln} {i : Nat} (h : i < ((((l.map encH).length : Nat) : Int) - 1).toNat) : ∃ x, (pcs l)[i]? = some x := by
  have hl : i < (pcs l).length := by
    rw [pcs_len]
    rw [List.length_map] at h
    omega
  exact ⟨_, List.getElem?_eq_getElem hl⟩
theorem ok_l_meet {f : Addr} {fd : FuncData} (F : Fun K "_law_meet" "_law_meet" s_l_meet f fd) (B : Bs mg) (G_l_homogen : Def P w K mg base "_law_homogen" ["_law_place_here"] 1 (spI K P_l_homogen)) (G_l_touch : Def P w K mg base "_law_touch" ["_law_a", "_law_b", "_law_c", "_law_d"] 2 (spI K P_l_touch)) : FnOk P w K mg base CX0 4 f fd ["_law_one", "_law_other"] (spI K P_l_meet) := by
  refine F.ok sc_l_meet (fun vs H Q E h => spI_len h len_l_meet) (fun cdv A outer s H vs Q E hr h => ?_)
  have hu65 := hu65_of hr
  refine ⟨_, (pss_cons (ps_par (i := 2) (j := 3) rfl sc_l_meet.nd rfl rfl (by decide) rfl rfl (pa_cons (pe_lc (own := [("_law_place_here", 6)]) (g := gName 6) (tt := tYes) rfl sc_l_meet.nd (pi_tupK (K := K) rfl (pv 0)) (blkOk_by (own := [("_law_place_here", 6)]) (N := N_l_meet) (sc := defScope s_l_meet) (by decide +kernel)) (fun _ _ _ _ _ => (pg_name (i := 6) sc_l_meet.nd rfl (by first | exact Or.inl rfl | exact Or.inr rfl))) (fun _ _ _ _ _ => pts_nil) (fun _ _ _ _ _ => (pe_def G_l_homogen (hr.mono (by decide)) (by rfl) (pa_cons (pv 6) pa_nil)))) (pa_cons (pe_lc (own := [("_law_place_here", 6)]) (g := gName 6) (tt := tYes) rfl sc_l_meet.nd (pi_tupK (K := K) rfl (pv 1)) (blkOk_by (own := [("_law_place_here", 6)]) (N := N_l_meet) (sc := defScope s_l_meet) (by decide +kernel)) (fun _ _ _ _ _ => (pg_name (i := 6) sc_l_meet.nd rfl (by first | exact Or.inl rfl | exact Or.inr rfl))) (fun _ _ _ _ _ => pts_nil) (fun _ _ _ _ _ => (pe_def G_l_homogen (hr.mono (by decide)) (by rfl) (pa_cons (pv 6) pa_nil)))) pa_nil)) (by rfl))
      (pss_cons (ps_for PassesOwn.never rfl (pi_range1 (by rfl) B.b_range (pa_cons (pe_op op_sub (pe_callB (call_lenK (K := K) rfl) (by rfl) B.b_len (by decide +kernel) (pa_cons (pv 2) pa_nil)) pe_int) pa_nil)) (pg_name (i := 4) sc_l_meet.nd rfl (by first | exact Or.inl rfl | exact Or.inr rfl))
      (pss_one (ps_for PassesOwn.never rfl (pi_range1 (by rfl) B.b_range (pa_cons (pe_op op_sub (pe_callB (call_lenK (K := K) rfl) (by rfl) B.b_len (by decide +kernel) (pa_cons (pv 3) pa_nil)) pe_int) pa_nil)) (pg_name (i := 5) sc_l_meet.nd rfl (by first | exact Or.inl rfl | exact Or.inr rfl))
      (pss_one (ps_if (pt_val (pe_def G_l_touch (hr.mono (by decide)) (by rfl) (pa_cons (pe_ix (ix_seqK (K := K) rfl) (pv 2) (pv 4) (fun _ _ => rfl)) (pa_cons (pe_ix (ix_seqK (K := K) rfl) (pv 2) (pe_op op_add (pv 4) pe_int) (fun _ _ => rfl)) (pa_cons (pe_ix (ix_seqK (K := K) rfl) (pv 3) (pv 5) (fun _ _ => rfl)) (pa_cons (pe_ix (ix_seqK (K := K) rfl) (pv 3) (pe_op op_add (pv 5) pe_int) (fun _ _ => rfl)) pa_nil)))))) (pss_one (ps_ret pe_bl)) pss_nil)))))
      (pss_one (ps_ret pe_bl)))), body_okU h (fun ds μ Φ p => ?_)⟩
  (try dsimp only [cxOf, Cx.nox, Cx.wish, List.map_cons, List.map_nil])
  obtain ⟨l, m, rfl, h1, h2, g1, g2, q⟩ := p
  show AS K _ [some _, some _, none, none, none, none, none] _ _
  walk_at "go"
  refine a_lc tg_name (ai_T ?_)
  walk_at "go"
  refine ⟨fun i acc μ' => acc = (l.take i).map encH ∧ μ' = μ, ⟨rfl, rfl⟩, ?_, ?_⟩
  · rintro i x acc μ' hx ⟨rfl, rfl⟩
    obtain ⟨p, hp, rfl⟩ := mapget hx
    refine ⟨_, rfl, rfl, ?_⟩
    refine at_yes ?_
    rw [if_pos rfl]
    walk_at "nf"
    walk_at "go"
    refine use_homogen (g1 p (List.mem_of_getElem? hp)) ⟨size_of ?_, ?_, rfl⟩
    · rw [List.length_map, List.length_take]; omega
    · rw [take_snoc hp, List.map_append]; rfl
  rintro acc μ' ⟨rfl, rfl⟩ mi hmi
  rw [List.length_map, List.take_length]
  dsimp only [id] at hmi ⊢
  walk_at "go"
  refine a_lc tg_name (ai_T ?_)
  walk_at "go"
  refine ⟨fun i acc μ2 => acc = (m.take i).map encH ∧ μ2 = μ'.set mi (.lst (l.map encH)), ⟨rfl, rfl⟩, ?_, ?_⟩
  · rintro i x acc μ2 hx ⟨rfl, rfl⟩
    obtain ⟨p, hp, rfl⟩ := mapget hx
    refine ⟨_, rfl, rfl, ?_⟩
    refine at_yes ?_
    rw [if_pos rfl]
    walk_at "nf"
    walk_at "go"
    refine use_homogen (g2 p (List.mem_of_getElem? hp)) ⟨size_of ?_, ?_, rfl⟩
    · rw [List.length_map, List.length_take]; omega
    · rw [take_snoc hp, List.map_append]; rfl
  rintro acc μ2 ⟨rfl, rfl⟩ yo hyo
  rw [List.length_map, List.take_length]
  dsimp only [id] at hyo ⊢
  have sb : Sub μ' ((μ'.set mi (.lst (l.map encH))).set yo (.lst (m.map encH))) := sub_new (sub_new Sub.refl hmi) hyo
  have hm' : ((μ'.set mi (.lst (l.map encH))).set yo (.lst (m.map encH))) mi = some (.lst (l.map encH)) := by rw [set_ne (none_ne hyo).symm]; exact set_same
  have hy' : ((μ'.set mi (.lst (l.map encH))).set yo (.lst (m.map encH))) yo = some (.lst (m.map encH)) := set_same
  generalize ((μ'.set mi (.lst (l.map encH))).set yo (.lst (m.map encH))) = μ3 at sb hm' hy' ⊢
  walk_at "go"
  refine s_for (ai_1 ?_)
  walk_at "go"
  refine ⟨by rw [List.length_map]; omega, by rw [List.length_map]; omega, ?_⟩
  refine ⟨fun i τ' μ4 => (∀ x ∈ (pcs l).take i, ((pcs m).any fun y => tch x.1 x.2 y.1 y.2) = false) ∧ μ4 = μ3 ∧ ∃ o5 o6 : Option D, τ' = [some (encL l), some (encL m), some (.ref mi), some (.ref yo), o5, o6, none], ⟨by simp, rfl, _, _, rfl⟩, ?_, ?_⟩
  · rintro i x τ' μ4 hx ⟨hi, rfl, o5, o6, rfl⟩
    obtain ⟨hlt, rfl⟩ := range_get hx
    obtain ⟨x, hpx⟩ := pcs_at hlt
    have hxm := pcs_mem (List.mem_of_getElem? hpx)
    walk_at "go"
    refine s_for (ai_1 ?_)
    walk_at "go"
    refine ⟨by rw [List.length_map]; omega, by rw [List.length_map]; omega, ?_⟩
    refine ⟨fun j τ' μ5 => (∀ y ∈ (pcs m).take j, tch x.1 x.2 y.1 y.2 = false) ∧ μ5 = μ4 ∧ ∃ o6 : Option D, τ' = [some (encL l), some (encL m), some (.ref mi), some (.ref yo), some (.int (i : Int)), o6, none], ⟨by simp, rfl, _, rfl⟩, ?_, ?_⟩
    · rintro j y τ' μ5 hy ⟨hj, rfl, o6, rfl⟩
      obtain ⟨hlt2, rfl⟩ := range_get hy
      obtain ⟨y, hpy⟩ := pcs_at hlt2
      have hym := pcs_mem (List.mem_of_getElem? hpy)
      obtain ⟨a1, a2⟩ := at_hm hpx
      obtain ⟨b1, b2⟩ := at_hm hpy
      walk_at "go"
      refine ro_ix (seq_ref hm') a1 ?_
      walk_at "go"
      refine ro_ix (seq_ref hm') a2 ?_
      walk_at "go"
      refine ro_ix (seq_ref hy') b1 ?_
      walk_at "go"
      refine ro_ix (seq_ref hy') b2 ?_
      walk_at "go"
      refine use_l_touch (g1 _ hxm.1) (g1 _ hxm.2) (g2 _ hym.1) (g2 _ hym.2) ?_
      cases e : tch x.1 x.2 y.1 y.2
      · walk_at "go"
        exact ⟨mem_snoc hpy hj e, rfl, _, rfl⟩
      · walk_at "go"
        refine up_of sb (cast_bl ?_ q)
        unfold lmeet
        exact (List.any_eq_true.mpr ⟨x, List.mem_of_getElem? hpx, List.any_eq_true.mpr ⟨y, List.mem_of_getElem? hpy, e⟩⟩).symm
    · rintro τ' μ5 ⟨hj, rfl, o6, rfl⟩
      dsimp only [id]
      rw [List.length_map, List.length_range] at hj
      have e2 : ((pcs m).any fun y => tch x.1 x.2 y.1 y.2) = false := List.any_eq_false.mpr fun y hy => by
        rw [hj y (by rw [List.take_of_length_le (by rw [pcs_len, List.length_map]; omega)]; exact hy)]; exact Bool.false_ne_true
      exact ⟨mem_snoc hpx hi e2, rfl, _, _, rfl⟩
  · rintro τ' μ4 ⟨hi, rfl, o5, o6, rfl⟩
    dsimp only [id]
    walk_at "go"
    refine up_of sb (cast_bl ?_ q)
    rw [List.length_map, List.length_range] at hi
    unfold lmeet
    exact (List.any_eq_false.mpr fun x hx => by
      rw [hi x (by rw [List.take_of_length_le (by rw [pcs_len, List.length_map]; omega)]; exact hx)]; exact Bool.false_ne_true).symm
def P_l_pairs : PT3 := fun ds μ Φ => ∃ ls : List Ln, ds = [encLs ls] ∧ LsOk ls ∧ Φ (.tup (rows ls lmeet ls.length)) μ
theorem len_l_pairs (ds : List D) (μ : M) (Φ : D → M → Prop) (h : P_l_pairs ds μ Φ) : ds.length = 1 := by
  obtain ⟨_, rfl, _⟩ := h
  rfl
theorem use_pairs {μ : M} {Φ : D → M → Prop} {ls : List Ln} (h : LsOk ls) (q : Φ (.tup (rows ls lmeet ls.length)) μ) : P_l_pairs [encLs ls] μ Φ := ⟨ls, rfl, h, q⟩
theorem ok_l_pairs {f : Addr} {fd : FuncData} (F : Fun K "_law_pairs" "_law_pairs" s_l_pairs f fd) (B : Bs mg) (G_l_meet : Def P w K mg base "_law_meet" ["_law_one", "_law_other"] 4 (spI K P_l_meet)) : FnOk P w K mg base CX0 5 f fd ["_law_lines_here"] (spI K P_l_pairs) := by
  refine F.ok sc_l_pairs (fun vs H Q E h => spI_len h len_l_pairs) (fun cdv A outer s H vs Q E hr h => ?_)
  have hu65 := hu65_of hr
  refine ⟨_, (pss_cons (ps_set (i := 1) sc_l_pairs.nd rfl (by first | exact Or.inl rfl | exact Or.inr rfl) (pe_lst pa_nil))
      (pss_cons (ps_for PassesOwn.never rfl (pi_range1 (by rfl) B.b_range (pa_cons (pe_callB (call_lenK (K := K) rfl) (by rfl) B.b_len (by decide +kernel) (pa_cons (pv 0) pa_nil)) pa_nil)) (pg_name (i := 2) sc_l_pairs.nd rfl (by first | exact Or.inl rfl | exact Or.inr rfl))
      (pss_one (ps_set (i := 1) sc_l_pairs.nd rfl (by first | exact Or.inl rfl | exact Or.inr rfl) (pe_op op_cat (pv 1) (pe_lc (own := [("_law_other", 3)]) (g := gName 3)  rfl sc_l_pairs.nd (pi_range2 (by rfl) B.b_range (pa_cons (pe_op op_add (pv 2) pe_int) (pa_cons (pe_callB (call_lenK (K := K) rfl) (by rfl) B.b_len (by decide +kernel) (pa_cons (pv 0) pa_nil)) pa_nil))) (blkOk_by (own := [("_law_other", 3)]) (N := N_l_pairs) (sc := defScope s_l_pairs) (by decide +kernel)) (fun _ _ _ _ _ => (pg_name (i := 3) sc_l_pairs.nd rfl (by first | exact Or.inl rfl | exact Or.inr rfl))) (fun _ _ _ _ _ => (pts_one (pt_val (pe_def G_l_meet (hr.mono (by decide)) (by rfl) (pa_cons (pe_ix (ix_seqK (K := K) rfl) (pv 0) (pv 2) (fun _ _ => rfl)) (pa_cons (pe_ix (ix_seqK (K := K) rfl) (pv 0) (pv 3) (fun _ _ => rfl)) pa_nil)))))) (fun _ _ _ _ _ => (pe_tup (pa_cons (pv 2) (pa_cons (pv 3) pa_nil)))))))))
      (pss_one (ps_ret (pe_callTy (call_tupleK (K := K) rfl) (by rfl) B.b_tuple (by decide +kernel) (pa_cons (pv 1) pa_nil)))))), body_okU h (fun ds μ Φ p => ?_)⟩
  (try dsimp only [cxOf, Cx.nox, Cx.wish, List.map_cons, List.map_nil])
  obtain ⟨ls, rfl, h, q⟩ := p
  show AS K _ [some _, none, none, none] _ _
  have hn := h.n
  have hm : (ls.map encL).length = ls.length := List.length_map _
  walk_at "go"
  intro f0 hf0
  walk_at "go"
  refine s_for (ai_1 ?_)
  walk_at "go"
  refine ⟨by omega, by omega, ?_⟩
  refine ⟨fun i τ' μ' => ∃ (fa : Addr) (o3 : Option D), i ≤ ls.length ∧ μ' fa = some (.lst (rows ls lmeet i)) ∧ Sub μ μ' ∧ τ' = [some (encLs ls), some (.ref fa), o3, none], ⟨f0, _, Nat.zero_le _, set_same, sub_new Sub.refl hf0, rfl⟩, ?_, ?_⟩
  · rintro i x τ' μ' hx ⟨fa, o3, hi, hfa, sb, rfl⟩
    obtain ⟨hlt, rfl⟩ := range_get hx
    have hlt : i < ls.length := by omega
    walk_at "go"
    refine a_lc tg_name (ai_2 ?_)
    walk_at "go"
    refine ⟨by omega, ?_⟩
    have eN : ((((ls.map encL).length : Nat) : Int) - ((i : Int) + 1)).toNat = ls.length - (i + 1) := by omega
    rw [eN]
    refine ⟨fun j acc μ2 => acc = part ls lmeet i j ∧ μ2 = μ', ⟨rfl, rfl⟩, ?_, ?_⟩
    · rintro j y acc μ2 hy ⟨rfl, rfl⟩
      obtain ⟨j', hj, rfl⟩ := mapget hy
      have hj' : j' = j ∧ j < ls.length - (i + 1) := by
        have hlt := (List.getElem?_eq_some_iff.mp hj).1
        rw [List.length_range] at hlt
        rw [List.getElem?_range hlt] at hj
        cases hj
        exact ⟨rfl, hlt⟩
      obtain ⟨rfl, hjlt⟩ := hj'
      refine ⟨_, rfl, rfl, ?_⟩
      walk_at "nf"
      have e2 : (i : Int) + 1 + (j' : Int) = ((i + 1 + j' : Nat) : Int) := by omega
      rw [e2]
      have hk2 : i + 1 + j' < ls.length := by omega
      walk_at "go"
      refine ro_ix rfl (atl hlt) ?_
      walk_at "go"
      refine ro_ix rfl (atl hk2) ?_
      walk_at "go"
      have m1 := h.l _ (getD_mem hlt)
      have m2 := h.l _ (getD_mem hk2)
      refine use_l_meet m1.1 m2.1 m1.2 m2.2 ?_
      cases e3 : lmeet (ls.getD i []) (ls.getD (i + 1 + j') [])
      · walk_at "go"
        refine ⟨?_, rfl⟩
        rw [part_succ, e3, if_neg Bool.false_ne_true, List.append_nil]
      · walk_at "go"
        refine ⟨size_of (by have := part_len ls lmeet i j'; omega), ?_, rfl⟩
        rw [part_succ, e3, if_pos rfl]
    · rintro acc μ2 ⟨rfl, rfl⟩ r hr
      dsimp only [id] at hr ⊢
      rw [List.length_map, List.length_range, part_all]
      have s1 := rows_small h lmeet (k := i) (by omega)
      have s2 := row_len ls lmeet i
      refine ro_cat (ds := rows ls lmeet i) (es := row ls lmeet i) (by rw [set_ne (sbmu hfa hr)]; exact hfa) set_same (Nat.le_of_lt (size_of (by omega))) fun w hw => ?_
      walk_at "go"
      refine ⟨w, _, hlt, ?_, sub_new (sub_new sb hr) hw, rfl⟩
      rw [set_same, rows_succ]
  · rintro τ' μ' ⟨fa, o3, hi, hfa, sb, rfl⟩
    dsimp only [id]
    rw [List.length_map, List.length_range] at hfa
    have e : ((((ls.map encL).length : Nat) : Int)).toNat = ls.length := by omega
    rw [e] at hfa
    walk_at "go"
    refine rc_tuple (seq_ref hfa) ?_
    exact up_of sb q
theorem cut0 {ds : List D} : cutD ds none none = ds := cutD_all ⟨HT.sIx_none _ _, HT.sIx_none _ _⟩
theorem ok_law {f : Addr} {fd : FuncData} (F : Fun K "law" "law" s_law f fd) (B : Bs mg) (G_l_bag : Def P w K mg base "_law_bag" ["_law_script", "_law_at"] 2 (spI K P_l_bag)) (G_l_lines : Def P w K mg base "_law_lines" ["_law_bag_here", "_law_most"] 3 (spI K P_l_lines)) (G_l_pairs : Def P w K mg base "_law_pairs" ["_law_lines_here"] 5 (spI K P_l_pairs)) (G_meeting : Def P w K mg base "meeting" ["lines"] 5 (spI K P_meeting)) : FnOk P w K mg base CX0 6 f fd ["_law_script"] (spI K P_law) := by
  refine F.ok sc_law (fun vs H Q E h => spI_len h len_law) (fun cdv A outer s H vs Q E hr h => ?_)
  have hu65 := hu65_of hr
  refine ⟨_, (pss_cons (ps_for PassesOwn.never rfl (pi_range1 (by rfl) B.b_range (pa_cons (pe_callB (call_max2 rfl) (by rfl) B.b_max (by decide +kernel) (pa_cons pe_int (pa_cons (pe_callB (call_min2 rfl) (by rfl) B.b_min (by decide +kernel) (pa_cons pe_int (pa_cons (pe_callB (call_lenK (K := K) rfl) (by rfl) B.b_len (by decide +kernel) (pa_cons (pv 0) pa_nil)) pa_nil))) pa_nil))) pa_nil)) (pg_name (i := 1) sc_law.nd rfl (by first | exact Or.inl rfl | exact Or.inr rfl))
      (pss_cons (ps_set (i := 2) sc_law.nd rfl (by first | exact Or.inl rfl | exact Or.inr rfl) (pe_def G_l_bag (hr.mono (by decide)) (by rfl) (pa_cons (pv 0) (pa_cons (pv 1) pa_nil))))
      (pss_cons (ps_set (i := 3) sc_law.nd rfl (by first | exact Or.inl rfl | exact Or.inr rfl) (pe_def G_l_lines (hr.mono (by decide)) (by rfl) (pa_cons (pv 2) (pa_cons pe_int pa_nil))))
      (pss_one (ps_if (PW.pt (pw_or (pt_cmpR (op_neDK (K := K) rfl hr.units) (pe_def G_meeting (hr.mono (by decide)) (by rfl) (pa_cons (pv 3) pa_nil)) (pe_def G_l_pairs (hr.mono (by decide)) (by rfl) (pa_cons (pv 3) pa_nil)) (by first | exact nomark _ | rfl)) (pw_or (pt_cmpR (op_neDK (K := K) rfl hr.units) (pe_def G_meeting (hr.mono (by decide)) (by rfl) (pa_cons (pv 3) pa_nil)) (pe_def G_meeting (hr.mono (by decide)) (by rfl) (pa_cons (pe_slice (sl_tupAK (K := K) rfl) (pv 3) po_none po_none) pa_nil)) (by first | exact nomark _ | rfl)) (pw_or1 (pt_cmpR (op_neDK (K := K) rfl hr.units) (pe_def G_meeting (hr.mono (by decide)) (by rfl) (pa_cons (pe_tup pa_nil) pa_nil)) (pe_tup pa_nil) (by first | exact nomark _ | rfl)))))) (pss_one (ps_ret pe_bl)) pss_nil)))))
      (pss_one (ps_ret pe_bl))), body_ok h (fun ds μ Φ p => ?_)⟩
  (try dsimp only [cxOf, Cx.nox, Cx.wish, List.map_cons, List.map_nil])
  obtain ⟨ns, rfl, hl, q⟩ := p
  show AS K _ [some _, none, none, none] _ _
  walk_at "go"
  refine s_for (ai_1 ?_)
  walk_at "go"
  refine ⟨by split <;> (try split) <;> omega, by split <;> (try split) <;> omega, ?_⟩
  refine ⟨fun i τ' μ' => ∃ o2 o3 o4 : Option D, τ' = [some (.rol (ns.map D.int)), o2, o3, o4], ⟨_, _, _, rfl⟩, ?_, ?_⟩
  · rintro i x τ' μ' hx ⟨o2, o3, o4, rfl⟩
    obtain ⟨hlt, rfl⟩ := range_get hx
    have hi3 : (i : Int) ≤ 3 := by
      have : i < 4 := by
        refine Nat.lt_of_lt_of_le hlt ?_
        split <;> (try split) <;> omega
      omega
    walk_at "go"
    refine use_bag (by omega) (by omega) fun bg c m hbn hm => ?_
    walk_at "go"
    refine use_lines set_same hm (by decide) (by decide) fun ls c1 m1 hls gl hm1 => ?_
    have ok : LsOk ls := ⟨by omega, fun l hl => ⟨by have := (gl l hl).hi; omega, fun p hp => ((gl l hl).g p hp).good (by decide)⟩⟩
    have ok0 : LsOk [] := ⟨by decide, by simp⟩
    have okr := rows_okn ls lmeet ls.length
    have okr0 := rows_okn [] lmeet 0
    walk_at "go"
    refine use_meeting ok ?_
    walk_at "go"
    refine use_pairs ok ?_
    refine ro_neD (okr.ok (by decide)) (okr.ok (by decide)) ?_
    rw [eqv_self okr]
    walk_at "go"
    refine use_meeting ok ?_
    walk_at "go"
    rw [cut0]
    refine use_meeting ok ?_
    refine ro_neD (okr.ok (by decide)) (okr.ok (by decide)) ?_
    rw [eqv_self okr]
    walk_at "go"
    refine use_meeting (ls := []) ok0 ?_
    walk_at "go"
    refine s_next ?_
    exact ⟨_, _, _, rfl⟩
  · rintro τ' μ' ⟨o2, o3, o4, rfl⟩
    dsimp only [id]
    walk_at "go"
    exact q _
end
theorem all_mk {l : PySem.W.OpenLaw} {w : World} {K : PySem.W.Frag} {h : Heap} {mg : Str → Option Value} {fa : Addr} (X : K.In h) (G : h.Ns mainGlobals mg) (hfa : mg "law" = some (.ref fa))
    {f1 f2 f3 f4 f5 f6 f7 f8 f9 f10 f11 f12 f13 f14 f15 f16 f17 f18 f19 f20 f21 : Addr}
    {od1 an1 od2 an2 od3 an3 od4 an4 od5 an5 od6 an6 od7 an7 od8 an8 od9 an9 od10 an10 od11 an11 od12 an12 od13 an13 od14 an14 od15 an15 od16 an16 od17 an17 od18 an18 od19 an19 od20 an20 od21 an21 : Option Addr}
    {sl1 sl2 sl3 sl4 sl5 sl6 sl7 sl8 sl9 sl10 sl11 sl12 sl13 sl14 sl15 sl16 sl17 sl18 sl19 sl20 sl21 : Array (Option Value)}
    {oc1 kV1 dc1 pm1 cd1 ct1 oc2 kV2 dc2 pm2 cd2 ct2 oc3 kV3 dc3 pm3 cd3 ct3 oc4 kV4 dc4 pm4 cd4 ct4 oc5 kV5 dc5 pm5 cd5 ct5 oc6 kV6 dc6 pm6 cd6 ct6 oc7 kV7 dc7 pm7 cd7 ct7 oc8 kV8 dc8 pm8 cd8 ct8 oc9 kV9 dc9 pm9 cd9 ct9 oc10 kV10 dc10 pm10 cd10 ct10 oc11 kV11 dc11 pm11 cd11 ct11 oc12 kV12 dc12 pm12 cd12 ct12 oc13 kV13 dc13 pm13 cd13 ct13 oc14 kV14 dc14 pm14 cd14 ct14 oc15 kV15 dc15 pm15 cd15 ct15 oc16 kV16 dc16 pm16 cd16 ct16 oc17 kV17 dc17 pm17 cd17 ct17 oc18 kV18 dc18 pm18 cd18 ct18 oc19 kV19 dc19 pm19 cd19 ct19 oc20 kV20 dc20 pm20 cd20 ct20 oc21 kV21 dc21 pm21 cd21 ct21 : Value}
    (a1 : PySem.W.nsIn K mainGlobals "sign_of" = some (some (.ref f1)))
    (l1 : K.lookup f1 = some ⟨oc1, od1, .func (PySem.W.fnOf "sign_of" "sign_of" (defArgs s_sign_of) (defBody s_sign_of) (defScope s_sign_of) .none kV1 dc1 pm1 an1 cd1 ct1), sl1⟩)
    (c1 : PySem.W.codeIn K cd1 "sign_of" = true)
    (k1 : PySem.W.keepIn K (.ref f1) = true)
    (a2 : PySem.W.nsIn K mainGlobals "less" = some (some (.ref f2)))
    (l2 : K.lookup f2 = some ⟨oc2, od2, .func (PySem.W.fnOf "less" "less" (defArgs s_less) (defBody s_less) (defScope s_less) .none kV2 dc2 pm2 an2 cd2 ct2), sl2⟩)
    (c2 : PySem.W.codeIn K cd2 "less" = true)
    (k2 : PySem.W.keepIn K (.ref f2) = true)
    (a3 : PySem.W.nsIn K mainGlobals "place_side" = some (some (.ref f3)))
    (l3 : K.lookup f3 = some ⟨oc3, od3, .func (PySem.W.fnOf "place_side" "place_side" (defArgs s_place_side) (defBody s_place_side) (defScope s_place_side) .none kV3 dc3 pm3 an3 cd3 ct3), sl3⟩)
    (c3 : PySem.W.codeIn K cd3 "place_side" = true)
    (k3 : PySem.W.keepIn K (.ref f3) = true)
    (a4 : PySem.W.nsIn K mainGlobals "is_least" = some (some (.ref f4)))
    (l4 : K.lookup f4 = some ⟨oc4, od4, .func (PySem.W.fnOf "is_least" "is_least" (defArgs s_is_least) (defBody s_is_least) (defScope s_is_least) .none kV4 dc4 pm4 an4 cd4 ct4), sl4⟩)
    (c4 : PySem.W.codeIn K cd4 "is_least" = true)
    (k4 : PySem.W.keepIn K (.ref f4) = true)
    (a5 : PySem.W.nsIn K mainGlobals "overlap" = some (some (.ref f5)))
    (l5 : K.lookup f5 = some ⟨oc5, od5, .func (PySem.W.fnOf "overlap" "overlap" (defArgs s_overlap) (defBody s_overlap) (defScope s_overlap) .none kV5 dc5 pm5 an5 cd5 ct5), sl5⟩)
    (c5 : PySem.W.codeIn K cd5 "overlap" = true)
    (k5 : PySem.W.keepIn K (.ref f5) = true)
    (a6 : PySem.W.nsIn K mainGlobals "touch" = some (some (.ref f6)))
    (l6 : K.lookup f6 = some ⟨oc6, od6, .func (PySem.W.fnOf "touch" "touch" (defArgs s_touch) (defBody s_touch) (defScope s_touch) .none kV6 dc6 pm6 an6 cd6 ct6), sl6⟩)
    (c6 : PySem.W.codeIn K cd6 "touch" = true)
    (k6 : PySem.W.keepIn K (.ref f6) = true)
    (a7 : PySem.W.nsIn K mainGlobals "_law_low" = some (some (.ref f7)))
    (l7 : K.lookup f7 = some ⟨oc7, od7, .func (PySem.W.fnOf "_law_low" "_law_low" (defArgs s_l_low) (defBody s_l_low) (defScope s_l_low) .none kV7 dc7 pm7 an7 cd7 ct7), sl7⟩)
    (c7 : PySem.W.codeIn K cd7 "_law_low" = true)
    (k7 : PySem.W.keepIn K (.ref f7) = true)
    (a8 : PySem.W.nsIn K mainGlobals "pieces_of" = some (some (.ref f8)))
    (l8 : K.lookup f8 = some ⟨oc8, od8, .func (PySem.W.fnOf "pieces_of" "pieces_of" (defArgs s_pieces_of) (defBody s_pieces_of) (defScope s_pieces_of) .none kV8 dc8 pm8 an8 cd8 ct8), sl8⟩)
    (c8 : PySem.W.codeIn K cd8 "pieces_of" = true)
    (k8 : PySem.W.keepIn K (.ref f8) = true)
    (a9 : PySem.W.nsIn K mainGlobals "lines_meet" = some (some (.ref f9)))
    (l9 : K.lookup f9 = some ⟨oc9, od9, .func (PySem.W.fnOf "lines_meet" "lines_meet" (defArgs s_lines_meet) (defBody s_lines_meet) (defScope s_lines_meet) .none kV9 dc9 pm9 an9 cd9 ct9), sl9⟩)
    (c9 : PySem.W.codeIn K cd9 "lines_meet" = true)
    (k9 : PySem.W.keepIn K (.ref f9) = true)
    (a10 : PySem.W.nsIn K mainGlobals "meeting" = some (some (.ref f10)))
    (l10 : K.lookup f10 = some ⟨oc10, od10, .func (PySem.W.fnOf "meeting" "meeting" (defArgs s_meeting) (defBody s_meeting) (defScope s_meeting) .none kV10 dc10 pm10 an10 cd10 ct10), sl10⟩)
    (c10 : PySem.W.codeIn K cd10 "meeting" = true)
    (k10 : PySem.W.keepIn K (.ref f10) = true)
    (a11 : PySem.W.nsIn K mainGlobals "_law_bag" = some (some (.ref f11)))
    (l11 : K.lookup f11 = some ⟨oc11, od11, .func (PySem.W.fnOf "_law_bag" "_law_bag" (defArgs s_l_bag) (defBody s_l_bag) (defScope s_l_bag) .none kV11 dc11 pm11 an11 cd11 ct11), sl11⟩)
    (c11 : PySem.W.codeIn K cd11 "_law_bag" = true)
    (k11 : PySem.W.keepIn K (.ref f11) = true)
    (a12 : PySem.W.nsIn K mainGlobals "_law_take" = some (some (.ref f12)))
    (l12 : K.lookup f12 = some ⟨oc12, od12, .func (PySem.W.fnOf "_law_take" "_law_take" (defArgs s_l_take) (defBody s_l_take) (defScope s_l_take) .none kV12 dc12 pm12 an12 cd12 ct12), sl12⟩)
    (c12 : PySem.W.codeIn K cd12 "_law_take" = true)
    (k12 : PySem.W.keepIn K (.ref f12) = true)
    (a13 : PySem.W.nsIn K mainGlobals "_law_homogen" = some (some (.ref f13)))
    (l13 : K.lookup f13 = some ⟨oc13, od13, .func (PySem.W.fnOf "_law_homogen" "_law_homogen" (defArgs s_l_homogen) (defBody s_l_homogen) (defScope s_l_homogen) .none kV13 dc13 pm13 an13 cd13 ct13), sl13⟩)
    (c13 : PySem.W.codeIn K cd13 "_law_homogen" = true)
    (k13 : PySem.W.keepIn K (.ref f13) = true)
    (a14 : PySem.W.nsIn K mainGlobals "_law_spin" = some (some (.ref f14)))
    (l14 : K.lookup f14 = some ⟨oc14, od14, .func (PySem.W.fnOf "_law_spin" "_law_spin" (defArgs s_l_spin) (defBody s_l_spin) (defScope s_l_spin) .none kV14 dc14 pm14 an14 cd14 ct14), sl14⟩)
    (c14 : PySem.W.codeIn K cd14 "_law_spin" = true)
    (k14 : PySem.W.keepIn K (.ref f14) = true)
    (a15 : PySem.W.nsIn K mainGlobals "_law_within" = some (some (.ref f15)))
    (l15 : K.lookup f15 = some ⟨oc15, od15, .func (PySem.W.fnOf "_law_within" "_law_within" (defArgs s_l_within) (defBody s_l_within) (defScope s_l_within) .none kV15 dc15 pm15 an15 cd15 ct15), sl15⟩)
    (c15 : PySem.W.codeIn K cd15 "_law_within" = true)
    (k15 : PySem.W.keepIn K (.ref f15) = true)
    (a16 : PySem.W.nsIn K mainGlobals "_law_touch" = some (some (.ref f16)))
    (l16 : K.lookup f16 = some ⟨oc16, od16, .func (PySem.W.fnOf "_law_touch" "_law_touch" (defArgs s_l_touch) (defBody s_l_touch) (defScope s_l_touch) .none kV16 dc16 pm16 an16 cd16 ct16), sl16⟩)
    (c16 : PySem.W.codeIn K cd16 "_law_touch" = true)
    (k16 : PySem.W.keepIn K (.ref f16) = true)
    (a17 : PySem.W.nsIn K mainGlobals "_law_place" = some (some (.ref f17)))
    (l17 : K.lookup f17 = some ⟨oc17, od17, .func (PySem.W.fnOf "_law_place" "_law_place" (defArgs s_l_place) (defBody s_l_place) (defScope s_l_place) .none kV17 dc17 pm17 an17 cd17 ct17), sl17⟩)
    (c17 : PySem.W.codeIn K cd17 "_law_place" = true)
    (k17 : PySem.W.keepIn K (.ref f17) = true)
    (a18 : PySem.W.nsIn K mainGlobals "_law_lines" = some (some (.ref f18)))
    (l18 : K.lookup f18 = some ⟨oc18, od18, .func (PySem.W.fnOf "_law_lines" "_law_lines" (defArgs s_l_lines) (defBody s_l_lines) (defScope s_l_lines) .none kV18 dc18 pm18 an18 cd18 ct18), sl18⟩)
    (c18 : PySem.W.codeIn K cd18 "_law_lines" = true)
    (k18 : PySem.W.keepIn K (.ref f18) = true)
    (a19 : PySem.W.nsIn K mainGlobals "_law_meet" = some (some (.ref f19)))
    (l19 : K.lookup f19 = some ⟨oc19, od19, .func (PySem.W.fnOf "_law_meet" "_law_meet" (defArgs s_l_meet) (defBody s_l_meet) (defScope s_l_meet) .none kV19 dc19 pm19 an19 cd19 ct19), sl19⟩)
    (c19 : PySem.W.codeIn K cd19 "_law_meet" = true)
    (k19 : PySem.W.keepIn K (.ref f19) = true)
    (a20 : PySem.W.nsIn K mainGlobals "_law_pairs" = some (some (.ref f20)))
    (l20 : K.lookup f20 = some ⟨oc20, od20, .func (PySem.W.fnOf "_law_pairs" "_law_pairs" (defArgs s_l_pairs) (defBody s_l_pairs) (defScope s_l_pairs) .none kV20 dc20 pm20 an20 cd20 ct20), sl20⟩)
    (c20 : PySem.W.codeIn K cd20 "_law_pairs" = true)
    (k20 : PySem.W.keepIn K (.ref f20) = true)
    (a21 : PySem.W.nsIn K mainGlobals "law" = some (some (.ref f21)))
    (l21 : K.lookup f21 = some ⟨oc21, od21, .func (PySem.W.fnOf "law" "law" (defArgs s_law) (defBody s_law) (defScope s_law) .none kV21 dc21 pm21 an21 cd21 ct21), sl21⟩)
    (c21 : PySem.W.codeIn K cd21 "law" = true)
    (k21 : PySem.W.keepIn K (.ref f21) = true)
    (z_abs : PySem.W.nsIn K mainGlobals "abs" = some none)
    (z_any : PySem.W.nsIn K mainGlobals "any" = some none)
    (z_int : PySem.W.nsIn K mainGlobals "int" = some none)
    (z_len : PySem.W.nsIn K mainGlobals "len" = some none)
    (z_list : PySem.W.nsIn K mainGlobals "list" = some none)
    (z_max : PySem.W.nsIn K mainGlobals "max" = some none)
    (z_min : PySem.W.nsIn K mainGlobals "min" = some none)
    (z_range : PySem.W.nsIn K mainGlobals "range" = some none)
    (z_tuple : PySem.W.nsIn K mainGlobals "tuple" = some none)
    (z_zip : PySem.W.nsIn K mainGlobals "zip" = some none) :
    ∃ fd : FuncData, (∀ (s : Shared) (v : Value), BindsTo s fd ⟨[v], []⟩ [("_law_script", v)]) ∧ ∀ base : Heap, K.In base → base.Ns mainGlobals mg → FnOk l.prog w K mg base CX0 6 fa fd ["_law_script"] (spI K P_law) := by
  have e := hfa.symm.trans (PySem.W.mg_of X G a21)
  cases e
  have B : Bs mg := ⟨PySem.W.mg_none_of X G z_abs, PySem.W.mg_none_of X G z_any, PySem.W.mg_none_of X G z_int, PySem.W.mg_none_of X G z_len, PySem.W.mg_none_of X G z_list, PySem.W.mg_none_of X G z_max, PySem.W.mg_none_of X G z_min, PySem.W.mg_none_of X G z_range, PySem.W.mg_none_of X G z_tuple, PySem.W.mg_none_of X G z_zip⟩
  have F1 := fun_mk (st := s_sign_of) l1 c1 k1
  have F2 := fun_mk (st := s_less) l2 c2 k2
  have F3 := fun_mk (st := s_place_side) l3 c3 k3
  have F4 := fun_mk (st := s_is_least) l4 c4 k4
  have F5 := fun_mk (st := s_overlap) l5 c5 k5
  have F6 := fun_mk (st := s_touch) l6 c6 k6
  have F7 := fun_mk (st := s_l_low) l7 c7 k7
  have F8 := fun_mk (st := s_pieces_of) l8 c8 k8
  have F9 := fun_mk (st := s_lines_meet) l9 c9 k9
  have F10 := fun_mk (st := s_meeting) l10 c10 k10
  have F11 := fun_mk (st := s_l_bag) l11 c11 k11
  have F12 := fun_mk (st := s_l_take) l12 c12 k12
  have F13 := fun_mk (st := s_l_homogen) l13 c13 k13
  have F14 := fun_mk (st := s_l_spin) l14 c14 k14
  have F15 := fun_mk (st := s_l_within) l15 c15 k15
  have F16 := fun_mk (st := s_l_touch) l16 c16 k16
  have F17 := fun_mk (st := s_l_place) l17 c17 k17
  have F18 := fun_mk (st := s_l_lines) l18 c18 k18
  have F19 := fun_mk (st := s_l_meet) l19 c19 k19
  have F20 := fun_mk (st := s_l_pairs) l20 c20 k20
  have F21 := fun_mk (st := s_law) l21 c21 k21
  refine ⟨PySem.W.fnOf "law" "law" (defArgs s_law) (defBody s_law) (defScope s_law) .none kV21 dc21 pm21 an21 cd21 ct21, fun s v => .of_eq rfl, fun base _ _ => ?_⟩
  have b1 := F1.binds (ps := ["number"]) fun _ _ _ _ _ _ us hl => match us, hl with | [_], _ => rfl
  have G1 : Def l.prog w K mg base "sign_of" ["number"] 1 (spI K P_sign_of) := ⟨f1, _, ok_sign_of F1 B, PySem.W.mg_of X G a1, k1, b1⟩
  have b2 := F2.binds (ps := ["one", "other"]) fun _ _ _ _ _ _ us hl => match us, hl with | [_, _], _ => rfl
  have G2 : Def l.prog w K mg base "less" ["one", "other"] 1 (spI K P_less) := ⟨f2, _, ok_less F2 B, PySem.W.mg_of X G a2, k2, b2⟩
  have b3 := F3.binds (ps := ["a", "b", "c"]) fun _ _ _ _ _ _ us hl => match us, hl with | [_, _, _], _ => rfl
  have G3 : Def l.prog w K mg base "place_side" ["a", "b", "c"] 2 (spI K P_place_side) := ⟨f3, _, ok_place_side F3 B G2 G1, PySem.W.mg_of X G a3, k3, b3⟩
  have b4 := F4.binds (ps := ["one", "other"]) fun _ _ _ _ _ _ us hl => match us, hl with | [_, _], _ => rfl
  have G4 : Def l.prog w K mg base "is_least" ["one", "other"] 1 (spI K P_is_least) := ⟨f4, _, ok_is_least F4 B, PySem.W.mg_of X G a4, k4, b4⟩
  have b5 := F5.binds (ps := ["a", "b", "c", "d"]) fun _ _ _ _ _ _ us hl => match us, hl with | [_, _, _, _], _ => rfl
  have G5 : Def l.prog w K mg base "overlap" ["a", "b", "c", "d"] 2 (spI K P_overlap) := ⟨f5, _, ok_overlap F5 B G4, PySem.W.mg_of X G a5, k5, b5⟩
  have b6 := F6.binds (ps := ["a", "b", "c", "d"]) fun _ _ _ _ _ _ us hl => match us, hl with | [_, _, _, _], _ => rfl
  have G6 : Def l.prog w K mg base "touch" ["a", "b", "c", "d"] 3 (spI K P_touch) := ⟨f6, _, ok_touch F6 B G5 G3, PySem.W.mg_of X G a6, k6, b6⟩
  have b7 := F7.binds (ps := ["_law_over", "_law_under"]) fun _ _ _ _ _ _ us hl => match us, hl with | [_, _], _ => rfl
  have G7 : Def l.prog w K mg base "_law_low" ["_law_over", "_law_under"] 1 (spI K P_l_low) := ⟨f7, _, ok_l_low F7 B, PySem.W.mg_of X G a7, k7, b7⟩
  have b8 := F8.binds (ps := ["line"]) fun _ _ _ _ _ _ us hl => match us, hl with | [_], _ => rfl
  have G8 : Def l.prog w K mg base "pieces_of" ["line"] 1 (spI K P_pieces_of) := ⟨f8, _, ok_pieces_of F8 B, PySem.W.mg_of X G a8, k8, b8⟩
  have b9 := F9.binds (ps := ["one", "other"]) fun _ _ _ _ _ _ us hl => match us, hl with | [_, _], _ => rfl
  have G9 : Def l.prog w K mg base "lines_meet" ["one", "other"] 4 (spI K P_lines_meet) := ⟨f9, _, ok_lines_meet F9 B G8 G6, PySem.W.mg_of X G a9, k9, b9⟩
  have b10 := F10.binds (ps := ["lines"]) fun _ _ _ _ _ _ us hl => match us, hl with | [_], _ => rfl
  have G10 : Def l.prog w K mg base "meeting" ["lines"] 5 (spI K P_meeting) := ⟨f10, _, ok_meeting F10 B G9, PySem.W.mg_of X G a10, k10, b10⟩
  have b11 := F11.binds (ps := ["_law_script", "_law_at"]) fun _ _ _ _ _ _ us hl => match us, hl with | [_, _], _ => rfl
  have G11 : Def l.prog w K mg base "_law_bag" ["_law_script", "_law_at"] 2 (spI K P_l_bag) := ⟨f11, _, ok_l_bag F11 B, PySem.W.mg_of X G a11, k11, b11⟩
  have b12 := F12.binds (ps := ["_law_bag_here", "_law_many"]) fun _ _ _ _ _ _ us hl => match us, hl with | [_, _], _ => rfl
  have G12 : Def l.prog w K mg base "_law_take" ["_law_bag_here", "_law_many"] 1 (spI K P_l_take) := ⟨f12, _, ok_l_take F12 B, PySem.W.mg_of X G a12, k12, b12⟩
  have b13 := F13.binds (ps := ["_law_place_here"]) fun _ _ _ _ _ _ us hl => match us, hl with | [_], _ => rfl
  have G13 : Def l.prog w K mg base "_law_homogen" ["_law_place_here"] 1 (spI K P_l_homogen) := ⟨f13, _, ok_l_homogen F13 B, PySem.W.mg_of X G a13, k13, b13⟩
  have b14 := F14.binds (ps := ["_law_a", "_law_b", "_law_c"]) fun _ _ _ _ _ _ us hl => match us, hl with | [_, _, _], _ => rfl
  have G14 : Def l.prog w K mg base "_law_spin" ["_law_a", "_law_b", "_law_c"] 1 (spI K P_l_spin) := ⟨f14, _, ok_l_spin F14 B, PySem.W.mg_of X G a14, k14, b14⟩
  have b15 := F15.binds (ps := ["_law_a", "_law_b", "_law_c"]) fun _ _ _ _ _ _ us hl => match us, hl with | [_, _, _], _ => rfl
  have G15 : Def l.prog w K mg base "_law_within" ["_law_a", "_law_b", "_law_c"] 1 (spI K P_l_within) := ⟨f15, _, ok_l_within F15 B, PySem.W.mg_of X G a15, k15, b15⟩
  have b16 := F16.binds (ps := ["_law_a", "_law_b", "_law_c", "_law_d"]) fun _ _ _ _ _ _ us hl => match us, hl with | [_, _, _, _], _ => rfl
  have G16 : Def l.prog w K mg base "_law_touch" ["_law_a", "_law_b", "_law_c", "_law_d"] 2 (spI K P_l_touch) := ⟨f16, _, ok_l_touch F16 B G14 G15, PySem.W.mg_of X G a16, k16, b16⟩
  have b17 := F17.binds (ps := ["_law_bag_here", "_law_under", "_law_far"]) fun _ _ _ _ _ _ us hl => match us, hl with | [_, _, _], _ => rfl
  have G17 : Def l.prog w K mg base "_law_place" ["_law_bag_here", "_law_under", "_law_far"] 2 (spI K P_l_place) := ⟨f17, _, ok_l_place F17 B G7 G12, PySem.W.mg_of X G a17, k17, b17⟩
  have b18 := F18.binds (ps := ["_law_bag_here", "_law_most"]) fun _ _ _ _ _ _ us hl => match us, hl with | [_, _], _ => rfl
  have G18 : Def l.prog w K mg base "_law_lines" ["_law_bag_here", "_law_most"] 3 (spI K P_l_lines) := ⟨f18, _, ok_l_lines F18 B G17 G12, PySem.W.mg_of X G a18, k18, b18⟩
  have b19 := F19.binds (ps := ["_law_one", "_law_other"]) fun _ _ _ _ _ _ us hl => match us, hl with | [_, _], _ => rfl
  have G19 : Def l.prog w K mg base "_law_meet" ["_law_one", "_law_other"] 4 (spI K P_l_meet) := ⟨f19, _, ok_l_meet F19 B G13 G16, PySem.W.mg_of X G a19, k19, b19⟩
  have b20 := F20.binds (ps := ["_law_lines_here"]) fun _ _ _ _ _ _ us hl => match us, hl with | [_], _ => rfl
  have G20 : Def l.prog w K mg base "_law_pairs" ["_law_lines_here"] 5 (spI K P_l_pairs) := ⟨f20, _, ok_l_pairs F20 B G19, PySem.W.mg_of X G a20, k20, b20⟩
  exact ok_law F21 B G11 G18 G20 G10
theorem walk {l : PySem.W.OpenLaw} {q : Program} {loose : List Str} {XP : (Str → Option Value) → Heap → Prop} {YP : World → Heap → Prop} {d : DefRec} {K : Params → PySem.W.Frag} (hn : l.most = some 63) (hdf : d.params.defaults = [])
    (hY : ∀ (w : World) (h : Heap), YP w h → (K w.params).In h)
    (F : ∀ (w : World) (mg : Str → Option Value) (fa : Addr) (h : Heap), (K w.params).In h → h.Ns mainGlobals mg → mg d.name = some (.ref fa) →
      ∃ fd : FuncData, (∀ (s : Shared) (u : Value), BindsTo s fd ⟨[u], []⟩ [("_law_script", u)]) ∧ ∀ base : Heap, (K w.params).In base → base.Ns mainGlobals mg → FnOk l.prog w (K w.params) mg base CX0 6 fa fd ["_law_script"] (spI (K w.params) P_law)) :
    PySem.W.WalkO q loose XP YP l.row.toRowW d [] (fun f vs => PySem.call f vs) :=
  L2.walk_of (n := 63) (k := 6) (x := "_law_script") (CX := fun _ => CX0) (sp := fun w => spI (K w.params) P_law) hn (by decide) hdf ⟨rfl, by decide, by decide⟩ hY F (fun _ _ a ns hl hO hS => law_start hl hO hS) fun _ _ _ _ _ z => z
end W
open PySem PySem.W PyProof.Rows in
set_option maxRecDepth 100000 in
set_option maxHeartbeats 0 in
theorem PySem.Challenge.cw_rubberroutes_k42_lines_that_meet_holds : PySem.Challenge.rw_rubberroutes_k42_lines_that_meet.Holds := by
  w_on; o_law; k_head; (case hw => w_witness2)
  k_fill
  refine W.walk (l := PySem.Challenge.rw_rubberroutes_k42_lines_that_meet) rfl rfl (fun w h Y => by first | exact PySem.W.kIn_of Y | exact PySem.W.km_in_of Y) ?F
  case F =>
    intro w mg fa h KX G hmg
    refine' W.all_mk KX G hmg ?a1 ?l1 ?c1 ?k1 ?a2 ?l2 ?c2 ?k2 ?a3 ?l3 ?c3 ?k3 ?a4 ?l4 ?c4 ?k4 ?a5 ?l5 ?c5 ?k5 ?a6 ?l6 ?c6 ?k6 ?a7 ?l7 ?c7 ?k7 ?a8 ?l8 ?c8 ?k8 ?a9 ?l9 ?c9 ?k9 ?a10 ?l10 ?c10 ?k10 ?a11 ?l11 ?c11 ?k11 ?a12 ?l12 ?c12 ?k12 ?a13 ?l13 ?c13 ?k13 ?a14 ?l14 ?c14 ?k14 ?a15 ?l15 ?c15 ?k15 ?a16 ?l16 ?c16 ?k16 ?a17 ?l17 ?c17 ?k17 ?a18 ?l18 ?c18 ?k18 ?a19 ?l19 ?c19 ?k19 ?a20 ?l20 ?c20 ?k20 ?a21 ?l21 ?c21 ?k21 ?z_abs ?z_any ?z_int ?z_len ?z_list ?z_max ?z_min ?z_range ?z_tuple ?z_zip
    (case a1 => k_is)
    (case l1 => k_is)
    (case c1 => k_is)
    (case k1 => k_is)
    (case a2 => k_is)
    (case l2 => k_is)
    (case c2 => k_is)
    (case k2 => k_is)
    (case a3 => k_is)
    (case l3 => k_is)
    (case c3 => k_is)
    (case k3 => k_is)
    (case a4 => k_is)
    (case l4 => k_is)
    (case c4 => k_is)
    (case k4 => k_is)
    (case a5 => k_is)
    (case l5 => k_is)
    (case c5 => k_is)
    (case k5 => k_is)
    (case a6 => k_is)
    (case l6 => k_is)
    (case c6 => k_is)
    (case k6 => k_is)
    (case a7 => k_is)
    (case l7 => k_is)
    (case c7 => k_is)
    (case k7 => k_is)
    (case a8 => k_is)
    (case l8 => k_is)
    (case c8 => k_is)
    (case k8 => k_is)
    (case a9 => k_is)
    (case l9 => k_is)
    (case c9 => k_is)
    (case k9 => k_is)
    (case a10 => k_is)
    (case l10 => k_is)
    (case c10 => k_is)
    (case k10 => k_is)
    (case a11 => k_is)
    (case l11 => k_is)
    (case c11 => k_is)
    (case k11 => k_is)
    (case a12 => k_is)
    (case l12 => k_is)
    (case c12 => k_is)
    (case k12 => k_is)
    (case a13 => k_is)
    (case l13 => k_is)
    (case c13 => k_is)
    (case k13 => k_is)
    (case a14 => k_is)
    (case l14 => k_is)
    (case c14 => k_is)
    (case k14 => k_is)
    (case a15 => k_is)
    (case l15 => k_is)
    (case c15 => k_is)
    (case k15 => k_is)
    (case a16 => k_is)
    (case l16 => k_is)
    (case c16 => k_is)
    (case k16 => k_is)
    (case a17 => k_is)
    (case l17 => k_is)
    (case c17 => k_is)
    (case k17 => k_is)
    (case a18 => k_is)
    (case l18 => k_is)
    (case c18 => k_is)
    (case k18 => k_is)
    (case a19 => k_is)
    (case l19 => k_is)
    (case c19 => k_is)
    (case k19 => k_is)
    (case a20 => k_is)
    (case l20 => k_is)
    (case c20 => k_is)
    (case k20 => k_is)
    (case a21 => k_is)
    (case l21 => k_is)
    (case c21 => k_is)
    (case k21 => k_is)
    (case z_abs => k_is)
    (case z_any => k_is)
    (case z_int => k_is)
    (case z_len => k_is)
    (case z_list => k_is)
    (case z_max => k_is)
    (case z_min => k_is)
    (case z_range => k_is)
    (case z_tuple => k_is)
    (case z_zip => k_is)
