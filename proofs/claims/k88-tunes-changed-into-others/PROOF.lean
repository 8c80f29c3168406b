import PyProof.Rows.All
import HandS.ForMost
import HandS.ForExc
import HandS.CallSlots
import HandS.TryMany
import HandS.Lambda
import HandS.Wide
import HandS.TupAny
import HandS.TupMul
import HandS.TupLe
import HandS.Flow
import HandS.IsInst
import HandS.ExcOwn
import HandS.WordsExc
import HandS.HeadHook1
import HandS.Zip
import HandS.Iter
import KE.GoesNew
import KE.GoesMore
import HandS.Comp
import HandS.Style
import KE.DataCmp
import KE.DataEq
import HandS.RaiseMore
import KE.DataAny
import KE.DataMinMax
import PyProof.SumAny
import PyProof.ReprRoads
import KE.KRevSl
import HandS.Rev
import HandS.More
import HandS.HeadWalk
import HandS.HeadHook4
import HandS.HeadNt
import HandS.Head0
import HandS.Head1
import HandS.Head2
import HandS.HeadEnd
import KE.SortData
import HandS.FStrTup
import PySem.Challenge.RW_tunehouse_k88_tunes_changed_into_others
set_option Elab.async false
set_option linter.all false
set_option maxRecDepth 100000
set_option maxHeartbeats 40000000
set_option autoImplicit false
/-! Fl1: values as data (PyData; a changeable list or dict is a place in a store), what a heap bears of them, readings that are plain functions. -/
namespace Fl
open PySem PySem.Spec PyProof.Rows L2

/-! ### data, stores, results -/
abbrev D := PyData
/-- the n-th changeable object -/
abbrev D.loc (n : Nat) : D := .dict [(.int n, .none)]
inductive Ob where
  | lst (xs : List D)
  | dct (kvs : List (D × D))
abbrev Sto := List Ob
abbrev Env := List (Option D)
inductive R (α : Type) where
  | ok (a : α) (s : Sto)
  | exc (c : Nat) (s : Sto)
  | bad
@[simp] def R.bind {α β : Type} (r : R α) (f : α → Sto → R β) : R β := match r with
  | .ok a s => f a s
  | .exc c s => .exc c s
  | .bad => .bad

/-! ### what a heap bears -/
variable (K : PySem.W.Frag) (T : List (Addr × Str))
/-- away from what may change -/
def Av (L M : List Addr) (a : Addr) : Prop := a ∉ L ∧ a ∉ M
def TupA (L M : List Addr) (H : Hp) (a : Addr) (xs : List V) : Prop :=
  (Rd H a (.tup xs) ∧ Av L M a) ∨ ∃ (o : Obj) (its : Array Value) (n : Nat), K.lookup a = some o ∧ o.cls = .type "tuple" ∧ o.data = .seq its n ∧ its.size ≤ sizeLine ∧ Vals xs its.toList
/-- a list as an object of its own -/
abbrev lsO (its : Array Value) (n : Nat) : Obj := { cls := .type "list", data := .seq its n }
def LKc (a : Addr) (xs : List V) : Prop := ∃ (its : Array Value) (n : Nat), K.lookup a = some (lsO its n) ∧ its.size ≤ sizeLine ∧ Vals xs its.toList
def LstA (L M : List Addr) (H : Hp) (a : Addr) (xs : List V) : Prop := (Rd H a (.lst xs) ∧ Av L M a) ∨ LKc K a xs
theorem LKc.sq {K : PySem.W.Frag} {H : Hp} {a : Addr} {xs : List V} (h : LKc K a xs) : SqL K H a xs := .inr <| let ⟨its, n, k, z, r⟩ := h; ⟨_, its, n, k, rfl, rfl, rfl, z, r⟩
mutual
/-- the value v is the datum d -/
def Rep (L M : List Addr) (H : Hp) : D → V → Prop
  | .none, v => v = .non
  | .bool b, v => v = .bl b
  | .int i, v => v = .int i
  | .str x, v => v = .str x
  | .list ds, v => ∃ a xs, v = .ref a ∧ LstA K L M H a xs ∧ RepL L M H ds xs
  | .tuple ds, v => ∃ a xs, v = .ref a ∧ TupA K L M H a xs ∧ RepL L M H ds xs
  | .dict kvs, v => ∃ n a, kvs = [(.int (n : Nat), .none)] ∧ v = .ref a ∧ L[n]? = some a
def RepL (L M : List Addr) (H : Hp) : List D → List V → Prop
  | [], xs => xs = []
  | d :: ds, xs => ∃ x r, xs = x :: r ∧ Rep L M H d x ∧ RepL L M H ds r
end
/-- a flat key -/
def flatK : D → Option Key
  | .int i => some (.inl i)
  | .str x => some (.inr x)
  | _ => none
def KeyD (d : D) (k : Key) : Prop := flatK d = some k
def KeyT (d : D) (ks : List Key) : Prop := ∃ ds, d = .tuple ds ∧ Paired KeyD ds ks
def DctRep (L M : List Addr) (H : Hp) (kvs : List (D × D)) (u : HO) : Prop :=
  (∃ ps : List (Key × V), u = .dK ps ∧ Paired (fun (p : D × D) (q : Key × V) => KeyD p.1 q.1 ∧ Rep K L M H p.2 q.2) kvs ps) ∨
  (∃ ps : List (List Key × V), u = .dT ps ∧ Paired (fun (p : D × D) (q : List Key × V) => KeyT p.1 q.1 ∧ Rep K L M H p.2 q.2) kvs ps)
def ObRep (L M : List Addr) (H : Hp) (a : Addr) : Ob → Prop
  | .lst ds => ∃ xs, H a = some (.lst xs) ∧ RepL K L M H ds xs
  | .dct kvs => ∃ u, H a = some u ∧ DctRep K L M H kvs u
def notTbl : HO → Prop
  | .tbl _ => False
  | _ => True
/-- what is guarded stands, and stays: it is no table of code, or one that we know -/
def MOk (H : Hp) (a : Addr) : Prop := (∃ u, H a = some u ∧ notTbl u) ∨ ∃ q ∈ T, q.1 = a
/-- the store stands -/
structure SRel (L M : List Addr) (H : Hp) (st : Sto) : Prop where
  nd : L.Nodup
  dj : ∀ a ∈ L, a ∉ M
  len : L.length = st.length
  obs : ∀ (n : Nat) o a, st[n]? = some o → L[n]? = some a → ObRep K L M H a o
  tabs : LamX.Tabs T H
  tM : ∀ p ∈ T, p.1 ∈ M
  mM : ∀ a ∈ M, MOk T H a
/-- the names stand -/
structure ERel (L M : List Addr) (H : Hp) (σ : L2.St) (ρ : Env) : Prop where
  len : σ.length = ρ.length
  at_ : ∀ (i : Nat) d, ρ[i]? = some (some d) → ∃ v, σ[i]? = some (some v) ∧ Rep K L M H d v
/-- what a step leaves: new places behind the elder ones, all else stands -/
structure Ext (L M : List Addr) (H : Hp) (L' : List Addr) (H' : Hp) : Prop where
  pre : L <+: L'
  keep : ∀ a o, H a = some o → notTbl o → a ∉ L → H' a = some o ∧ a ∉ L'
variable {K T}
theorem Ext.refl {L M : List Addr} {H : Hp} : Ext L M H L H := ⟨List.prefix_refl _, fun _ _ h _ n => ⟨h, n⟩⟩
theorem Ext.trans {L M L1 L2 : List Addr} {H H1 H2 : Hp} (a : Ext L M H L1 H1) (b : Ext L1 M H1 L2 H2) : Ext L M H L2 H2 :=
  ⟨a.pre.trans b.pre, fun x o h t n => let ⟨h1, n1⟩ := a.keep x o h t n; b.keep x o h1 t n1⟩
theorem pre_get {α : Type} {L L' : List α} (p : L <+: L') {n : Nat} {a : α} (h : L[n]? = some a) : L'[n]? = some a := by
  obtain ⟨r, rfl⟩ := p
  rw [List.getElem?_append_left (List.getElem?_eq_some_iff.mp h).1]
  exact h
theorem notTbl_frz {o u} : notTbl (.frz o u) := True.intro
theorem notTbl_tup {u} : notTbl (.tup u) := True.intro
theorem notTbl_lst {u} : notTbl (.lst u) := True.intro
theorem Ext.rd {L M L' : List Addr} {H H' : Hp} (e : Ext L M H L' H') {a : Addr} {u : HO} (t : notTbl u) (h : Rd H a u) (v : Av L M a) : Rd H' a u ∧ Av L' M a := by
  rcases h with h | ⟨o, h⟩
  · obtain ⟨h1, n1⟩ := e.keep a _ h t v.1
    exact ⟨.inl h1, n1, v.2⟩
  · obtain ⟨h1, n1⟩ := e.keep a _ h notTbl_frz v.1
    exact ⟨.inr ⟨o, h1⟩, n1, v.2⟩
section
variable {L M L' M' : List Addr} {H H' : Hp}
theorem TupA.ext (e : Ext L M H L' H') {a : Addr} {xs : List V} (h : TupA K L M H a xs) : TupA K L' M H' a xs := by
  rcases h with ⟨r, v⟩ | h
  · exact .inl (e.rd notTbl_tup r v)
  · exact .inr h
theorem LstA.ext (e : Ext L M H L' H') {a : Addr} {xs : List V} (h : LstA K L M H a xs) : LstA K L' M H' a xs := by
  exact h.elim (fun h => .inl (e.rd notTbl_lst h.1 h.2)) .inr
theorem TupA.sq {a : Addr} {xs : List V} (h : TupA K L M H a xs) : SqT K H a xs := h.elim (fun z => .inl z.1) .inr
theorem LstA.sq {a : Addr} {xs : List V} (h : LstA K L M H a xs) : SqL K H a xs := h.elim (fun z => .inl z.1) LKc.sq
mutual
theorem Rep.ext (e : Ext L M H L' H') : ∀ {d : D} {v : V}, Rep K L M H d v → Rep K L' M H' d v
  | .none, _, h => h
  | .bool _, _, h => h
  | .int _, _, h => h
  | .str _, _, h => h
  | .list _, _, ⟨a, xs, e1, h1, h2⟩ => ⟨a, xs, e1, h1.ext e, RepL.ext e h2⟩
  | .tuple _, _, ⟨a, xs, e1, h1, h2⟩ => ⟨a, xs, e1, h1.ext e, RepL.ext e h2⟩
  | .dict _, _, ⟨n, a, e1, e2, h⟩ => ⟨n, a, e1, e2, pre_get e.pre h⟩
theorem RepL.ext (e : Ext L M H L' H') : ∀ {ds : List D} {xs : List V}, RepL K L M H ds xs → RepL K L' M H' ds xs
  | [], _, h => h
  | _ :: _, _, ⟨x, r, e1, h1, h2⟩ => ⟨x, r, e1, Rep.ext e h1, RepL.ext e h2⟩
end
/-- another guard: each address that stands in the heap and is free of the old one is free of the new one -/
def GOk (H : Hp) (M M' : List Addr) : Prop := ∀ a o, H a = some o → notTbl o → a ∉ M → a ∉ M'
theorem GOk.new {p : Addr} (h : H p = none) : GOk H M (p :: M) := fun a o e _ n z => by
  rcases List.mem_cons.mp z with rfl | z
  · rw [h] at e; cases e
  · exact n z
theorem GOk.less (s : ∀ a, a ∈ M' → a ∈ M) : GOk H M M' := fun a _ _ _ n z => n (s a z)
theorem rd_ex {H : Hp} {a : Addr} {u : HO} (t : notTbl u) (h : Rd H a u) : ∃ o, H a = some o ∧ notTbl o := by
  rcases h with h | ⟨o, h⟩
  · exact ⟨_, h, t⟩
  · exact ⟨_, h, notTbl_frz⟩
/-- a place that was not there, or was but a table -/
theorem GOk.at_ {p : Addr} (h : ∀ o, H p = some o → ¬ notTbl o) : GOk H M (p :: M) := fun a o e t n z => by
  rcases List.mem_cons.mp z with rfl | z
  · exact h o e t
  · exact n z
theorem TupA.guard (g : GOk H M M') {a : Addr} {xs : List V} (h : TupA K L M H a xs) : TupA K L M' H a xs := by
  rcases h with ⟨r, v⟩ | h
  · obtain ⟨o, e, t⟩ := rd_ex notTbl_tup r
    exact .inl ⟨r, v.1, g a o e t v.2⟩
  · exact .inr h
theorem LstA.guard (g : GOk H M M') {a : Addr} {xs : List V} (h : LstA K L M H a xs) : LstA K L M' H a xs := by
  rcases h with ⟨r, v⟩ | h
  · obtain ⟨o, e, t⟩ := rd_ex notTbl_lst r
    exact .inl ⟨r, v.1, g a o e t v.2⟩
  · exact .inr h
mutual
theorem Rep.guard (g : GOk H M M') : ∀ {d : D} {v : V}, Rep K L M H d v → Rep K L M' H d v
  | .none, _, h => h
  | .bool _, _, h => h
  | .int _, _, h => h
  | .str _, _, h => h
  | .list _, _, ⟨a, xs, e1, h1, h2⟩ => ⟨a, xs, e1, h1.guard g, RepL.guard g h2⟩
  | .tuple _, _, ⟨a, xs, e1, h1, h2⟩ => ⟨a, xs, e1, h1.guard g, RepL.guard g h2⟩
  | .dict _, _, h => h
theorem RepL.guard (g : GOk H M M') : ∀ {ds : List D} {xs : List V}, RepL K L M H ds xs → RepL K L M' H ds xs
  | [], _, h => h
  | _ :: _, _, ⟨x, r, e1, h1, h2⟩ => ⟨x, r, e1, Rep.guard g h1, RepL.guard g h2⟩
end
theorem paired_map {α β : Type} {F G : α → β → Prop} {l : List α} {m : List β} (h : Paired F l m) (f : ∀ a b, F a b → G a b) : Paired G l m := L2.Paired.mapP h f
theorem DctRep.map {kvs u} (h : DctRep K L M H kvs u) (f : ∀ d v, Rep K L M H d v → Rep K L' M' H' d v) : DctRep K L' M' H' kvs u := by
  rcases h with ⟨ps, e, h⟩ | ⟨ps, e, h⟩
  · exact .inl ⟨ps, e, paired_map h fun _ _ z => ⟨z.1, f _ _ z.2⟩⟩
  · exact .inr ⟨ps, e, paired_map h fun _ _ z => ⟨z.1, f _ _ z.2⟩⟩
theorem ObRep.ex {a : Addr} {o : Ob} (h : ObRep K L M H a o) : ∃ u, H a = some u ∧ notTbl u := by
  cases o with
  | lst ds => obtain ⟨xs, h, _⟩ := h; exact ⟨_, h, True.intro⟩
  | dct kvs =>
    obtain ⟨u, h, z⟩ := h
    refine ⟨u, h, ?_⟩
    rcases z with ⟨ps, rfl, _⟩ | ⟨ps, rfl, _⟩ <;> exact True.intro
theorem ObRep.map {a : Addr} {o : Ob} (h : ObRep K L M H a o) (e : ∀ u, H a = some u → notTbl u → H' a = some u) (f : ∀ d v, Rep K L M H d v → Rep K L' M' H' d v) (g : ∀ d v, RepL K L M H d v → RepL K L' M' H' d v) : ObRep K L' M' H' a o := by
  cases o with
  | lst ds => obtain ⟨xs, h, z⟩ := h; exact ⟨xs, e _ h True.intro, g _ _ z⟩
  | dct kvs =>
    obtain ⟨u, h, z⟩ := h
    have t : notTbl u := by rcases z with ⟨ps, rfl, _⟩ | ⟨ps, rfl, _⟩ <;> exact True.intro
    exact ⟨u, e _ h t, z.map f⟩
theorem ERel.ext {σ : L2.St} {ρ : Env} (e : Ext L M H L' H') (h : ERel K L M H σ ρ) : ERel K L' M H' σ ρ :=
  ⟨h.len, fun i d q => let ⟨v, h1, h2⟩ := h.at_ i d q; ⟨v, h1, h2.ext e⟩⟩
theorem ERel.guard {σ : L2.St} {ρ : Env} (g : GOk H M M') (h : ERel K L M H σ ρ) : ERel K L M' H σ ρ :=
  ⟨h.len, fun i d q => let ⟨v, h1, h2⟩ := h.at_ i d q; ⟨v, h1, h2.guard g⟩⟩
theorem ERel.set {σ : L2.St} {ρ : Env} (h : ERel K L M H σ ρ) {d : D} {v : V} (r : Rep K L M H d v) (i : Nat) : ERel K L M H (σ.set i (some v)) (ρ.set i (some d)) := by
  refine ⟨by simp [h.len], fun j e q => ?_⟩
  by_cases hij : i = j
  · subst hij
    by_cases hl : i < ρ.length
    · rw [List.getElem?_set_self hl] at q
      cases q
      exact ⟨v, by rw [List.getElem?_set_self (by rw [h.len]; exact hl)], r⟩
    · rw [List.getElem?_eq_none (by simpa using hl)] at q
      cases q
  · rw [List.getElem?_set_ne hij] at q ⊢
    exact h.at_ j e q
theorem ERel.weak {σ : L2.St} {ρ ρ' : Env} (h : ERel K L M H σ ρ) (hl : ρ'.length = ρ.length) (w : ∀ (i : Nat) d, ρ'[i]? = some (some d) → ρ[i]? = some (some d)) : ERel K L M H σ ρ' :=
  ⟨h.len.trans hl.symm, fun i d q => h.at_ i d (w i d q)⟩
theorem RepL.length : ∀ {ds : List D} {xs : List V}, RepL K L M H ds xs → ds.length = xs.length
  | [], _, h => by cases (show _ = [] from h); rfl
  | _ :: _, _, ⟨_, _, e, _, h⟩ => by subst e; simp [RepL.length h]
theorem RepL.get : ∀ {ds : List D} {xs : List V} {i : Nat} {d : D}, RepL K L M H ds xs → ds[i]? = some d → ∃ v, xs[i]? = some v ∧ Rep K L M H d v
  | [], _, _, _, _, e => by simp at e
  | d :: ds, _, 0, _, ⟨x, r, e1, h1, h2⟩, e => by subst e1; simp at e; subst e; exact ⟨x, rfl, h1⟩
  | d :: ds, _, i + 1, _, ⟨x, r, e1, h1, h2⟩, e => by
    subst e1
    obtain ⟨v, h3, h4⟩ := RepL.get (i := i) h2 (by simpa using e)
    exact ⟨v, by simpa using h3, h4⟩
theorem RepL.append : ∀ {ds es : List D} {xs ys : List V}, RepL K L M H ds xs → RepL K L M H es ys → RepL K L M H (ds ++ es) (xs ++ ys)
  | [], _, _, _, h, z => by cases (show _ = [] from h); exact z
  | _ :: _, _, _, _, ⟨x, r, e, h1, h2⟩, z => by subst e; exact ⟨x, _, rfl, h1, RepL.append h2 z⟩
theorem RepL.take : ∀ {ds : List D} {xs : List V} (n : Nat), RepL K L M H ds xs → RepL K L M H (ds.take n) (xs.take n)
  | _, _, 0, _ => rfl
  | [], _, _ + 1, h => by cases (show _ = [] from h); rfl
  | _ :: _, _, n + 1, ⟨x, r, e, h1, h2⟩ => by subst e; exact ⟨x, _, rfl, h1, RepL.take n h2⟩
theorem RepL.drop : ∀ {ds : List D} {xs : List V} (n : Nat), RepL K L M H ds xs → RepL K L M H (ds.drop n) (xs.drop n)
  | _, _, 0, h => h
  | [], _, _ + 1, h => by cases (show _ = [] from h); rfl
  | _ :: _, _, n + 1, ⟨x, r, e, h1, h2⟩ => by subst e; exact RepL.drop n h2
theorem RepL.set : ∀ {ds : List D} {xs : List V} {d : D} {v : V} (i : Nat), RepL K L M H ds xs → Rep K L M H d v → RepL K L M H (ds.set i d) (xs.set i v)
  | [], _, _, _, _, h, _ => by cases (show _ = [] from h); rfl
  | _ :: _, _, _, _, 0, ⟨x, r, e, h1, h2⟩, z => by subst e; exact ⟨_, _, rfl, z, h2⟩
  | _ :: _, _, _, _, i + 1, ⟨x, r, e, h1, h2⟩, z => by subst e; exact ⟨_, _, rfl, h1, RepL.set i h2 z⟩
theorem RepL.reverse {ds : List D} {xs : List V} (h : RepL K L M H ds xs) : RepL K L M H ds.reverse xs.reverse := by
  induction ds generalizing xs with
  | nil => cases (show _ = [] from h); rfl
  | cons d ds ih =>
    obtain ⟨x, r, rfl, h1, h2⟩ := h
    rw [List.reverse_cons, List.reverse_cons]
    exact (ih h2).append ⟨x, [], rfl, h1, rfl⟩
theorem RepL.eraseIdx : ∀ {ds : List D} {xs : List V} (i : Nat), RepL K L M H ds xs → RepL K L M H (ds.eraseIdx i) (xs.eraseIdx i)
  | [], _, _, h => by cases (show _ = [] from h); rfl
  | _ :: _, _, 0, ⟨x, r, e, h1, h2⟩ => by subst e; exact h2
  | _ :: _, _, i + 1, ⟨x, r, e, h1, h2⟩ => by subst e; exact ⟨_, _, rfl, h1, RepL.eraseIdx i h2⟩
theorem RepL.ints : ∀ ns : List Int, RepL K L M H (ns.map .int) (ns.map V.int)
  | [] => rfl
  | n :: ns => ⟨_, _, rfl, rfl, RepL.ints ns⟩
theorem RepL.to_ints : ∀ {ns : List Int} {xs : List V}, RepL K L M H (ns.map .int) xs → xs = ns.map V.int
  | [], _, h => h
  | n :: ns, _, ⟨x, r, e, h1, h2⟩ => by rw [e, show x = .int n from h1, RepL.to_ints h2]; rfl
theorem RepL.to_bls : ∀ {ns : List Bool} {xs : List V}, RepL K L M H (ns.map .bool) xs → xs = ns.map V.bl
  | [], _, h => h
  | n :: ns, _, ⟨x, r, e, h1, h2⟩ => by rw [e, show x = .bl n from h1, RepL.to_bls h2]; rfl

/-! ### how a store changes -/
/-- a new object at p, not tracked as changeable: all stands -/
theorem Ext.new {p : Addr} {o : HO} (h : H p = none) : Ext L M H L (upd H p o) :=
  ⟨List.prefix_refl _, fun a u e _ n => ⟨by rw [upd_ne (ne_of_none e h)]; exact e, n⟩⟩
theorem Tabs.new {p : Addr} {o : HO} (h : H p = none) (t : LamX.Tabs T H) : LamX.Tabs T (upd H p o) := t.ext fun b u e => by rw [upd_ne (ne_of_none e h)]; exact e
theorem MOk.new {p a : Addr} {o : HO} (m : MOk T H a) (h : H p = none) : MOk T (upd H p o) a := by
  rcases m with ⟨u, e, t⟩ | m
  · exact .inl ⟨u, by rw [upd_ne (ne_of_none e h)]; exact e, t⟩
  · exact .inr m
theorem MOk.but {p a : Addr} {o : HO} (m : MOk T H a) (h : a ≠ p) : MOk T (upd H p o) a := by
  rcases m with ⟨u, e, t⟩ | m
  · exact .inl ⟨u, by rw [upd_ne h]; exact e, t⟩
  · exact .inr m
theorem SRel.new {st : Sto} {p : Addr} {o : HO} (s : SRel K T L M H st) (h : H p = none) : SRel K T L M (upd H p o) st where
  nd := s.nd
  dj := s.dj
  len := s.len
  obs := fun n ob a e1 e2 => (s.obs n ob a e1 e2).map (fun u e _ => by rw [upd_ne (ne_of_none e h)]; exact e) (fun _ _ => Rep.ext (Ext.new h)) (fun _ _ => RepL.ext (Ext.new h))
  tabs := Tabs.new h s.tabs
  tM := s.tM
  mM := fun a z => (s.mM a z).new h
theorem SRel.in_L {st : Sto} (s : SRel K T L M H st) {a : Addr} (h : a ∈ L) : ∃ (n : Nat) (o : Ob), st[n]? = some o ∧ L[n]? = some a := by
  obtain ⟨n, hn, e⟩ := List.mem_iff_getElem.mp h
  have : n < st.length := by rw [← s.len]; exact hn
  exact ⟨n, st[n], by rw [List.getElem?_eq_getElem this], by rw [List.getElem?_eq_getElem hn, e]⟩
theorem SRel.ex {st : Sto} (s : SRel K T L M H st) {a : Addr} (h : a ∈ L) : ∃ u, H a = some u ∧ notTbl u := by
  obtain ⟨n, o, e1, e2⟩ := s.in_L h
  exact (s.obs n o a e1 e2).ex
theorem SRel.fresh {st : Sto} (s : SRel K T L M H st) {p : Addr} (h : H p = none) : p ∉ L := fun z => by
  obtain ⟨u, e, _⟩ := s.ex z
  rw [h] at e; cases e
/-- another guard -/
theorem SRel.guard {st : Sto} (s : SRel K T L M H st) (g : GOk H M M') (hT : ∀ p ∈ T, p.1 ∈ M') (hM : ∀ a ∈ M', MOk T H a) : SRel K T L M' H st where
  nd := s.nd
  dj := fun a h => by
    obtain ⟨u, e, t⟩ := s.ex h
    exact g a u e t (s.dj a h)
  len := s.len
  obs := fun n o a e1 e2 => (s.obs n o a e1 e2).map (fun _ e _ => e) (fun _ _ => Rep.guard g) (fun _ _ => RepL.guard g)
  tabs := s.tabs
  tM := hT
  mM := hM
/-- a tracked object is written -/
theorem Ext.write {a : Addr} {o : HO} (h : a ∈ L) : Ext L M H L (upd H a o) :=
  ⟨List.prefix_refl _, fun b u e _ n => ⟨by rw [upd_ne (fun z => n (by rw [z]; exact h))]; exact e, n⟩⟩
theorem codeO_ext (c : Addr) (q : Str) : ∃ φ, LamX.CodeO c q = .ext φ := ⟨_, rfl⟩
def isCh : HO → Prop
  | .lst _ => True
  | .dK _ => True
  | .dT _ => True
  | _ => False
theorem isCh.mut {u : HO} (h : isCh u) : Mut (some u) := by cases u <;> trivial
theorem Tabs.write {a : Addr} {u o : HO} (ha : H a = some u) (hu : isCh u) (t : LamX.Tabs T H) : LamX.Tabs T (upd H a o) := by
  intro p hp
  obtain ⟨ps, e, tr, h⟩ := t p hp
  have ne : ∀ b w, H b = some w → ¬ isCh w → b ≠ a := fun b w e n z => by
    rw [z, ha] at e
    cases e
    exact n hu
  refine ⟨ps, by rw [upd_ne (ne _ _ e (fun z => z))]; exact e, tr, fun pos cv hc => ?_⟩
  obtain ⟨c, e1, e2⟩ := h pos cv hc
  exact ⟨c, e1, by rw [upd_ne (ne _ _ e2 (fun z => z))]; exact e2⟩
theorem SRel.write {st : Sto} (s : SRel K T L M H st) {n : Nat} {a : Addr} {u o : HO} {ob : Ob} (hn : L[n]? = some a) (ha : H a = some u) (hu : isCh u) (new : ObRep K L M (upd H a o) a ob) : SRel K T L M (upd H a o) (st.set n ob) where
  nd := s.nd
  dj := s.dj
  len := by rw [List.length_set]; exact s.len
  obs := fun m ob' b e1 e2 => by
    have hL : a ∈ L := List.mem_of_getElem? hn
    by_cases hm : n = m
    · subst hm
      rw [hn] at e2
      cases e2
      rw [List.getElem?_set_self (by rw [← s.len]; exact (List.getElem?_eq_some_iff.mp hn).1)] at e1
      cases e1
      exact new
    · rw [List.getElem?_set_ne hm] at e1
      have hb : b ≠ a := fun z => by
        subst z
        obtain ⟨h1, q1⟩ := List.getElem?_eq_some_iff.mp hn
        obtain ⟨h2, q2⟩ := List.getElem?_eq_some_iff.mp e2
        exact hm ((List.getElem_inj s.nd).mp (q1.trans q2.symm))
      exact (s.obs m ob' b e1 e2).map (fun u e _ => by rw [upd_ne hb]; exact e) (fun _ _ => Rep.ext (Ext.write hL)) (fun _ _ => RepL.ext (Ext.write hL))
  tabs := Tabs.write ha hu s.tabs
  tM := s.tM
  mM := fun b z => (s.mM b z).but fun e => s.dj a (List.mem_of_getElem? hn) (by rw [← e]; exact z)
/-- a new object becomes the store's last place -/
theorem Ext.push {p : Addr} {o : HO} (h : H p = none) : Ext L M H (L ++ [p]) (upd H p o) :=
  ⟨List.prefix_append _ _, fun a u e _ n => ⟨by rw [upd_ne (ne_of_none e h)]; exact e, fun z => by
    rcases List.mem_append.mp z with z | z
    · exact n z
    · rw [List.mem_singleton.mp z, h] at e; cases e⟩⟩
theorem SRel.notM {st : Sto} (s : SRel K T L M H st) {p : Addr} (h : H p = none) : p ∉ M := fun z => by
  rcases s.mM p z with ⟨u, e, _⟩ | ⟨q, hq, rfl⟩
  · rw [h] at e; cases e
  · obtain ⟨ps, e, _⟩ := s.tabs q hq
    rw [h] at e; cases e
theorem SRel.push {st : Sto} (s : SRel K T L M H st) {p : Addr} {o : HO} {ob : Ob} (h : H p = none) (new : ObRep K (L ++ [p]) M (upd H p o) p ob) : SRel K T (L ++ [p]) M (upd H p o) (st ++ [ob]) where
  nd := List.nodup_append.mpr ⟨s.nd, (by simp), fun a h1 b h2 z => by
    rw [List.mem_singleton.mp h2] at z
    rw [z] at h1
    exact s.fresh h h1⟩
  dj := fun a z => by
    rcases List.mem_append.mp z with z | z
    · exact s.dj a z
    · rw [List.mem_singleton.mp z]; exact s.notM h
  len := by simp [s.len]
  obs := fun n ob' b e1 e2 => by
    by_cases hn : n < st.length
    · rw [List.getElem?_append_left hn] at e1
      rw [List.getElem?_append_left (by rw [s.len]; exact hn)] at e2
      exact (s.obs n ob' b e1 e2).map (fun u e _ => by rw [upd_ne (ne_of_none e h)]; exact e) (fun _ _ => Rep.ext (Ext.push h)) (fun _ _ => RepL.ext (Ext.push h))
    · have hl := s.len
      rw [List.getElem?_append_right (by omega)] at e1 e2
      have h0 : n - st.length = 0 := by
        have := (List.getElem?_eq_some_iff.mp e1).1
        simp at this
        omega
      rw [h0] at e1
      rw [hl, h0] at e2
      cases e1
      cases e2
      exact new
  tabs := Tabs.new h s.tabs
  tM := s.tM
  mM := fun a z => (s.mM a z).new h
theorem SRel.lst {st : Sto} (s : SRel K T L M H st) {n : Nat} {a : Addr} {ds : List D} (e : st[n]? = some (.lst ds)) (hn : L[n]? = some a) : ∃ xs, H a = some (.lst xs) ∧ RepL K L M H ds xs := s.obs n _ a e hn
/-! ### a guarded place becomes a place of the store -/
theorem TupA.live {p : Addr} {a : Addr} {xs : List V} (h : TupA K L (p :: M) H a xs) : TupA K (L ++ [p]) M H a xs := by
  rcases h with ⟨r, v⟩ | h
  · exact .inl ⟨r, fun z => by
      rcases List.mem_append.mp z with z | z
      · exact v.1 z
      · exact v.2 (by rw [List.mem_singleton.mp z]; exact List.mem_cons_self), fun z => v.2 (List.mem_cons_of_mem _ z)⟩
  · exact .inr h
theorem LstA.live {p : Addr} {a : Addr} {xs : List V} (h : LstA K L (p :: M) H a xs) : LstA K (L ++ [p]) M H a xs := by
  rcases h with ⟨r, v⟩ | h
  · exact .inl ⟨r, fun z => by
      rcases List.mem_append.mp z with z | z
      · exact v.1 z
      · exact v.2 (by rw [List.mem_singleton.mp z]; exact List.mem_cons_self), fun z => v.2 (List.mem_cons_of_mem _ z)⟩
  · exact .inr h
mutual
theorem Rep.live {p : Addr} : ∀ {d : D} {v : V}, Rep K L (p :: M) H d v → Rep K (L ++ [p]) M H d v
  | .none, _, h => h
  | .bool _, _, h => h
  | .int _, _, h => h
  | .str _, _, h => h
  | .list _, _, ⟨a, xs, e1, h1, h2⟩ => ⟨a, xs, e1, h1.live, RepL.live h2⟩
  | .tuple _, _, ⟨a, xs, e1, h1, h2⟩ => ⟨a, xs, e1, h1.live, RepL.live h2⟩
  | .dict _, _, ⟨n, a, e1, e2, h⟩ => ⟨n, a, e1, e2, pre_get (List.prefix_append _ _) h⟩
theorem RepL.live {p : Addr} : ∀ {ds : List D} {xs : List V}, RepL K L (p :: M) H ds xs → RepL K (L ++ [p]) M H ds xs
  | [], _, h => h
  | _ :: _, _, ⟨x, r, e1, h1, h2⟩ => ⟨x, r, e1, Rep.live h1, RepL.live h2⟩
end
theorem SRel.live {st : Sto} {p : Addr} {ob : Ob} (s : SRel K T L (p :: M) H st) (new : ObRep K (L ++ [p]) M H p ob) (hp : p ∉ M) (hT : ∀ q ∈ T, q.1 ∈ M) : SRel K T (L ++ [p]) M H (st ++ [ob]) where
  nd := List.nodup_append.mpr ⟨s.nd, (by simp), fun a h1 b h2 z => by
    rw [List.mem_singleton.mp h2] at z
    rw [z] at h1
    exact s.dj p h1 List.mem_cons_self⟩
  dj := fun a z => by
    rcases List.mem_append.mp z with z | z
    · exact fun y => s.dj a z (List.mem_cons_of_mem _ y)
    · rw [List.mem_singleton.mp z]; exact hp
  len := by simp [s.len]
  obs := fun n ob' b e1 e2 => by
    by_cases hn : n < st.length
    · rw [List.getElem?_append_left hn] at e1
      rw [List.getElem?_append_left (by rw [s.len]; exact hn)] at e2
      exact (s.obs n ob' b e1 e2).map (fun u e _ => e) (fun _ _ => Rep.live) (fun _ _ => RepL.live)
    · have hl := s.len
      rw [List.getElem?_append_right (by omega)] at e1 e2
      have h0 : n - st.length = 0 := by
        have := (List.getElem?_eq_some_iff.mp e1).1
        simp at this
        omega
      rw [h0] at e1
      rw [hl, h0] at e2
      cases e1
      cases e2
      exact new
  tabs := s.tabs
  tM := hT
  mM := fun a z => s.mM a (List.mem_cons_of_mem _ z)

/-! ### readings -/
section
variable {α β : Type} (RV : List Addr → List Addr → Hp → α → β → Prop)
variable (K T)
/-- what is wanted behind a result -/
def Po (L M : List Addr) (H : Hp) (r : R α) (WE : Nat → Hp → Prop) (Q : β → Hp → Prop) : Prop := match r with
  | .ok d st' => ∀ v L' H', Ext L M H L' H' → SRel K T L' M H' st' → RV L' M H' d v → Q v H'
  | .exc c st' => ∀ L' H', Ext L M H L' H' → SRel K T L' M H' st' → WE c H'
  | .bad => False
def tG (WE : Nat → Hp → Prop) (F : Env → Sto → R α) : L2.St → Hp → (β → Hp → Prop) → Prop := fun σ H Q =>
  ∃ L M ρ st, SRel K T L M H st ∧ ERel K L M H σ ρ ∧ Po K T RV L M H (F ρ st) WE Q
end
section
variable {α β γ δ : Type} {RV : List Addr → List Addr → Hp → α → β → Prop} {RV2 : List Addr → List Addr → Hp → γ → δ → Prop} {WE : Nat → Hp → Prop}
theorem Po.ext {r : R α} {Q : β → Hp → Prop} (e : Ext L M H L' H') (h : Po K T RV L M H r WE Q) : Po K T RV L' M H' r WE Q := by
  cases r with
  | ok d st => exact fun v L2 H2 e2 s2 r2 => h v L2 H2 (e.trans e2) s2 r2
  | exc c st => exact fun L2 H2 e2 s2 => h L2 H2 (e.trans e2) s2
  | bad => exact h
theorem Po.mono {r : R α} {Q Q' : β → Hp → Prop} (h : Po K T RV L M H r WE Q) (f : ∀ v H', Q v H' → Q' v H') : Po K T RV L M H r WE Q' := by
  cases r with
  | ok d st => exact fun v L2 H2 e2 s2 r2 => f _ _ (h v L2 H2 e2 s2 r2)
  | exc c st => exact h
  | bad => exact h
/-- one step, then the rest -/
theorem tG.bind {F : Env → Sto → R α} {G : α → Sto → R γ} {Q : δ → Hp → Prop} {Q1 : β → Hp → Prop} {σ : L2.St} {ρ : Env} {st : Sto} (s : SRel K T L M H st) (e : ERel K L M H σ ρ)
    (h : Po K T RV2 L M H ((F ρ st).bind G) WE Q)
    (k : ∀ a st1 x L1 H1, F ρ st = .ok a st1 → Ext L M H L1 H1 → SRel K T L1 M H1 st1 → ERel K L1 M H1 σ ρ → RV L1 M H1 a x → Po K T RV2 L1 M H1 (G a st1) WE Q → Q1 x H1) : tG K T RV WE F σ H Q1 := by
  refine ⟨L, M, ρ, st, s, e, ?_⟩
  cases hF : F ρ st with
  | ok a st1 =>
    rw [hF] at h
    exact fun v L1 H1 e1 s1 r1 => k a st1 v L1 H1 hF e1 s1 (e.ext e1) r1 (Po.ext e1 h)
  | exc c st1 => rw [hF] at h; exact h
  | bad => rw [hF] at h; exact h
end
end
abbrev RVT : List Addr → List Addr → Hp → Bool → Bool → Prop := fun _ _ _ a b => a = b
abbrev tF (K : PySem.W.Frag) (T : List (Addr × Str)) (WE : Nat → Hp → Prop) (F : Env → Sto → R D) : TE := tG K T (Rep K) WE F
abbrev tT (K : PySem.W.Frag) (T : List (Addr × Str)) (WE : Nat → Hp → Prop) (F : Env → Sto → R Bool) : TT := tG K T RVT WE F
abbrev tFA (K : PySem.W.Frag) (T : List (Addr × Str)) (WE : Nat → Hp → Prop) (F : Env → Sto → R (List D)) : TA := tG K T (RepL K) WE F
/-- a new list -/
def tN (K : PySem.W.Frag) (T : List (Addr × Str)) (WE : Nat → Hp → Prop) (F : Env → Sto → R (List D)) : TE := fun σ H Q =>
  ∃ L M ρ st, SRel K T L M H st ∧ ERel K L M H σ ρ ∧ match F ρ st with
    | .ok ds st' => ∀ a xs L' H', Ext L M H L' H' → (∀ o, H a = some o → ¬ notTbl o) → a ∉ M → H' a = some (.lst xs) → SRel K T L' (a :: M) H' st' → RepL K L' (a :: M) H' ds xs → Q (.ref a) H'
    | .exc c st' => ∀ L' H', Ext L M H L' H' → SRel K T L' M H' st' → WE c H'
    | .bad => False
theorem PE.w {X : Cx} {e : Expr} {t t' : TE} (h : PE X e t) (i : ∀ σ H Q, t' σ H Q → t σ H Q) : PE X e t' := ⟨fun pins s σ H Q I q => h.run pins s σ H Q I (i σ H Q q)⟩
theorem PT.w {X : Cx} {e : Expr} {t t' : TT} (h : PT X e t) (i : ∀ σ H Q, t' σ H Q → t σ H Q) : PT X e t' := ⟨fun pins s σ H Q I q => h.run pins s σ H Q I (i σ H Q q)⟩
theorem PW.w {X : Cx} {e : Expr} {t t' : TT} (h : PW X e t) (i : ∀ σ H Q, t' σ H Q → t σ H Q) : PW X e t' := ⟨fun wh pins s σ H Q I q => h.run wh pins s σ H Q I (i σ H Q q)⟩
theorem PA.w {X : Cx} {e : List Expr} {t t' : TA} (h : PA X e t) (i : ∀ σ H Q, t' σ H Q → t σ H Q) : PA X e t' := ⟨fun p pins s σ H Q I q => h.run p pins s σ H Q I (i σ H Q q)⟩
theorem PS.w {X : Cx} {e : Stmt} {t t' : TS} (h : PS X e t) (i : ∀ D σ H, t' D σ H → t D σ H) : PS X e t' := ⟨fun pins s σ H D I q => h.run pins s σ H D I (i D σ H q)⟩
theorem PSs.w {X : Cx} {e : List Stmt} {t t' : TS} (h : PSs X e t) (i : ∀ D σ H, t' D σ H → t D σ H) : PSs X e t' := ⟨fun pins s σ H D I q => h.run pins s σ H D I (i D σ H q)⟩
theorem OpR.w {X : Cx} {f : Value → Value → Sem Value} {r r' : R2} (h : OpR X f r) (i : ∀ x y H Q, r' x y H Q → r x y H Q) : OpR X f r' := fun pins s σ H x y v u Q I rx ry q => h pins s σ H x y v u Q I rx ry (i _ _ _ _ q)
end Fl
/-! Fl2: expressions. -/
namespace Fl
open PySem PySem.Spec PyProof.Rows L2

abbrev Ex := Env → Sto → R D
abbrev ExB := Env → Sto → R Bool
abbrev ExL := Env → Sto → R (List D)
abbrev O1 := D → Sto → Option (D × Sto)
abbrev O2 := D → D → Sto → Option (D × Sto)
def ofO {α : Type} : Option (α × Sto) → R α
  | some (d, s) => .ok d s
  | none => .bad
def pu {α : Type} (s : Sto) (d : Option α) : Option (α × Sto) := d.map fun x => (x, s)
def eV (i : Nat) : Ex := fun ρ st => match ρ[i]? with
  | some (some d) => .ok d st
  | _ => .bad
def eC (d : D) : Ex := fun _ st => .ok d st
def eB (op : O2) (a b : Ex) : Ex := fun ρ st => (a ρ st).bind fun x s1 => (b ρ s1).bind fun y s2 => ofO (op x y s2)
def eU (op : O1) (a : Ex) : Ex := fun ρ st => (a ρ st).bind fun x s1 => ofO (op x s1)
def eTup (as : ExL) : Ex := fun ρ st => (as ρ st).bind fun xs s1 => if xs.length ≤ 16777216 then .ok (.tuple xs) s1 else .bad
def eFrz (as : ExL) : Ex := fun ρ st => (as ρ st).bind fun xs s1 => .ok (.list xs) s1
def eMut (as : ExL) : Ex := fun ρ st => (as ρ st).bind fun xs s1 => .ok (.loc s1.length) (s1 ++ [.lst xs])
def eDisp (as : ExL) : ExL := fun ρ st => (as ρ st).bind fun xs s1 => if xs.length ≤ 16777216 then .ok xs s1 else .bad
def eNil : ExL := fun _ st => .ok [] st
def eCons (a : Ex) (as : ExL) : ExL := fun ρ st => (a ρ st).bind fun x s1 => (as ρ s1).bind fun xs s2 => .ok (x :: xs) s2
def eIf (c : ExB) (a b : Ex) : Ex := fun ρ st => (c ρ st).bind fun k s1 => if k = true then a ρ s1 else b ρ s1
def bVal (a : Ex) : ExB := fun ρ st => (a ρ st).bind fun x s1 => match x with
  | .bool k => .ok k s1
  | _ => .bad
def bAnd (a b : ExB) : ExB := fun ρ st => (a ρ st).bind fun k s1 => if k = true then b ρ s1 else .ok false s1
def bOr (a b : ExB) : ExB := fun ρ st => (a ρ st).bind fun k s1 => if k = true then .ok true s1 else b ρ s1
def bNot (a : ExB) : ExB := fun ρ st => (a ρ st).bind fun k s1 => .ok (!k) s1
def eBl (a : ExB) : Ex := fun ρ st => (a ρ st).bind fun k s1 => .ok (.bool k) s1
def eAnd (a b : Ex) : Ex := fun ρ st => (a ρ st).bind fun x s1 => match x with
  | .bool k => if k = true then b ρ s1 else .ok (.bool false) s1
  | _ => .bad
def eOr (a b : Ex) : Ex := fun ρ st => (a ρ st).bind fun x s1 => match x with
  | .bool k => if k = true then .ok (.bool true) s1 else b ρ s1
  | _ => .bad
def eNot (a : Ex) : Ex := fun ρ st => (a ρ st).bind fun x s1 => match x with
  | .bool k => .ok (.bool (!k)) s1
  | _ => .bad

/-! ### lists and tuples in hand -/
def listOf (st : Sto) : D → Option (List D)
  | .list ds => some ds
  | .dict [(.int n, .none)] => match st[n.toNat]? with
    | some (.lst ds) => some ds
    | _ => none
  | _ => none
def seqOf (st : Sto) : D → Option (List D)
  | .tuple ds => some ds
  | d => listOf st d
section
variable {X : Cx} {T : List (Addr × Str)} {L M : List Addr} {H : Hp} {st : Sto} {WE : Nat → Hp → Prop}
theorem listOf_rd {K : PySem.W.Frag} {d : D} {v : V} {ds : List D} (s : SRel K T L M H st) (r : Rep K L M H d v) (h : listOf st d = some ds) : ∃ a xs, v = .ref a ∧ (Rd H a (.lst xs) ∨ LKc K a xs) ∧ RepL K L M H ds xs := by
  cases d with
  | list es =>
    cases h
    obtain ⟨a, xs, e, h1, h2⟩ := r
    exact ⟨a, xs, e, h1.elim (fun z => .inl z.1) .inr, h2⟩
  | dict kvs =>
    obtain ⟨n, a, rfl, rfl, e⟩ := r
    unfold listOf at h
    simp only [Int.toNat_natCast] at h
    split at h
    · rename_i es q
      cases h
      obtain ⟨xs, h1, h2⟩ := s.lst q e
      exact ⟨a, xs, rfl, .inl (.inl h1), h2⟩
    · cases h
  | none => cases h
  | bool _ => cases h
  | int _ => cases h
  | str _ => cases h
  | tuple _ => cases h
theorem listOf_ok {K : PySem.W.Frag} {d : D} {v : V} {ds : List D} (s : SRel K T L M H st) (r : Rep K L M H d v) (h : listOf st d = some ds) : ∃ a xs, v = .ref a ∧ SqL K H a xs ∧ RepL K L M H ds xs := by
  obtain ⟨a, xs, e, h1, h2⟩ := listOf_rd s r h
  exact ⟨a, xs, e, h1.elim .inl LKc.sq, h2⟩
theorem seqOf_ok {K : PySem.W.Frag} {d : D} {v : V} {ds : List D} (s : SRel K T L M H st) (r : Rep K L M H d v) (h : seqOf st d = some ds) : ∃ a xs, v = .ref a ∧ (SqL K H a xs ∨ SqT K H a xs) ∧ RepL K L M H ds xs := by
  have go : listOf st d = some ds → ∃ a xs, v = .ref a ∧ (SqL K H a xs ∨ SqT K H a xs) ∧ RepL K L M H ds xs := fun z => by
    obtain ⟨a, xs, e, h1, h2⟩ := listOf_ok s r z
    exact ⟨a, xs, e, .inl h1, h2⟩
  cases d with
  | tuple es =>
    cases h
    obtain ⟨a, xs, e, h1, h2⟩ := r
    exact ⟨a, xs, e, .inr h1.sq, h2⟩
  | _ => exact go h

/-! ### the plain rules -/
/-- what is known of one operation on two values -/
def r2 (K : PySem.W.Frag) (T : List (Addr × Str)) (op : O2) : R2 := fun x y H Q =>
  ∃ L M st d e, SRel K T L M H st ∧ Rep K L M H d x ∧ Rep K L M H e y ∧ Po K T (Rep K) L M H (ofO (op d e st)) (fun _ _ => False) Q
def r1 (K : PySem.W.Frag) (T : List (Addr × Str)) (op : O1) : V → Hp → VK → Prop := fun x H Q =>
  ∃ L M st d, SRel K T L M H st ∧ Rep K L M H d x ∧ Po K T (Rep K) L M H (ofO (op d st)) (fun _ _ => False) Q
theorem Po.ofO {α β : Type} {RV : List Addr → List Addr → Hp → α → β → Prop} {K : PySem.W.Frag} {r : Option (α × Sto)} {WE' : Nat → Hp → Prop} {Q : β → Hp → Prop} (h : Po K T RV L M H (ofO r) WE Q) : Po K T RV L M H (Fl.ofO r) WE' Q := by
  cases r with
  | none => exact h
  | some p => exact h
theorem tb2 {K : PySem.W.Frag} {op : O2} {Fa Fb : Ex} {σ : L2.St} {H : Hp} {Q : VK} (h : tF K T WE (eB op Fa Fb) σ H Q) : tOp (r2 K T op) (tF K T WE Fa) (tF K T WE Fb) σ H Q := by
  obtain ⟨L, M, ρ, st, s, e, h⟩ := h
  refine tG.bind s e h fun x s1 vx L1 H1 _ _ sr er rx h1 => ?_
  refine tG.bind sr er h1 fun y s2 vy L2 H2 _ e2 sr2 er2 ry h2 => ?_
  exact ⟨_, _, _, x, y, sr2, rx.ext e2, ry, h2.ofO⟩
theorem tb1 {K : PySem.W.Frag} {op : O1} {Fa : Ex} {σ : L2.St} {H : Hp} {Q : VK} (h : tF K T WE (eU op Fa) σ H Q) : tF K T WE Fa σ H fun x H1 => r1 K T op x H1 Q := by
  obtain ⟨L, M, ρ, st, s, e, h⟩ := h
  refine tG.bind s e h fun x s1 vx L1 H1 _ _ sr er rx h1 => ?_
  exact ⟨_, _, _, x, sr, rx, h1.ofO⟩
variable {e a b c : Expr} {pos : Pos} {Fa Fb Fc : Ex} {Ba Bb : ExB} {La : ExL}
theorem fe_var (i : Nat) {x : Str} (hN : X.N[i]? = some x := by rfl) (hv : Vis X.env.scope x := by first | exact Or.inl rfl | exact Or.inr (Or.inl rfl) | exact Or.inr (Or.inr rfl)) (hd : (x == ("__debug__" : Str)) = false := by decide)
    (hcd : (x == ("__classdict__" : Str)) = false := by decide) : PE X (.Name x pos) (tF X.K T WE (eV i)) := by
  refine PE.w (pe_var hN hv hd hcd) fun σ H Q h => ?_
  obtain ⟨L, M, ρ, st, s, e, h⟩ := h
  unfold eV at h
  split at h
  · rename_i d q
    obtain ⟨v, h1, h2⟩ := e.at_ i d q
    exact ⟨v, h1, h v L H Ext.refl s h2⟩
  · exact h.elim
theorem fe_c {v : V} {d : D} {ex : Expr} (h : PE X ex (tC v)) (r : ∀ L M H, Rep X.K L M H d v) : PE X ex (tF X.K T WE (eC d)) :=
  PE.w h fun σ H Q ⟨L, M, ρ, st, s, e, h⟩ => h v L H Ext.refl s (r L M H)
theorem fe_int {i : Int} {j} : PE X (.Constant (.int i) j pos) (tF X.K T WE (eC (.int i))) := fe_c pe_int fun _ _ _ => rfl
theorem fe_bl {i : Bool} {j} : PE X (.Constant (.bool i) j pos) (tF X.K T WE (eC (.bool i))) := fe_c pe_bl fun _ _ _ => rfl
theorem fe_non {j} : PE X (.Constant .none j pos) (tF X.K T WE (eC .none)) := fe_c pe_non fun _ _ _ => rfl
theorem fe_str {x : Str} {j} : PE X (.Constant (.str x) j pos) (tF X.K T WE (eC (.str x))) := fe_c pe_str fun _ _ _ => rfl
theorem fe_op {op : Operator} {o : O2} (ho : OpR X (binaryOp op) (r2 X.K T o)) (ha : PE X a (tF X.K T WE Fa)) (hb : PE X b (tF X.K T WE Fb)) : PE X (.BinOp a op b pos) (tF X.K T WE (eB o Fa Fb)) :=
  PE.w (pe_op ho ha hb) fun _ _ _ h => tb2 h
theorem fe_un {op : UnaryOp} {o : O1} (ho : UnR X (unaryOp op) (r1 X.K T o)) (ha : PE X a (tF X.K T WE Fa)) : PE X (.UnaryOp op a pos) (tF X.K T WE (eU o Fa)) :=
  PE.w (pe_un ho ha) fun _ _ _ h => tb1 h
theorem fe_cmp {op : CmpOp} {o : O2} (ho : OpR X (compareOp op) (r2 X.K T o)) (ha : PE X a (tF X.K T WE Fa)) (hb : PE X b (tF X.K T WE Fb)) (hm : behindInMarks op b = false) : PE X (.Compare a [op] [b] pos) (tF X.K T WE (eB o Fa Fb)) :=
  PE.w (pe_cmpR ho ha hb hm) fun _ _ _ h => tb2 h
theorem tbv {K : PySem.W.Frag} {t : TE} {σ : L2.St} {H : Hp} {Q : Bool → Hp → Prop} (i : ∀ σ H Q, tF K T WE Fa σ H Q → t σ H Q) (h : tT K T WE (bVal Fa) σ H Q) : t σ H fun x H' => ∃ k, x = .bl k ∧ Q k H' := by
  obtain ⟨L, M, ρ, st, s, e, h⟩ := h
  refine i _ _ _ (tG.bind s e h fun x s1 vx L1 H1 _ _ sr er rx h1 => ?_)
  cases x with
  | bool k =>
    cases rx
    exact ⟨k, rfl, h1 k L1 H1 Ext.refl sr rfl⟩
  | _ => exact h1.elim
theorem ft_cmp {op : CmpOp} {o : O2} (ho : OpR X (compareOp op) (r2 X.K T o)) (ha : PE X a (tF X.K T WE Fa)) (hb : PE X b (tF X.K T WE Fb)) (hm : behindInMarks op b = false) : PT X (.Compare a [op] [b] pos) (tT X.K T WE (bVal (eB o Fa Fb))) :=
  PT.w (pt_cmpR ho ha hb hm) fun _ _ _ h => tbv (fun _ _ _ h => tb2 h) h
theorem ft_val (ha : PE X a (tF X.K T WE Fa)) (he : ∀ whole, isTrue a X.env whole = (do let v ← whole; standAt a.pos; holding [v] (truthy v)) := by intro _; rfl) : PT X a (tT X.K T WE (bVal Fa)) :=
  PT.w (pt_val ha he) fun _ _ _ h => tbv (fun _ _ _ h => h) h
theorem fw_and1 (ha : PT X a (tT X.K T WE Ba)) : PW X (.BoolOp .And [a] pos) (tT X.K T WE Ba) := pw_and1 ha
theorem fw_or1 (ha : PT X a (tT X.K T WE Ba)) : PW X (.BoolOp .Or [a] pos) (tT X.K T WE Ba) := pw_or1 ha
theorem fw_and {rest : List Expr} (ha : PT X a (tT X.K T WE Ba)) (hb : PW X (.BoolOp .And (b :: rest) pos) (tT X.K T WE Bb)) : PW X (.BoolOp .And (a :: b :: rest) pos) (tT X.K T WE (bAnd Ba Bb)) :=
  PW.w (pw_and ha hb) fun σ H Q ⟨L, M, ρ, st, s, e, h⟩ => tG.bind s e h fun x s1 vx L1 H1 _ _ sr er rx h1 => by
    cases rx
    cases x with
    | true => exact ⟨_, _, _, _, sr, er, h1⟩
    | false => exact h1 false L1 H1 Ext.refl sr rfl
theorem fw_or {rest : List Expr} (ha : PT X a (tT X.K T WE Ba)) (hb : PW X (.BoolOp .Or (b :: rest) pos) (tT X.K T WE Bb)) : PW X (.BoolOp .Or (a :: b :: rest) pos) (tT X.K T WE (bOr Ba Bb)) :=
  PW.w (pw_or ha hb) fun σ H Q ⟨L, M, ρ, st, s, e, h⟩ => tG.bind s e h fun x s1 vx L1 H1 _ _ sr er rx h1 => by
    cases rx
    cases x with
    | false => exact ⟨_, _, _, _, sr, er, h1⟩
    | true => exact h1 true L1 H1 Ext.refl sr rfl
theorem ft_not (ha : PT X a (tT X.K T WE Ba)) : PT X (.UnaryOp .Not a pos) (tT X.K T WE (bNot Ba)) :=
  PT.w (pt_not ha) fun σ H Q ⟨L, M, ρ, st, s, e, h⟩ => tG.bind s e h fun x s1 vx L1 H1 _ _ sr er rx h1 => by
    cases rx
    exact h1 (!x) L1 H1 Ext.refl sr rfl
theorem fe_one {op} (h : PE X a (tF X.K T WE Fa)) : PE X (.BoolOp op [a] pos) (tF X.K T WE Fa) := pe_one h
theorem fe_and {rest : List Expr} (ha : PE X a (tF X.K T WE Fa)) (hb : PE X (.BoolOp .And (b :: rest) pos) (tF X.K T WE Fb)) : PE X (.BoolOp .And (a :: b :: rest) pos) (tF X.K T WE (eAnd Fa Fb)) :=
  PE.w (pe_and ha hb) fun σ H Q ⟨L, M, ρ, st, s, e, h⟩ => tG.bind s e h fun x s1 vx L1 H1 _ _ sr er rx h1 => by
    cases x with
    | bool k =>
      cases rx
      refine ⟨k, rfl, ?_⟩
      cases k with
      | true => exact ⟨_, _, _, _, sr, er, h1⟩
      | false => exact h1 (.bl false) L1 H1 Ext.refl sr rfl
    | _ => exact h1.elim
theorem fe_or {rest : List Expr} (ha : PE X a (tF X.K T WE Fa)) (hb : PE X (.BoolOp .Or (b :: rest) pos) (tF X.K T WE Fb)) : PE X (.BoolOp .Or (a :: b :: rest) pos) (tF X.K T WE (eOr Fa Fb)) :=
  PE.w (pe_or ha hb) fun σ H Q ⟨L, M, ρ, st, s, e, h⟩ => tG.bind s e h fun x s1 vx L1 H1 _ _ sr er rx h1 => by
    cases x with
    | bool k =>
      cases rx
      refine ⟨k, rfl, ?_⟩
      cases k with
      | false => exact ⟨_, _, _, _, sr, er, h1⟩
      | true => exact h1 (.bl true) L1 H1 Ext.refl sr rfl
    | _ => exact h1.elim
theorem fe_not (ha : PE X a (tF X.K T WE Fa)) : PE X (.UnaryOp .Not a pos) (tF X.K T WE (eNot Fa)) :=
  PE.w (pe_not ha) fun σ H Q ⟨L, M, ρ, st, s, e, h⟩ => tG.bind s e h fun x s1 vx L1 H1 _ _ sr er rx h1 => by
    cases x with
    | bool k =>
      cases rx
      exact ⟨k, rfl, h1 (.bl (!k)) L1 H1 Ext.refl sr rfl⟩
    | _ => exact h1.elim
theorem fe_ifExp (hc : PT X c (tT X.K T WE Ba)) (ha : PE X a (tF X.K T WE Fa)) (hb : PE X b (tF X.K T WE Fb)) : PE X (.IfExp c a b pos) (tF X.K T WE (eIf Ba Fa Fb)) :=
  PE.w (pe_ifExp hc ha hb) fun σ H Q ⟨L, M, ρ, st, s, e, h⟩ => tG.bind s e h fun x s1 vx L1 H1 _ _ sr er rx h1 => by
    cases rx
    cases x with
    | true => exact ⟨_, _, _, _, sr, er, h1⟩
    | false => exact ⟨_, _, _, _, sr, er, h1⟩
theorem fa_nil : PA X [] (tFA X.K T WE eNil) := PA.w pa_nil fun σ H Q ⟨L, M, ρ, st, s, e, h⟩ => h [] L H Ext.refl s rfl
theorem fa_cons {es : List Expr} (ha : PE X e (tF X.K T WE Fa)) (hr : PA X es (tFA X.K T WE La)) (hs : starEach (e :: es) X.env = (false, eval e X.env) :: starEach es X.env := by rfl) : PA X (e :: es) (tFA X.K T WE (eCons Fa La)) :=
  PA.w (pa_cons ha hr hs) fun σ H Q ⟨L, M, ρ, st, s, e, h⟩ => tG.bind s e h fun x s1 vx L1 H1 _ _ sr er rx h1 =>
    tG.bind sr er h1 fun y s2 vy L2 H2 _ e2 sr2 er2 ry h2 => h2 (vx :: vy) L2 H2 Ext.refl sr2 ⟨_, _, rfl, rx.ext e2, ry⟩
theorem line_eq {n : Nat} : (n ≤ 16777216) = (n ≤ sizeLine) := by rw [sizeLine_eq]
theorem fe_tup {es : List Expr} {x1} (h : PA X es (tFA X.K T WE La)) : PE X (.Tuple es x1 pos) (tF X.K T WE (eTup La)) :=
  PE.w (pe_tup h) fun σ H Q ⟨L, M, ρ, st, s, e, h⟩ => tG.bind s e h fun x s1 vx L1 H1 _ _ sr er rx h1 => by
    split at h1
    · rename_i hl
      refine ⟨by rw [← rx.length, sizeLine_eq]; exact hl, fun p hp => ?_⟩
      refine h1 (.ref p) L1 (upd H1 p (.tup vx)) (Ext.new hp) (sr.new hp) ⟨p, vx, rfl, .inl ⟨.inl upd_same, sr.fresh hp, sr.notM hp⟩, rx.ext (Ext.new hp)⟩
    · exact h1.elim
/-- a new list at p -/
theorem newL {K : PySem.W.Frag} {xs : List V} {ds : List D} {p : Addr} (s : SRel K T L M H st) (r : RepL K L M H ds xs) (hp : H p = none) : Ext L M H L (upd H p (.lst xs)) ∧ SRel K T L (p :: M) (upd H p (.lst xs)) st ∧ RepL K L (p :: M) (upd H p (.lst xs)) ds xs := by
  have hM : ∀ a ∈ p :: M, MOk T (upd H p (.lst xs)) a := fun a z => by
    rcases List.mem_cons.mp z with rfl | z
    · exact .inl ⟨_, upd_same, True.intro⟩
    · exact (s.new hp).mM a z
  -- at H the guard may be widened; then the new object is laid
  have e : Ext L M H L (upd H p (.lst xs)) := Ext.new hp
  have e' : Ext L (p :: M) H L (upd H p (.lst xs)) := Ext.new hp
  refine ⟨e, ?_, (r.guard (GOk.new hp)).ext e'⟩
  exact { nd := s.nd, dj := fun a h z => by
            rcases List.mem_cons.mp z with rfl | z
            · exact s.fresh hp h
            · exact s.dj a h z
          len := s.len
          obs := fun n o a e1 e2 => (s.obs n o a e1 e2).map (fun u q _ => by rw [upd_ne (ne_of_none q hp)]; exact q) (fun _ _ q => (q.guard (GOk.new hp)).ext e') (fun _ _ q => (q.guard (GOk.new hp)).ext e')
          tabs := (s.new hp).tabs
          tM := fun q hq => List.mem_cons_of_mem _ (s.tM q hq)
          mM := hM }
theorem fn_disp {es : List Expr} (h : PA X es (tFA X.K T WE La)) : PE X (.List es pos) (tN X.K T WE (eDisp La)) :=
  PE.w (pe_lst h) fun σ H Q ⟨L, M, ρ, st, s, e, h⟩ => by
    refine ⟨L, M, ρ, st, s, e, ?_⟩
    unfold eDisp at h
    cases hF : La ρ st with
    | bad => rw [hF] at h; exact h
    | exc c s1 => rw [hF] at h; exact h
    | ok ds s1 =>
      rw [hF] at h
      simp only [R.bind] at h
      intro xs L1 H1 e1 s1' rx
      by_cases hl : ds.length ≤ 16777216
      · rw [if_pos hl] at h
        refine ⟨by rw [← rx.length, sizeLine_eq]; exact hl, fun p hp => ?_⟩
        obtain ⟨n1, n2, n3⟩ := newL s1' rx hp
        have hp0 : ∀ o, H p = some o → ¬ notTbl o := fun o q t => by
          have hL : p ∉ L := fun z => by
            obtain ⟨r, hr⟩ := e1.pre
            exact absurd (by rw [← hr]; exact List.mem_append_left _ z) (s1'.fresh hp)
          have := (e1.keep p o q t hL).1
          rw [hp] at this; cases this
        exact h p xs L1 _ (e1.trans n1) hp0 (s1'.notM hp) upd_same n2 n3
      · rw [if_neg hl] at h
        exact h.elim
theorem fe_frz {ex : Expr} (h : PE X ex (tN X.K T WE La)) : PE X ex (tF X.K T WE (eFrz La)) :=
  PE.w h fun σ H Q ⟨L, M, ρ, st, s, e, h⟩ => by
    refine ⟨L, M, ρ, st, s, e, ?_⟩
    unfold eFrz at h
    cases hF : La ρ st with
    | bad => rw [hF] at h; exact h
    | exc c s1 => rw [hF] at h; exact h
    | ok ds s1 =>
      rw [hF] at h
      intro a xs L' H' e1 h0 nM h1 s1' r
      have na : a ∉ L' := fun z => s1'.dj a z List.mem_cons_self
      have g : GOk H' (a :: M) M := GOk.less fun b z => List.mem_cons_of_mem _ z
      have s2 : SRel X.K T L' M H' s1 := s1'.guard g s.tM fun b z => s1'.mM b (List.mem_cons_of_mem _ z)
      exact h (.ref a) L' H' e1 s2 ⟨a, xs, rfl, .inl ⟨.inl h1, na, nM⟩, r.guard g⟩
theorem fe_mut {ex : Expr} (h : PE X ex (tN X.K T WE La)) : PE X ex (tF X.K T WE (eMut La)) :=
  PE.w h fun σ H Q ⟨L, M, ρ, st, s, e, h⟩ => by
    refine ⟨L, M, ρ, st, s, e, ?_⟩
    unfold eMut at h
    cases hF : La ρ st with
    | bad => rw [hF] at h; exact h
    | exc c s1 => rw [hF] at h; exact h
    | ok ds s1 =>
      rw [hF] at h
      intro a xs L' H' e1 h0 nM h1 s1' r
      have s2 : SRel X.K T (L' ++ [a]) M H' (s1 ++ [.lst ds]) := s1'.live ⟨xs, h1, r.live⟩ nM s.tM
      have e2 : Ext L M H (L' ++ [a]) H' := ⟨e1.pre.trans (List.prefix_append _ _), fun b o q t n => by
        obtain ⟨q1, q2⟩ := e1.keep b o q t n
        refine ⟨q1, fun z => ?_⟩
        rcases List.mem_append.mp z with z | z
        · exact q2 z
        · rw [List.mem_singleton.mp z] at q; exact h0 o q t⟩
      refine h (.ref a) (L' ++ [a]) H' e2 s2 ⟨s1.length, a, rfl, rfl, ?_⟩
      rw [← s1'.len, List.getElem?_append_right (Nat.le_refl _), Nat.sub_self]
      rfl
end
end Fl
/-! Fl3: statements. -/
namespace Fl
open PySem PySem.Spec PyProof.Rows L2

inductive S where
  | nx (ρ : Env) (s : Sto)
  | ret (d : D) (s : Sto)
  | brk (ρ : Env) (s : Sto)
  | cnt (ρ : Env) (s : Sto)
  | exc (c : Nat) (s : Sto)
  | bad
abbrev St' := Env → Sto → S
abbrev Tg := D → Env → Sto → R Env
@[simp] def R.bindS {α : Type} (r : R α) (f : α → Sto → S) : S := match r with
  | .ok a s => f a s
  | .exc c s => .exc c s
  | .bad => .bad
@[simp] def S.thn (r : S) (f : Env → Sto → S) : S := match r with
  | .nx ρ s => f ρ s
  | .ret d s => .ret d s
  | .brk ρ s => .brk ρ s
  | .cnt ρ s => .cnt ρ s
  | .exc c s => .exc c s
  | .bad => .bad
/-- names that nobody asks for are forgotten -/
def wp (ks : List Nat) (ρ : Env) : Env := ks.foldl (fun r i => r.set i none) ρ
/-- behind a turn: go on, leave, or hand on -/
@[simp] def S.turn (r : S) (ks : List Nat) (f : Env → Sto → S) : S := match r with
  | .nx ρ s => f (wp ks ρ) s
  | .cnt ρ s => f (wp ks ρ) s
  | .brk ρ s => .nx (wp ks ρ) s
  | .ret d s => .ret d s
  | .exc c s => .exc c s
  | .bad => .bad
def sNx : St' := fun ρ st => .nx ρ st
def sSeq (a b : St') : St' := fun ρ st => (a ρ st).thn b
def sIf (c : ExB) (a b : St') : St' := fun ρ st => (c ρ st).bindS fun k s1 => if k = true then a ρ s1 else b ρ s1
def sExpr (e : Ex) : St' := fun ρ st => (e ρ st).bindS fun _ s1 => .nx ρ s1
def sRet (e : Ex) : St' := fun ρ st => (e ρ st).bindS fun d s1 => .ret d s1
def sRetN : St' := fun ρ st => .ret .none st
def sAsg (e : Ex) (g : Tg) : St' := fun ρ st => (e ρ st).bindS fun d s1 => (g d ρ s1).bindS fun ρ' s2 => .nx ρ' s2
def sBrk : St' := fun ρ st => .brk ρ st
def sCnt : St' := fun ρ st => .cnt ρ st
def sAug (i : Nat) (op : O2) (e : Ex) : St' := fun ρ st => (eV i ρ st).bindS fun x _ => (e ρ st).bindS fun y s1 => (ofO (op x y s1)).bindS fun z s2 => .nx (ρ.set i (some z)) s2
def gN (i : Nat) : Tg := fun d ρ st => .ok (ρ.set i (some d)) st
def gsNil : List D → Env → Sto → R Env := fun ds ρ st => if ds.isEmpty then .ok ρ st else .bad
def gsCons (g : Tg) (gs : List D → Env → Sto → R Env) : List D → Env → Sto → R Env := fun ds ρ st => match ds with
  | d :: r => (g d ρ st).bind fun ρ' s1 => gs r ρ' s1
  | [] => .bad
def gTp (gs : List D → Env → Sto → R Env) : Tg := fun d ρ st => match d with
  | .tuple ds => gs ds ρ st
  | _ => .bad
def gLs (gs : List D → Env → Sto → R Env) : Tg := fun d ρ st => match listOf st d with
  | some ds => gs ds ρ st
  | _ => .bad
abbrev O3 := D → D → D → Sto → Option Sto
def gIx (op : O3) (o i : Ex) : Tg := fun d ρ st => (o ρ st).bind fun x s1 => (i ρ s1).bind fun y s2 => match op x y d s2 with
  | some s3 => .ok ρ s3
  | none => .bad
abbrev ExI := Env → Sto → R (List D × (Sto → Prop))
open Classical in
noncomputable def forL (src : Sto → Prop) (ks : List Nat) (tg : Tg) (body : St') : List D → St'
  | [], ρ, st => if src st then .nx ρ st else .bad
  | d :: ds, ρ, st => if src st then (tg d ρ st).bindS fun ρ1 s1 => (body ρ1 s1).turn ks fun ρ2 s2 => forL src ks tg body ds ρ2 s2 else .bad
noncomputable def sFor (it : ExI) (ks : List Nat) (tg : Tg) (body : St') : St' := fun ρ st => (it ρ st).bindS fun p s1 => forL p.2 ks tg body p.1 (wp ks ρ) s1
def whileL (ks : List Nat) (c : ExB) (body : St') : Nat → St'
  | 0, _, _ => .bad
  | n + 1, ρ, st => (c ρ st).bindS fun k s1 => if k = true then (body ρ s1).turn ks fun ρ2 s2 => whileL ks c body n ρ2 s2 else .nx ρ s1
def sWhile (n : Nat) (ks : List Nat) (c : ExB) (body : St') : St' := fun ρ st => whileL ks c body n (wp ks ρ) st
theorem wp_length (ks : List Nat) : ∀ ρ : Env, (wp ks ρ).length = ρ.length := by
  induction ks with
  | nil => intro ρ; rfl
  | cons k ks ih => intro ρ; show (wp ks (ρ.set k none)).length = _; rw [ih]; simp
theorem wp_some (ks : List Nat) : ∀ (ρ : Env) (i : Nat) d, (wp ks ρ)[i]? = some (some d) → ρ[i]? = some (some d) := by
  induction ks with
  | nil => intro ρ i d h; exact h
  | cons k ks ih =>
    intro ρ i d h
    have h1 := ih (ρ.set k none) i d h
    by_cases hk : k = i
    · subst hk
      by_cases hl : k < ρ.length
      · rw [List.getElem?_set_self hl] at h1; cases h1
      · rw [List.getElem?_eq_none (by simpa using hl)] at h1; cases h1
    · rw [List.getElem?_set_ne hk] at h1; exact h1
section
variable {K : PySem.W.Frag} {T : List (Addr × Str)} {L M L' M' : List Addr} {H H' : Hp} {st : Sto} {WE : Nat → Hp → Prop}
theorem ERel.wp {σ : L2.St} {ρ : Env} (e : ERel K L M H σ ρ) (ks : List Nat) : ERel K L M H σ (Fl.wp ks ρ) := e.weak (wp_length ks ρ) fun i d h => wp_some ks ρ i d h
variable (K T) in
def PoS (L M : List Addr) (H : Hp) (r : S) (WE : Nat → Hp → Prop) (D : Ends) : Prop := match r with
  | .nx ρ' st' => ∀ σ' L' H', Ext L M H L' H' → SRel K T L' M H' st' → ERel K L' M H' σ' ρ' → D.nx σ' H'
  | .brk ρ' st' => ∀ σ' L' H', Ext L M H L' H' → SRel K T L' M H' st' → ERel K L' M H' σ' ρ' → D.bk σ' H'
  | .cnt ρ' st' => ∀ σ' L' H', Ext L M H L' H' → SRel K T L' M H' st' → ERel K L' M H' σ' ρ' → D.ct σ' H'
  | .ret d st' => ∀ v L' H', Ext L M H L' H' → SRel K T L' M H' st' → Rep K L' M H' d v → D.rt v H'
  | .exc c st' => ∀ L' H', Ext L M H L' H' → SRel K T L' M H' st' → WE c H'
  | .bad => False
variable (K T) in
def sF (WE : Nat → Hp → Prop) (G : St') : TS := fun D σ H => ∃ L M ρ st, SRel K T L M H st ∧ ERel K L M H σ ρ ∧ PoS K T L M H (G ρ st) WE D
theorem PoS.ext {r : S} {D : Ends} (e : Ext L M H L' H') (h : PoS K T L M H r WE D) : PoS K T L' M H' r WE D := by
  cases r with
  | nx => exact fun a b c e2 s2 r2 => h a b c (e.trans e2) s2 r2
  | brk => exact fun a b c e2 s2 r2 => h a b c (e.trans e2) s2 r2
  | cnt => exact fun a b c e2 s2 r2 => h a b c (e.trans e2) s2 r2
  | ret => exact fun a b c e2 s2 r2 => h a b c (e.trans e2) s2 r2
  | exc => exact fun b c e2 s2 => h b c (e.trans e2) s2
  | bad => exact h
theorem tG.bindS {α β : Type} {RV : List Addr → List Addr → Hp → α → β → Prop} {F : Env → Sto → R α} {G : α → Sto → S} {D : Ends} {Q1 : β → Hp → Prop} {σ : L2.St} {ρ : Env} (s : SRel K T L M H st) (e : ERel K L M H σ ρ)
    (h : PoS K T L M H ((F ρ st).bindS G) WE D)
    (k : ∀ a st1 x L1 H1, F ρ st = .ok a st1 → Ext L M H L1 H1 → SRel K T L1 M H1 st1 → ERel K L1 M H1 σ ρ → RV L1 M H1 a x → PoS K T L1 M H1 (G a st1) WE D → Q1 x H1) : tG K T RV WE F σ H Q1 := by
  refine ⟨L, M, ρ, st, s, e, ?_⟩
  cases hF : F ρ st with
  | ok a st1 =>
    rw [hF] at h
    exact fun v L1 H1 e1 s1 r1 => k a st1 v L1 H1 hF e1 s1 (e.ext e1) r1 (PoS.ext e1 h)
  | exc c st1 => rw [hF] at h; exact h
  | bad => rw [hF] at h; exact h
/-- a target -/
abbrev RVE (K : PySem.W.Frag) : List Addr → List Addr → Hp → Env → L2.St → Prop := fun L M H ρ σ => ERel K L M H σ ρ
variable (K T) in
def gF (WE : Nat → Hp → Prop) (G : Tg) : TG := fun v σ H Q => ∃ L M ρ st d, SRel K T L M H st ∧ ERel K L M H σ ρ ∧ Rep K L M H d v ∧ Po K T (RVE K) L M H (G d ρ st) WE Q
variable (K T) in
def gsF (WE : Nat → Hp → Prop) (G : List D → Env → Sto → R Env) : TGs := fun vs σ H Q => ∃ L M ρ st ds, SRel K T L M H st ∧ ERel K L M H σ ρ ∧ RepL K L M H ds vs ∧ Po K T (RVE K) L M H (G ds ρ st) WE Q
end
section
variable {X : Cx} {T : List (Addr × Str)} {L M : List Addr} {H : Hp} {st : Sto} {WE : Nat → Hp → Prop}
variable {e a b c : Expr} {pos : Pos} {Fa Fb Fc : Ex} {Ba Bb : ExB} {La : ExL} {s1 s2 : Stmt} {ss : List Stmt} {Ga Gb : St'} {Tg1 : Tg} {Tgs : List D → Env → Sto → R Env}
theorem PG.w {X : Cx} {e : Expr} {t t' : TG} (h : PG X e t) (i : ∀ v σ H Q, t' v σ H Q → t v σ H Q) : PG X e t' := ⟨fun pins s σ H v u Q I r q => h.run pins s σ H v u Q I r (i v σ H Q q)⟩
theorem PGs.w {X : Cx} {e : List Expr} {t t' : TGs} (h : PGs X e t) (i : ∀ v σ H Q, t' v σ H Q → t v σ H Q) : PGs X e t' := ⟨fun pins s σ H v u Q I r q => h.run pins s σ H v u Q I r (i v σ H Q q)⟩
theorem fss_nil : PSs X [] (sF X.K T WE sNx) := PSs.w pss_nil fun D σ H ⟨L, M, ρ, st, s, e, h⟩ => h σ L H Ext.refl s e
theorem fss_one (h : PS X s1 (sF X.K T WE Ga)) : PSs X [s1] (sF X.K T WE Ga) := pss_one h
theorem fss_cons (h1 : PS X s1 (sF X.K T WE Ga)) (h2 : PSs X ss (sF X.K T WE Gb)) : PSs X (s1 :: ss) (sF X.K T WE (sSeq Ga Gb)) :=
  PSs.w (pss_cons h1 h2) fun D σ H ⟨L, M, ρ, st, s, e, h⟩ => by
    refine ⟨L, M, ρ, st, s, e, ?_⟩
    unfold sSeq at h
    cases hG : Ga ρ st with
    | nx ρ1 st1 =>
      rw [hG] at h
      exact fun σ' L' H' e1 s1 r1 => ⟨L', M, ρ1, st1, s1, r1, PoS.ext e1 h⟩
    | _ => rw [hG] at h; exact h
theorem fs_pass : PS X (.Pass pos) (sF X.K T WE sNx) := PS.w ps_pass fun D σ H ⟨L, M, ρ, st, s, e, h⟩ => h σ L H Ext.refl s e
theorem fs_brk : PS X (.Break pos) (sF X.K T WE sBrk) := PS.w ps_break fun D σ H ⟨L, M, ρ, st, s, e, h⟩ => h σ L H Ext.refl s e
theorem fs_cnt : PS X (.Continue pos) (sF X.K T WE sCnt) := PS.w ps_continue fun D σ H ⟨L, M, ρ, st, s, e, h⟩ => h σ L H Ext.refl s e
theorem fs_expr (he : PE X e (tF X.K T WE Fa)) (hs : swapsWith e none pos.line X.env = pure false := by rfl) : PS X (.Expr e pos) (sF X.K T WE (sExpr Fa)) :=
  PS.w (ps_expr he hs) fun D σ H ⟨L, M, ρ, st, s, e, h⟩ => tG.bindS s e h fun x s1 vx L1 H1 _ _ sr er rx h1 => h1 σ L1 H1 Ext.refl sr er
theorem fs_ret (he : PE X e (tF X.K T WE Fa)) : PS X (.Return (some e) pos) (sF X.K T WE (sRet Fa)) :=
  PS.w (ps_ret he) fun D σ H ⟨L, M, ρ, st, s, e, h⟩ => tG.bindS s e h fun x s1 vx L1 H1 _ _ sr er rx h1 => h1 vx L1 H1 Ext.refl sr rx
theorem fs_retN : PS X (.Return none pos) (sF X.K T WE sRetN) := PS.w ps_retN fun D σ H ⟨L, M, ρ, st, s, e, h⟩ => h .non L H Ext.refl s rfl
theorem fs_if {sa sb : List Stmt} (hc : PT X c (tT X.K T WE Ba)) (ha : PSs X sa (sF X.K T WE Ga)) (hb : PSs X sb (sF X.K T WE Gb)) : PS X (.If c sa sb pos) (sF X.K T WE (sIf Ba Ga Gb)) :=
  PS.w (ps_if hc ha hb) fun D σ H ⟨L, M, ρ, st, s, e, h⟩ => tG.bindS s e h fun x s1 vx L1 H1 _ _ sr er rx h1 => by
    cases rx
    cases x with
    | true => exact ⟨_, _, _, _, sr, er, h1⟩
    | false => exact ⟨_, _, _, _, sr, er, h1⟩
theorem fg_name {i : Nat} {x : Str} (hN : X.N.Nodup) (hi : X.N[i]? = some x) (hx : Loc X.env.scope x) (hf : X.fn x = true ∨ X.env.scope.names.lookup x = some .local := by first | exact .inl rfl | exact .inr rfl | assumption) : PG X (.Name x pos) (gF X.K T WE (gN i)) :=
  PG.w (pg_name hN hi hx hf) fun v σ H Q ⟨L, M, ρ, st, d, s, e, r, h⟩ => h _ L H Ext.refl s (e.set r i)
theorem fgs_nil : PGs X [] (gsF X.K T WE gsNil) := PGs.w pgs_nil fun vs σ H Q ⟨L, M, ρ, st, ds, s, e, r, h⟩ => by
  unfold gsNil at h
  cases ds with
  | nil => exact ⟨r, h σ L H Ext.refl s e⟩
  | cons d ds => exact h.elim
theorem fgs_cons {es : List Expr} (h1 : PG X e (gF X.K T WE Tg1)) (h2 : PGs X es (gsF X.K T WE Tgs)) (hs : (assignEach (e :: es) X.env).map (·.2) = assign e X.env :: (assignEach es X.env).map (·.2) := by rfl) : PGs X (e :: es) (gsF X.K T WE (gsCons Tg1 Tgs)) :=
  PGs.w (pgs_cons h1 h2 hs) fun vs σ H Q ⟨L, M, ρ, st, ds, s, e, r, h⟩ => by
    unfold gsCons at h
    cases ds with
    | nil => exact h.elim
    | cons d ds =>
      obtain ⟨x, xs, rfl, r1, r2⟩ := r
      refine ⟨x, xs, rfl, L, M, ρ, st, d, s, e, r1, ?_⟩
      simp only at h
      cases hG : Tg1 d ρ st with
      | ok ρ1 st1 =>
        rw [hG] at h
        exact fun σ' L' H' e1 s1 r3 => ⟨L', M, ρ1, st1, ds, s1, r3, r2.ext e1, Po.ext e1 h⟩
      | exc c st1 => rw [hG] at h; exact h
      | bad => rw [hG] at h; exact h
/-- the length is asked by the rule below -/
def gLen (n : Nat) (gs : List D → Env → Sto → R Env) : List D → Env → Sto → R Env := fun ds ρ st => if ds.length = n then gs ds ρ st else .bad
theorem fg_tup {es : List Expr} {k : Nat} {n : Nat} (hc : X.calm = true) (h : PGs X es (gsF X.K T WE Tgs))
    (hn : (assignEach es X.env).length = n := by rfl) (hst : (assignEach es X.env).findIdx? (·.1) = none := by rfl) : PG X (.Tuple es k pos) (gF X.K T WE (gTp (gLen n Tgs))) :=
  PG.w (pg_tup hc h hn hst) fun v σ H Q ⟨L, M, ρ, st, d, s, e, r, h⟩ => by
    unfold gTp gLen at h
    cases d with
    | tuple ds =>
      obtain ⟨a, xs, rfl, h1, h2⟩ := r
      dsimp only at h
      split at h
      · rename_i hl
        exact ⟨a, xs, rfl, h1.sq, by rw [← h2.length]; exact hl, L, M, ρ, st, ds, s, e, h2, h⟩
      · exact h.elim
    | _ => exact h.elim
theorem fg_lst {es : List Expr} {k : Nat} {n : Nat} (hc : X.calm = true) (h : PGs X es (gsF X.K T WE Tgs))
    (hn : (assignEach es X.env).length = n := by rfl) (hst : (assignEach es X.env).findIdx? (·.1) = none := by rfl) : PG X (.Tuple es k pos) (gF X.K T WE (gLs (gLen n Tgs))) :=
  PG.w (pg_lst hc h hn hst) fun v σ H Q ⟨L, M, ρ, st, d, s, e, r, h⟩ => by
    unfold gLs gLen at h
    split at h
    · rename_i ds hd
      obtain ⟨a, xs, rfl, h1, h2⟩ := listOf_ok s r hd
      split at h
      · rename_i hl
        exact ⟨a, xs, rfl, h1, by rw [← h2.length]; exact hl, L, M, ρ, st, ds, s, e, h2, h⟩
      · exact h.elim
    · exact h.elim
/-- o[i] = v by values -/
def r3 (K : PySem.W.Frag) (T : List (Addr × Str)) (op : O3) : TSet := fun o i v H Q => ∃ L M st d k y, SRel K T L M H st ∧ Rep K L M H d o ∧ Rep K L M H k i ∧ Rep K L M H y v ∧ match op d k y st with
  | some st' => ∀ L' H', Ext L M H L' H' → SRel K T L' M H' st' → Q H'
  | none => False
theorem fg_sub {o i : Expr} {op : O3} (ho : PE X o (tF X.K T WE Fa)) (hi : PE X i (tF X.K T WE Fb)) (hs : PSet X (r3 X.K T op))
    (ha : ∀ v, assign (.Subscript o i pos) X.env v = (do
      let ov ← holding [v] (eval o X.env)
      let iv ← holding [v, ov] (eval i X.env)
      standAt pos
      holding [v, ov, iv] (setItem ov iv v)
      release [v, ov, iv] []) := by intro _; rfl) : PG X (.Subscript o i pos) (gF X.K T WE (gIx op Fa Fb)) :=
  PG.w (pg_sub ho hi hs ha) fun v σ H Q ⟨L, M, ρ, st, d, s, e, r, h⟩ => by
    unfold gIx at h
    refine tG.bind s e h fun x s1 vx L1 H1 _ e1 sr er rx h1 => ?_
    refine tG.bind sr er h1 fun y s2 vy L2 H2 _ e2 sr2 er2 ry h2 => ?_
    refine ⟨L2, M, s2, x, y, d, sr2, rx.ext e2, ry, (r.ext e1).ext e2, ?_⟩
    cases q : op x y d s2 with
    | none => rw [q] at h2; exact h2.elim
    | some s3 =>
      rw [q] at h2
      exact fun L' H' e3 s3' => h2 σ L' H' e3 s3' (er2.ext e3)
theorem fs_asg {tg : Expr} (he : PE X e (tF X.K T WE Fa)) (hg : PG X tg (gF X.K T WE Tg1)) (hs : swapsWithSole [tg] e pos.line X.env = pure false := by rfl) (hw : swappedStores [tg] e X.env = pure none := by rfl)
    (h1 : (assignEach [tg] X.env).map (·.2) = [assign tg X.env] := by rfl) : PS X (.Assign [tg] e pos) (sF X.K T WE (sAsg Fa Tg1)) :=
  PS.w (ps_asg he hg hs hw h1) fun D σ H ⟨L, M, ρ, st, s, e, h⟩ => tG.bindS s e h fun x s1 vx L1 H1 _ _ sr er rx h1 => by
    refine ⟨L1, M, ρ, s1, x, sr, er, rx, ?_⟩
    cases hG : Tg1 x ρ s1 with
    | ok ρ1 st1 =>
      rw [hG] at h1
      exact fun σ' L' H' e1 s1 r3 => h1 σ' L' H' e1 s1 r3
    | exc c st1 => rw [hG] at h1; exact h1
    | bad => rw [hG] at h1; exact h1
theorem fs_set {i : Nat} {x : Str} {pos' : Pos} (hN : X.N.Nodup) (hi : X.N[i]? = some x) (hx : Loc X.env.scope x) (he : PE X e (tF X.K T WE Fa)) (hs : swapsWith e (some (.Name x pos')) pos.line X.env = pure false := by rfl) (hf : X.fn x = true ∨ X.env.scope.names.lookup x = some .local := by first | exact .inl rfl | exact .inr rfl | assumption) :
    PS X (.Assign [.Name x pos'] e pos) (sF X.K T WE (sAsg Fa (gN i))) :=
  PS.w (ps_set hN hi hx he hs hf) fun D σ H ⟨L, M, ρ, st, s, e, h⟩ => tG.bindS s e h fun x s1 vx L1 H1 _ _ sr er rx h1 => h1 _ L1 H1 Ext.refl sr (er.set rx i)
/-- a, b = e1, e2 of two names -/
def sPar (i j : Nat) (a b : Ex) : St' := fun ρ st => (a ρ st).bindS fun x s1 => (b ρ s1).bindS fun y s2 => .nx ((ρ.set i (some x)).set j (some y)) s2
def ePair : ExL → Nat → Nat → St' := fun as i j ρ st => (as ρ st).bindS fun xs s1 => match xs with
  | [x, y] => .nx ((ρ.set i (some x)).set j (some y)) s1
  | _ => .bad
theorem fs_par {i j : Nat} {x y : Str} {px py pt : Pos} {kt k2 pt2} (hc : X.calm = true) (hN : X.N.Nodup) (hi : X.N[i]? = some x) (hj : X.N[j]? = some y) (hij : i ≠ j)
    (hx : X.env.scope.names.lookup x = some .local) (hy : X.env.scope.names.lookup y = some .local) (ha : PA X [a, b] (tFA X.K T WE La))
    (hw : swappedStores [.Tuple [.Name x px, .Name y py] kt pt] (.Tuple [a, b] k2 pt2) X.env = pure (some [x, y]))
    (hs : swapsWithSole [.Tuple [.Name x px, .Name y py] kt pt] (.Tuple [a, b] k2 pt2) pos.line X.env = pure false := by rfl) :
    PS X (.Assign [.Tuple [.Name x px, .Name y py] kt pt] (.Tuple [a, b] k2 pt2) pos) (sF X.K T WE (ePair La i j)) :=
  PS.w (ps_par hc hN hi hj hij hx hy ha hw hs) fun D σ H ⟨L, M, ρ, st, s, e, h⟩ => tG.bindS s e h fun x s1 vx L1 H1 _ _ sr er rx h1 => by
    cases x with
    | nil => exact h1.elim
    | cons x xs => cases xs with
      | nil => exact h1.elim
      | cons y ys => cases ys with
        | cons _ _ => exact h1.elim
        | nil =>
          obtain ⟨v, r, rfl, r1, r2⟩ := rx
          obtain ⟨w, r', rfl, r3, r4⟩ := r2
          cases (show r' = [] from r4)
          exact ⟨v, w, rfl, h1 _ L1 H1 Ext.refl sr ((er.set r1 i).set r3 j)⟩
theorem fs_aug {i : Nat} {x : Str} {op : Operator} {o : O2} {pos' : Pos} (hN : X.N.Nodup) (hi : X.N[i]? = some x) (hx : Loc X.env.scope x) (he : PE X e (tF X.K T WE Fa)) (ho : PIp X op (r2 X.K T o)) (hf : X.fn x = true ∨ X.env.scope.names.lookup x = some .local := by first | exact .inl rfl | exact .inr rfl | assumption) :
    PS X (.AugAssign (.Name x pos') op e pos) (sF X.K T WE (sAug i o Fa)) :=
  PS.w (ps_aug hN hi hx he ho hf) fun D σ H ⟨L, M, ρ, st, s, e, h⟩ => by
    unfold sAug at h
    have hv : ∀ d, ρ[i]? = some (some d) → eV i ρ st = .ok d st := fun d q => by unfold eV; rw [q]
    cases q : ρ[i]? with
    | none =>
      have : eV i ρ st = .bad := by unfold eV; rw [q]
      rw [this] at h; exact h.elim
    | some o => cases o with
      | none =>
        have : eV i ρ st = .bad := by unfold eV; rw [q]
        rw [this] at h; exact h.elim
      | some d =>
        rw [hv d q] at h
        obtain ⟨v, h1, h2⟩ := e.at_ i d q
        refine ⟨v, h1, tG.bindS s e h fun y s1 vy L1 H1 _ e1 sr er ry h3 => ⟨L1, M, s1, d, y, sr, h2.ext e1, ry, ?_⟩⟩
        cases ho : o d y s1 with
        | none => rw [ho] at h3; exact h3
        | some p =>
          rw [ho] at h3
          exact fun z L2 H2 e2 s2 rz => h3 _ L2 H2 e2 s2 ((er.ext e2).set rz i)
theorem fs_while {n : Nat} {ks : List Nat} {body : List Stmt} (hp : PassesOwn (model X.prog X.w) X.A X.env X.xe) (hc : PT X c (tT X.K T WE Ba)) (hb : PSs X body (sF X.K T WE Ga)) : PS X (.While c body [] pos) (sF X.K T WE (sWhile n ks Ba Ga)) :=
  PS.w (ps_while hp hc hb) fun D σ H ⟨L, M, ρ, st, s, e, h⟩ => by
    refine ⟨fun m σ' H' => ∃ L' ρ' st', Ext L M H L' H' ∧ SRel X.K T L' M H' st' ∧ ERel X.K L' M H' σ' ρ' ∧ PoS X.K T L' M H' (whileL ks Ba Ga m ρ' st') WE D, ⟨n, L, _, st, Ext.refl, s, e.wp ks, h⟩, ?_⟩
    rintro m σ' H' ⟨L', ρ', st', e1, s1, r1, h1⟩
    cases m with
    | zero => exact h1.elim
    | succ m =>
      refine tG.bindS s1 r1 h1 fun x s2 vx L2 H2 _ e2 sr er rx h2 => ?_
      cases rx
      cases x with
      | false => exact h2 σ' L2 H2 Ext.refl sr er
      | true =>
        have h2' : PoS X.K T L2 M H2 ((Ga ρ' s2).turn ks fun ρ2 s2 => whileL ks Ba Ga m ρ2 s2) WE D := h2
        refine ⟨fun σ3 H3 => ∃ L3 ρ3 st3, Ext L M H L3 H3 ∧ SRel X.K T L3 M H3 st3 ∧ ERel X.K L3 M H3 σ3 ρ3 ∧ PoS X.K T L3 M H3 (whileL ks Ba Ga m ρ3 st3) WE D, fun σ3 H3 z => ⟨m, Nat.lt_succ_self m, z⟩, L2, M, ρ', s2, sr, er, ?_⟩
        cases hG : Ga ρ' s2 with
        | nx ρ3 s3 => rw [hG] at h2'; exact fun σ4 L4 H4 e4 s4 r4 => ⟨L4, _, s3, (e1.trans e2).trans e4, s4, r4.wp ks, PoS.ext e4 h2'⟩
        | cnt ρ3 s3 => rw [hG] at h2'; exact fun σ4 L4 H4 e4 s4 r4 => ⟨L4, _, s3, (e1.trans e2).trans e4, s4, r4.wp ks, PoS.ext e4 h2'⟩
        | brk ρ3 s3 => rw [hG] at h2'; exact fun σ4 L4 H4 e4 s4 r4 => h2' σ4 L4 H4 e4 s4 (r4.wp ks)
        | ret d s3 => rw [hG] at h2'; exact h2'
        | exc c s3 => rw [hG] at h2'; exact h2'
        | bad => rw [hG] at h2'; exact h2'
/-! ### for -/
/-- an iterator that gives these items, as long as its source stays -/
def ItOk (K : PySem.W.Frag) (T : List (Addr × Str)) (J : It) (items : List D) (src : Sto → Prop) (L M : List Addr) (H : Hp) : Prop :=
  ∀ (i : Nat) M1 L1 H1 st1, GOk H M M1 → Ext L M1 H L1 H1 → SRel K T L1 M1 H1 st1 → src st1 →
    (∀ d, items[i]? = some d → J.go i H1 ∧ ∀ x H2, J.yld i H1 x H2 → Ext L1 M1 H1 L1 H2 ∧ SRel K T L1 M1 H2 st1 ∧ Rep K L1 M1 H2 d x) ∧ (i = items.length → J.stop i H1)
def iF (K : PySem.W.Frag) (T : List (Addr × Str)) (WE : Nat → Hp → Prop) (F : ExI) : TI := fun σ H Rr => ∃ L M ρ st, SRel K T L M H st ∧ ERel K L M H σ ρ ∧ match F ρ st with
  | .ok p st' => ∀ J L' H', Ext L M H L' H' → SRel K T L' M H' st' → ItOk K T J p.1 p.2 L' M H' → Rr J H'
  | .exc c st' => ∀ L' H', Ext L M H L' H' → SRel K T L' M H' st' → WE c H'
  | .bad => False
theorem fs_for {tg iter : Expr} {It : ExI} {ks : List Nat} {body : List Stmt} (hp : PassesOwn (model X.prog X.w) X.A X.env X.xe) (hc : X.calm = true) (hi : PI X tg iter (iF X.K T WE It)) (hg : PG X tg (gF X.K T WE Tg1)) (hb : PSs X body (sF X.K T WE Ga)) (hs : ∀ x, foldedSetIterable iter X.env x = pure x := by intro _; rfl) :
    PS X (.For tg iter body [] pos) (sF X.K T WE (sFor It ks Tg1 Ga)) :=
  PS.w (ps_for hp hc hi hg hb hs) fun D σ H ⟨L, M, ρ, st, s, e, h⟩ => by
    refine ⟨L, M, ρ, st, s, e, ?_⟩
    unfold sFor at h
    cases hI : It ρ st with
    | bad => rw [hI] at h; exact h
    | exc c st1 => rw [hI] at h; exact h
    | ok p st0 =>
      rw [hI] at h
      obtain ⟨all, src⟩ := p
      intro J L0 H0 e0 s0 J0
      have h0 : PoS X.K T L0 M H0 (forL src ks Tg1 Ga all (wp ks ρ) st0) WE D := PoS.ext e0 h
      refine ⟨fun i m σ' H' => ∃ L' ρ' st', i + m = all.length ∧ Ext L0 M H0 L' H' ∧ SRel X.K T L' M H' st' ∧ ERel X.K L' M H' σ' ρ' ∧ PoS X.K T L' M H' (forL src ks Tg1 Ga (all.drop i) ρ' st') WE D, ⟨all.length, L0, _, st0, by omega, Ext.refl, s0, (e.ext e0).wp ks, h0⟩, ?_⟩
      rintro i m σ' H' ⟨L', ρ', st', him, e1, s1, r1, h1⟩
      by_cases hi : i < all.length
      · rw [List.drop_eq_getElem_cons hi] at h1
        unfold forL at h1
        split at h1
        · rename_i hsrc
          obtain ⟨hgo, hyl⟩ := (J0 i M L' H' st' (fun _ _ _ _ z => z) e1 s1 hsrc).1 all[i] (List.getElem?_eq_getElem hi)
          refine .inr ⟨hgo, fun σ3 H3 => ∃ L3 ρ3 st3, (i + 1) + (m - 1) = all.length ∧ Ext L0 M H0 L3 H3 ∧ SRel X.K T L3 M H3 st3 ∧ ERel X.K L3 M H3 σ3 ρ3 ∧ PoS X.K T L3 M H3 (forL src ks Tg1 Ga (all.drop (i + 1)) ρ3 st3) WE D, fun σ3 H3 z => ⟨m - 1, by omega, z⟩, fun x H2 hy => ?_⟩
          obtain ⟨e2, s2, r2⟩ := hyl x H2 hy
          refine ⟨L', M, ρ', st', all[i], s2, r1.ext e2, r2, ?_⟩
          have h2 := PoS.ext e2 h1
          cases hT : Tg1 all[i] ρ' st' with
          | bad => rw [hT] at h2; exact h2
          | exc c s3 => rw [hT] at h2; exact h2
          | ok ρ3 s3 =>
            rw [hT] at h2
            intro σ4 L4 H4 e4 s4 r4
            refine ⟨L4, M, ρ3, s3, s4, r4, ?_⟩
            have h4 := PoS.ext e4 h2
            simp only [R.bindS] at h4
            have eB := (e1.trans e2).trans e4
            have e5 : (i + 1) + (m - 1) = all.length := by omega
            cases hG : Ga ρ3 s3 with
            | nx ρ5 s5 => rw [hG] at h4; exact fun σ5 L5 H5 e5' s5' r5 => ⟨L5, _, s5, e5, eB.trans e5', s5', r5.wp ks, PoS.ext e5' h4⟩
            | cnt ρ5 s5 => rw [hG] at h4; exact fun σ5 L5 H5 e5' s5' r5 => ⟨L5, _, s5, e5, eB.trans e5', s5', r5.wp ks, PoS.ext e5' h4⟩
            | brk ρ5 s5 => rw [hG] at h4; exact fun σ5 L5 H5 e5' s5' r5 => h4 σ5 L5 H5 e5' s5' (r5.wp ks)
            | ret d s5 => rw [hG] at h4; exact h4
            | exc c s5 => rw [hG] at h4; exact h4
            | bad => rw [hG] at h4; exact h4
        · exact h1.elim
      · rw [List.drop_eq_nil_of_le (by omega)] at h1
        unfold forL at h1
        split at h1
        · rename_i hsrc
          exact .inl ⟨(J0 i M L' H' st' (fun _ _ _ _ z => z) e1 s1 hsrc).2 (by show i = all.length; omega), h1 σ' L' H' Ext.refl s1 r1⟩
        · exact h1.elim
end
end Fl
/-! Fl4: defs, calls, errors; what a def leaves behind is let go. -/
namespace Fl
open PySem PySem.Spec PyProof.Rows L2

/-! ### errors -/
theorem pmk_own0 {X : Cx} {C : Addr} {bmB : List Value} {B newId initId : String} {x : Str} {p pos : Pos} (F : ExcBaseFacts B newId initId bmB) (q : PySem.W.excIn X.K C bmB newId = true) (gC : X.mg x = some (.ref C)) (kC : PySem.W.keepIn X.K (.ref C) = true) (r : Raises X (.ref C)) (hg : Gl X x)
    (hdb : (x == ("__debug__" : Str)) = false := by decide) : PMk X (.Call (.Name x p) [] [] pos) (fun _ H Q => Q (.ref C) none H) := by
  intro pins s σ H Q I h
  refine wpAny_Call_Name_kw (ld_glob I hg gC ?_ hdb)
  refine PySem.W.callWith_K0 I.kIn kC ?_
  show wpAny _ _ (call (.ref C) []) _ _ _
  obtain ⟨bm, N, nm, qn, bs, hdct, sn, sub, ab, col, dd, k0, k1, k2, k3, k5, mN, hC, hN, hni, T⟩ := exc_obj I.kIn q
  refine wpAny_call_exc_subT F T hC hN hni (fun h' e hm => ?_) (Nat.zero_le _)
  exact mk_of I hm r h (I.hok.gone hm.new)
/-- an own error's class, as it stands -/
structure ExcF (K : PySem.W.Frag) (mg : Str → Option Value) (x : Str) (C : Addr) : Prop where
  q : PySem.W.excIn K C He.veBase "ValueError.__new__" = true
  g : mg x = some (.ref C)
  k : PySem.W.keepIn K (.ref C) = true
  s : PySem.W.subIn K (.ref C) (.type "BaseException") = some true
  t : PySem.W.typeIn K (.ref C) = some (.type "type")
def sExc (c : Nat) : St' := fun _ st => .exc c st
/-- the wish about errors is taken by the context -/
def Wok (X : Cx) (xc : Nat → Addr) (WE : Nat → Hp → Prop) (W : WX) : Prop := Takes X W ∧ ∀ c σ H, WE c H → W (.ref (xc c)) none σ H
section
variable {X : Cx} {T : List (Addr × Str)} {L M : List Addr} {H : Hp} {st : Sto} {WE : Nat → Hp → Prop} {xc : Nat → Addr} {W : WX}
theorem fs_raise {c : Nat} {x : Str} {p pos pos' : Pos} (hc : X.calm = true) (w : Wok X xc WE W) (F : ExcF X.K X.mg x (xc c)) (hg : Gl X x := by rfl) (hdb : (x == ("__debug__" : Str)) = false := by decide) :
    PS X (.Raise (some (.Call (.Name x p) [] [] pos)) none pos') (sF X.K T WE (sExc c)) :=
  PS.w (ps_raise hc w.1 (pmk_own0 PySem.F.excBase_ValueError F.q F.g F.k (raises_own F.s F.t) hg hdb)) fun D σ H ⟨L, M, ρ, st, s, e, h⟩ => w.2 c σ H (h L H Ext.refl s)
theorem Wok.none {X : Cx} : Wok X xc (fun _ _ => False) (fun _ _ _ _ => False) := ⟨L2.takes0, fun _ _ _ h => h⟩

/-! ### defs -/
def S.out : S → R D
  | .nx _ s => .ok .none s
  | .ret d s => .ok d s
  | .exc c s => .exc c s
  | _ => .bad
def fnF (n : Nat) (G : St') : List D → Sto → R D := fun ds st => (G (ds.map some ++ List.replicate (n - ds.length) none) st).out
/-- a def's promise -/
def spF (K : PySem.W.Frag) (T : List (Addr × Str)) (xc : Nat → Addr) (n : Nat) (F : List D → Sto → R D) : Sp := fun vs H Q E =>
  ∃ L M ds st, ds.length = n ∧ SRel K T L M H st ∧ RepL K L M H ds vs ∧ Po K T (Rep K) L M H (F ds st) (fun c H' => E (.ref (xc c)) none H') Q
theorem start_rel {K : PySem.W.Frag} {N : List Str} {ds : List D} {vs : List V} (r : RepL K L M H ds vs) (hn : ds.length ≤ N.length) : ERel K L M H (L2.start N vs) (ds.map some ++ List.replicate (N.length - ds.length) none) := by
  have hl := r.length
  have e : L2.start N vs = vs.map some ++ List.replicate (N.length - vs.length) none := by rfl
  rw [e]
  refine ⟨by simp; omega, fun i d q => ?_⟩
  by_cases hi : i < ds.length
  · rw [List.getElem?_append_left (by simpa using hi), List.getElem?_map] at q
    cases q2 : ds[i]? with
    | none => rw [q2] at q; cases q
    | some d' =>
      rw [q2] at q
      cases q
      obtain ⟨v, h1, h2⟩ := r.get q2
      exact ⟨v, by rw [List.getElem?_append_left (by rw [List.length_map, ← hl]; exact hi), List.getElem?_map, h1]; rfl, h2⟩
  · rw [List.getElem?_append_right (by simpa using hi)] at q
    obtain ⟨h1, h2⟩ := List.getElem?_eq_some_iff.mp q
    rw [List.getElem_replicate] at h2
    cases h2
theorem fn_fl {P : Program} {w : World} {K : PySem.W.Frag} {mg : Str → Option Value} {base : Heap} {x qual : Str} {st : Stmt} {f : Addr} {fd : FuncData} {N ps : List Str} {k : Nat} {G : St'} (F : Fun K x qual st f fd) (S : FnScope N ps (defScope st)) (hps : ps.length ≤ N.length)
    (hb : ∀ (cdv : Value) (A : Around) (outer : List PySem.Env) (s : Shared) (H : Hp) (E : XK), Room k (A.deeper (envOfC qual (defScope st) s.heap.objs.size f cdv)) →
      PSs (cxOf (L2.CX P w) P w K mg base N qual (defScope st) f cdv A outer s H E) (defBody st) (sF K T (fun c H' => E (.ref (xc c)) none H') G)) : FnOk P w K mg base (L2.CX P w) (k + 1) f fd ps (spF K T xc ps.length (fnF N.length G)) := by
  refine F.okX S (fun vs H Q E ⟨L, M, ds, st, hn, s, r, h⟩ => by rw [← r.length]; exact hn) (fun cdv A outer s H vs Q E hr ⟨L, M, ds, st0, hn, sr, r, h⟩ => ⟨_, hb cdv A outer s H E hr, ?_⟩)
  refine ⟨L, M, _, st0, sr, start_rel r (by omega), ?_⟩
  unfold fnF Fl.S.out at h
  split at h
  · rename_i ρ1 s1 q; rw [q]; exact fun σ' L' H' e1 s1 _ => h .non L' H' e1 s1 rfl
  · rename_i d s1 q; rw [q]; exact h
  · rename_i c s1 q; rw [q]; exact h
  · exact h.elim
/-- a wish of a def's body is taken -/
theorem wok_fn {P : Program} {w : World} {K : PySem.W.Frag} {mg : Str → Option Value} {base : Heap} {N : List Str} {qual : Str} {sc : Scope} {f : Addr} {cdv : Value} {A : Around} {outer : List PySem.Env} {s : Shared} {H : Hp} {E : XK} :
    Wok (cxOf (L2.CX P w) P w K mg base N qual sc f cdv A outer s H E) xc (fun c H' => E (.ref (xc c)) none H') (fun cls d _ H => E cls d H) := ⟨takes_of rfl rfl rfl rfl, fun _ _ _ h => h⟩

/-! ### calls -/
def eCall (n : Nat) (F : List D → Sto → R D) (as : ExL) : Ex := fun ρ st => (as ρ st).bind fun ds s1 => if ds.length = n then F ds s1 else .bad
theorem fe_call {k : Nat} {f : Addr} {fd : FuncData} {ps : List Str} {x : Str} {p pos : Pos} {e : Expr} {es : List Expr} {F : List D → Sto → R D} {La : ExL} (hF : FnOk X.prog X.w X.K X.mg X.base (L2.CX X.prog X.w) k f fd ps (spF X.K T xc ps.length F)) (w : Wok X xc WE W) (hr : Room k X.A) (hm : X.mg x = some (.ref f)) (hk : PySem.W.keepIn X.K (.ref f) = true) (hb : Binds X.K fd ps [])
    (ha : PA X (e :: es) (tFA X.K T WE La)) (hg : Gl X x := by rfl) (hdb : (x == ("__debug__" : Str)) = false := by decide) (he : starEach (e :: es) X.env = (false, eval e X.env) :: starEach es X.env := by rfl) (hpl : (backTo pos (starEach es X.env)).any (·.1) = false := by rfl) :
    PE X (.Call (.Name x p) (e :: es) [] pos) (tF X.K T WE (eCall ps.length F La)) :=
  PE.w (pe_callS hF hr hg hm hk hb (fun σ => passAt w.1 σ) ha hdb he hpl) fun σ H Q ⟨L, M, ρ, st, s, e, h⟩ => tG.bind s e h fun ds s1 vs L1 H1 _ e1 sr er rx h1 => by
    split at h1
    · rename_i hn
      refine ⟨L1, M, ds, s1, hn, sr, rx, ?_⟩
      cases hq : F ds s1 with
      | bad => rw [hq] at h1; exact h1
      | ok d s2 => rw [hq] at h1; exact h1
      | exc c s2 => rw [hq] at h1; exact fun L' H' e2 s2' => w.2 c σ H' (h1 L' H' e2 s2')
    · exact h1.elim
def eCall0 (F : List D → Sto → R D) : Ex := fun _ st => match F [] st with
  | .ok d s => .ok d s
  | _ => .bad
theorem fe_call0 {k : Nat} {f : Addr} {fd : FuncData} {x : Str} {p pos : Pos} {F : List D → Sto → R D} (hF : FnOk X.prog X.w X.K X.mg X.base (L2.CX X.prog X.w) k f fd [] (spF X.K T xc 0 F)) (hr : Room k X.A) (hm : X.mg x = some (.ref f)) (hk : PySem.W.keepIn X.K (.ref f) = true) (hb : Binds X.K fd [] [])
    (hg : Gl X x := by rfl) (hdb : (x == ("__debug__" : Str)) = false := by decide) : PE X (.Call (.Name x p) [] [] pos) (tF X.K T WE (eCall0 F)) :=
  PE.w (pe_call0 hF hr hg hm hk hb .nil passL hdb) fun σ H Q ⟨L, M, ρ, st, s, e, h⟩ => by
    refine ⟨L, M, [], st, rfl, s, rfl, ?_⟩
    unfold eCall0 at h
    cases hq : F [] st with
    | bad => rw [hq] at h; exact h
    | ok d s2 => rw [hq] at h; exact h
    | exc c s2 => rw [hq] at h; exact h.elim
end

/-! ### what a def made and nobody needs is let go -/
def fzL (f : D → Option D) : List D → Option (List D)
  | [] => some []
  | d :: ds => (f d).bind fun x => (fzL f ds).map (x :: ·)
def fzD (m : Nat) (st : Sto) : Nat → D → Option D
  | 0, _ => none
  | _ + 1, .none => some .none
  | _ + 1, .bool b => some (.bool b)
  | _ + 1, .int i => some (.int i)
  | _ + 1, .str x => some (.str x)
  | k + 1, .tuple ds => (fzL (fzD m st k) ds).map .tuple
  | k + 1, .list ds => (fzL (fzD m st k) ds).map .list
  | k + 1, .dict [(.int n, .none)] => if n.toNat < m then some (.dict [(.int n, .none)]) else match st[n.toNat]? with
    | some (.lst ds) => (fzL (fzD m st k) ds).map .list
    | _ => none
  | _ + 1, .dict _ => none
def fzO (m : Nat) (st : Sto) : Ob → Option Ob
  | .lst ds => (fzL (fzD m st 40) ds).map .lst
  | .dct _ => none
open Classical in
/-- the elder places as they stand now -/
noncomputable def gcS (st st' : Sto) : Nat → Option Sto
  | 0 => some []
  | n + 1 => (gcS st st' n).bind fun r => (if st'[n]? = st[n]? then st[n]? else (st'[n]?).bind (fzO st.length st')).map fun o => r ++ [o]
noncomputable def gcR (st : Sto) (r : R D) : R D := match r with
  | .ok d st' => (match gcS st st' st.length, fzD st.length st' 40 d with
    | some s1, some d1 => .ok d1 s1
    | _, _ => .bad)
  | .exc c st' => (match gcS st st' st.length with
    | some s1 => .exc c s1
    | _ => .bad)
  | .bad => .bad
noncomputable def gcF (F : List D → Sto → R D) : List D → Sto → R D := fun ds st => gcR st (F ds st)
section
variable {K : PySem.W.Frag} {T : List (Addr × Str)} {L M L' : List Addr} {H H' : Hp} {st st' : Sto}
theorem notin_pre (p : L <+: L') {a : Addr} (h : a ∉ L') : a ∉ L := fun z => by
  obtain ⟨r, rfl⟩ := p
  exact h (List.mem_append_left _ z)
theorem TupA.back (p : L <+: L') {a : Addr} {xs : List V} (h : TupA K L' M H a xs) : TupA K L M H a xs := h.elim (fun z => .inl ⟨z.1, notin_pre p z.2.1, z.2.2⟩) .inr
theorem LstA.back (p : L <+: L') {a : Addr} {xs : List V} (h : LstA K L' M H a xs) : LstA K L M H a xs := h.elim (fun z => .inl ⟨z.1, notin_pre p z.2.1, z.2.2⟩) .inr
theorem fzL_rep {f : D → Option D} (hf : ∀ d d1 v, f d = some d1 → Rep K L' M H d v → Rep K L M H d1 v) : ∀ {ds ds1 : List D} {vs : List V}, fzL f ds = some ds1 → RepL K L' M H ds vs → RepL K L M H ds1 vs
  | [], _, _, h, r => by cases h; exact r
  | d :: ds, ds1, vs, h, r => by
    obtain ⟨v, vs', rfl, r1, r2⟩ := r
    unfold fzL at h
    cases q : f d with
    | none => rw [q] at h; cases h
    | some d1 =>
      rw [q] at h
      simp only [Option.bind_some] at h
      cases q2 : fzL f ds with
      | none => rw [q2] at h; cases h
      | some es =>
        rw [q2] at h
        cases h
        exact ⟨v, vs', rfl, hf _ _ _ q r1, fzL_rep hf q2 r2⟩
theorem fz_rep {m : Nat} (s : SRel K T L' M H st') (p : L <+: L') (hm : L.length = m) : ∀ (k : Nat) (d d1 : D) (v : V), fzD m st' k d = some d1 → Rep K L' M H d v → Rep K L M H d1 v := by
  intro k
  induction k with
  | zero => intro d d1 v h; cases h
  | succ k ih =>
    intro d d1 v h r
    cases d with
    | none => cases h; exact r
    | bool _ => cases h; exact r
    | int _ => cases h; exact r
    | str _ => cases h; exact r
    | tuple ds =>
      unfold fzD at h
      cases q : fzL (fzD m st' k) ds with
      | none => rw [q] at h; cases h
      | some es =>
        rw [q] at h; cases h
        obtain ⟨a, xs, e, h1, h2⟩ := r
        exact ⟨a, xs, e, h1.back p, fzL_rep ih q h2⟩
    | list ds =>
      unfold fzD at h
      cases q : fzL (fzD m st' k) ds with
      | none => rw [q] at h; cases h
      | some es =>
        rw [q] at h; cases h
        obtain ⟨a, xs, e, h1, h2⟩ := r
        exact ⟨a, xs, e, h1.back p, fzL_rep ih q h2⟩
    | dict kvs =>
      obtain ⟨n, a, rfl, rfl, e⟩ := r
      simp only [fzD, Int.toNat_natCast] at h
      split at h
      · rename_i hlt
        cases h
        refine ⟨n, a, rfl, rfl, ?_⟩
        obtain ⟨r, rfl⟩ := p
        rw [List.getElem?_append_left (by omega)] at e
        exact e
      · rename_i hlt
        split at h
        · rename_i ds q
          cases q2 : fzL (fzD m st' k) ds with
          | none => rw [q2] at h; cases h
          | some es =>
            rw [q2] at h
            cases h
            obtain ⟨xs, h1, h2⟩ := s.lst q e
            have hL : a ∈ L' := List.mem_of_getElem? e
            have haL : a ∉ L := fun z => by
              obtain ⟨j, hj, ej⟩ := List.mem_iff_getElem.mp z
              obtain ⟨r, rfl⟩ := p
              obtain ⟨h3, h4⟩ := List.getElem?_eq_some_iff.mp e
              have : (L ++ r)[j]'(by rw [List.length_append]; omega) = (L ++ r)[n] := by rw [List.getElem_append_left hj, ej, h4]
              have := (List.getElem_inj s.nd).mp this
              omega
            exact ⟨a, xs, rfl, .inl ⟨.inl h1, haL, s.dj a hL⟩, fzL_rep ih q2 h2⟩
        · cases h
mutual
theorem pre_rep (p : L <+: L') : ∀ {d : D} {v w : V}, Rep K L M H d v → Rep K L' M H' d w → Rep K L M H' d w
  | .none, _, _, _, h => h
  | .bool _, _, _, _, h => h
  | .int _, _, _, _, h => h
  | .str _, _, _, _, h => h
  | .list _, _, _, ⟨_, _, _, _, h2⟩, ⟨b, ys, e, h3, h4⟩ => ⟨b, ys, e, h3.back p, pre_repL p h2 h4⟩
  | .tuple _, _, _, ⟨_, _, _, _, h2⟩, ⟨b, ys, e, h3, h4⟩ => ⟨b, ys, e, h3.back p, pre_repL p h2 h4⟩
  | .dict _, _, _, ⟨n, a, e1, _, h⟩, ⟨n', b, e1', e2', h'⟩ => by
    subst e1
    have en : n' = n := by
      have := (List.cons.inj e1').1
      have := (Prod.mk.inj this).1
      have := PyData.int.inj this
      omega
    subst en
    refine ⟨n', b, rfl, e2', ?_⟩
    obtain ⟨r, rfl⟩ := p
    rw [List.getElem?_append_left (List.getElem?_eq_some_iff.mp h).1] at h'
    exact h'
theorem pre_repL (p : L <+: L') : ∀ {ds : List D} {vs ws : List V}, RepL K L M H ds vs → RepL K L' M H' ds ws → RepL K L M H' ds ws
  | [], _, _, _, h => h
  | _ :: _, _, _, ⟨_, _, _, h1, h2⟩, ⟨x, r, e, h3, h4⟩ => ⟨x, r, e, pre_rep p h1 h3, pre_repL p h2 h4⟩
end
theorem pre_kv {κ : Type} {G : D → κ → Prop} (p : L <+: L') : ∀ {kvs : List (D × D)} {ps qs : List (κ × V)}, Paired (fun (a : D × D) (b : κ × V) => G a.1 b.1 ∧ Rep K L M H a.2 b.2) kvs ps → Paired (fun (a : D × D) (b : κ × V) => G a.1 b.1 ∧ Rep K L' M H' a.2 b.2) kvs qs → Paired (fun (a : D × D) (b : κ × V) => G a.1 b.1 ∧ Rep K L M H' a.2 b.2) kvs qs
  | _, _, _, .nil, .nil => .nil
  | _, _, _, .cons h1 t1, .cons h2 t2 => .cons ⟨h2.1, pre_rep p h1.2 h2.2⟩ (pre_kv p t1 t2)
theorem flat_ne {d : D} {k : Key} {ks : List Key} (h1 : KeyD d k) (h2 : KeyT d ks) : False := by
  obtain ⟨ds, rfl, _⟩ := h2
  cases h1
theorem pre_ob (p : L <+: L') {o : Ob} {a b : Addr} (h1 : ObRep K L M H a o) (h2 : ObRep K L' M H' b o) : ObRep K L M H' b o := by
  cases o with
  | lst ds =>
    obtain ⟨_, _, z1⟩ := h1
    obtain ⟨ys, e, z2⟩ := h2
    exact ⟨ys, e, pre_repL p z1 z2⟩
  | dct kvs =>
    obtain ⟨_, _, z1⟩ := h1
    obtain ⟨u, e, z2⟩ := h2
    refine ⟨u, e, ?_⟩
    rcases z1 with ⟨ps, _, y1⟩ | ⟨ps, _, y1⟩
    · rcases z2 with ⟨qs, rfl, y2⟩ | ⟨qs, rfl, y2⟩
      · exact .inl ⟨qs, rfl, pre_kv p y1 y2⟩
      · cases y1 with
        | nil => cases y2; exact .inr ⟨[], rfl, .nil⟩
        | cons a1 _ => cases y2 with
          | cons a2 _ => exact (flat_ne a1.1 a2.1).elim
    · rcases z2 with ⟨qs, rfl, y2⟩ | ⟨qs, rfl, y2⟩
      · cases y1 with
        | nil => cases y2; exact .inl ⟨[], rfl, .nil⟩
        | cons a1 _ => cases y2 with
          | cons a2 _ => exact (flat_ne a2.1 a1.1).elim
      · exact .inr ⟨qs, rfl, pre_kv p y1 y2⟩
theorem gcS_at : ∀ (n : Nat) {s1 : Sto}, gcS st st' n = some s1 → n ≤ st.length → s1.length = n ∧ ∀ i, i < n → (st'[i]? = st[i]? ∧ s1[i]? = st[i]?) ∨ ∃ o o', st'[i]? = some o ∧ fzO st.length st' o = some o' ∧ s1[i]? = some o'
  | 0, s1, h, _ => by cases h; exact ⟨rfl, fun i hi => by omega⟩
  | n + 1, s1, h, hn => by
    unfold gcS at h
    cases q : gcS st st' n with
    | none => rw [q] at h; cases h
    | some r =>
      rw [q] at h
      simp only [Option.bind_some] at h
      obtain ⟨h1, h2⟩ := gcS_at n q (by omega)
      have step : ∀ o, s1 = r ++ [o] → s1.length = n + 1 ∧ s1[n]? = some o ∧ ∀ i, i < n → s1[i]? = r[i]? := fun o e => by
        subst e
        refine ⟨by simp [h1], by rw [List.getElem?_append_right (by omega), h1]; simp, fun i hi => ?_⟩
        rw [List.getElem?_append_left (by omega)]
      have fin : ∀ o, s1 = r ++ [o] → ((st'[n]? = st[n]? ∧ some o = st[n]?) ∨ ∃ o1, st'[n]? = some o1 ∧ fzO st.length st' o1 = some o) → s1.length = n + 1 ∧ ∀ i, i < n + 1 → (st'[i]? = st[i]? ∧ s1[i]? = st[i]?) ∨ ∃ o o', st'[i]? = some o ∧ fzO st.length st' o = some o' ∧ s1[i]? = some o' := fun o e z => by
        obtain ⟨l1, l2, l3⟩ := step o e
        refine ⟨l1, fun i hi => ?_⟩
        by_cases hin : i < n
        · rw [l3 i hin]; exact h2 i hin
        · have : i = n := by omega
          subst this
          rw [l2]
          rcases z with ⟨z1, z2⟩ | ⟨o1, z1, z2⟩
          · exact .inl ⟨z1, z2⟩
          · exact .inr ⟨o1, o, z1, z2, rfl⟩
      split at h
      · rename_i he
        cases q2 : st[n]? with
        | none => rw [q2] at h; cases h
        | some o =>
          rw [q2] at h
          cases h
          exact fin o rfl (.inl ⟨he, q2.symm⟩)
      · cases q2 : st'[n]? with
        | none => rw [q2] at h; cases h
        | some o1 =>
          rw [q2] at h
          simp only [Option.bind_some] at h
          cases q3 : fzO st.length st' o1 with
          | none => rw [q3] at h; cases h
          | some o =>
            rw [q3] at h
            cases h
            exact fin o rfl (.inr ⟨o1, q2, q3⟩)
theorem gc_ok {s1 : Sto} (s0 : SRel K T L M H st) (e : Ext L M H L' H') (s : SRel K T L' M H' st') (h : gcS st st' st.length = some s1) : Ext L M H L H' ∧ SRel K T L M H' s1 := by
  obtain ⟨h1, h2⟩ := gcS_at _ h (Nat.le_refl _)
  refine ⟨⟨List.prefix_refl _, fun a o q t n => ⟨(e.keep a o q t n).1, n⟩⟩, ?_⟩
  refine { nd := s0.nd, dj := s0.dj, len := by rw [s0.len, h1], obs := fun n o a e1 e2 => ?_, tabs := s.tabs, tM := s0.tM, mM := s.mM }
  have hn : n < st.length := by rw [← s0.len]; exact (List.getElem?_eq_some_iff.mp e2).1
  have e2' := pre_get e.pre e2
  rcases h2 n hn with ⟨z1, z2⟩ | ⟨o1, o', z1, z2, z3⟩
  · rw [e1] at z2
    exact pre_ob e.pre (s0.obs n o a z2.symm e2) (s.obs n o a (z1.trans z2.symm) e2')
  · rw [e1] at z3
    cases z3
    have z := s.obs n o1 a z1 e2'
    cases o1 with
    | dct _ => cases z2
    | lst ds =>
      simp only [fzO] at z2
      cases q : fzL (fzD st.length st' 40) ds with
      | none => rw [q] at z2; cases z2
      | some es =>
        rw [q] at z2
        cases z2
        obtain ⟨xs, y1, y2⟩ := z
        exact ⟨xs, y1, fzL_rep (fz_rep s e.pre s0.len 40) q y2⟩
/-- a def's promise, what it left let go -/
theorem spF_gc {xc : Nat → Addr} {n : Nat} {F : List D → Sto → R D} {vs : List V} {H : Hp} {Q : VK} {E : XK} (h : spF K T xc n (gcF F) vs H Q E) : spF K T xc n F vs H Q E := by
  obtain ⟨L, M, ds, st, hn, s, r, h⟩ := h
  refine ⟨L, M, ds, st, hn, s, r, ?_⟩
  unfold gcF gcR at h
  cases hF : F ds st with
  | bad => rw [hF] at h; exact h
  | exc c st' =>
    rw [hF] at h
    dsimp only at h
    split at h
    · rename_i s1 q
      intro L' H' e s'
      obtain ⟨e1, s2⟩ := gc_ok s e s' q
      exact h L H' e1 s2
    · exact h.elim
  | ok d st' =>
    rw [hF] at h
    dsimp only at h
    split at h
    · rename_i s1 d1 q q2
      intro v L' H' e s' r'
      obtain ⟨e1, s2⟩ := gc_ok s e s' q
      exact h v L H' e1 s2 (fz_rep s' e.pre s.len 40 _ _ _ q2 r')
    · exact h.elim
theorem fn_gc {P : Program} {w : World} {mg : Str → Option Value} {base : Heap} {CX : CXT} {k : Nat} {f : Addr} {fd : FuncData} {ps : List Str} {xc : Nat → Addr} {n : Nat} {F : List D → Sto → R D} (h : FnOk P w K mg base CX k f fd ps (spF K T xc n F)) : FnOk P w K mg base CX k f fd ps (spF K T xc n (gcF F)) :=
  h.imp fun vs H Q E z => spF_gc z
end
end Fl
/-! Fl5: what a for walks; list comprehensions. -/
namespace Fl
open PySem PySem.Spec PyProof.Rows L2

/-! ### enumerate(v) of anything that begins -/
set_option maxHeartbeats 1000000 in
theorem meets_enum1 {v : Value} {o : Obj} {H : Heap → Prop} (B : Begins v o H) :
    Meets (Builtin.«enumerate.__new__» ⟨[.type "enumerate", v], []⟩) (fun _ R s => H s.heap ∧
      R (.ok (.ret (.ref (s.heap.push o).objs.size))) { s with heap := (s.heap.push o).push { cls := .type "enumerate", data := .fields #[.none, .bool false, .ref s.heap.objs.size, rawInt 0, .none, .none] } }) :=
  .of_wp fun prog w A R s h => by
    obtain ⟨hp, g, d, tk, os⟩ := s; obtain ⟨h1, h⟩ := h
    have hsub := sub_enumerate
    have q1 : ∀ {A' : Around} {E : Value → Shared → Prop} {Q : Value → Shared → Prop}, Q (.ref hp.objs.size) ⟨hp.push o, g, d, tk, os⟩ → wpAny (model prog w) A' (pyIter v) Q E ⟨hp, g, d, tk, os⟩ :=
      fun q => B.iter prog w _ _ ⟨hp, g, d, tk, os⟩ _ h1 q
    wp_walk using q1
    refine wpAny_stack_any fun st => wpAny_pure ?_
    split
    · rename_i c _ _ _ _ _
      cases (c == Value.type "enumerate")
      · wp_walk using q1
        exact ⟨_, rfl, h⟩
      · wp_walk using q1
        exact ⟨_, rfl, h⟩
    · wp_walk using q1
      exact ⟨_, rfl, h⟩
section
variable {prog : Program} {w : World} {A : Around} {E : Value → Shared → Prop} {s : Shared}
theorem enum_begins1 {v : Value} {o : Obj} {H : Heap → Prop} {Q : Value → Shared → Prop} (B : Begins v o H) (h1 : H s.heap)
    (h : ∀ h', IsEnum h' (s.heap.objs.size + 1) s.heap.objs.size 0 .none → h'.get? s.heap.objs.size = some o → h'.objs.size = s.heap.objs.size + 2 →
      (∀ b o, s.heap.get? b = some o → h'.get? b = some o) → Q (.ref (s.heap.objs.size + 1)) { s with heap := h' }) :
    wpAny (model prog w) A (call (.type "enumerate") [v]) Q E s := by
  refine callType_new F.called_enumerate (by decide) (F.typeCall_enumerate_1 _) (F.newCall_enumerate_1 _) (fun obj => F.args_object_init_2 obj _) F.entry_enumerate_new
    (meets_enum1 B) ⟨h1, ?_⟩
  have hz : (s.heap.push o).objs.size = s.heap.objs.size + 1 := Heap.size_push ..
  show _ ∧ _
  rw [hz]
  have he : IsEnum ((s.heap.push o).push { cls := .type "enumerate", data := .fields #[.none, .bool false, .ref s.heap.objs.size, rawInt 0, .none, .none] }) (s.heap.objs.size + 1) s.heap.objs.size 0 .none := by
    have := Heap.get?_push_size (s.heap.push o) (o := { cls := .type "enumerate", data := .fields #[.none, .bool false, .ref s.heap.objs.size, rawInt 0, .none, .none] }) rfl
    rw [hz] at this; exact this
  refine ⟨⟨_, he, rfl⟩, h _ he (Heap.get?_push_of_some _ (Heap.get?_push_size _ B.free)) (by rw [Heap.size_push, hz]) fun b o x => Heap.get?_push_of_some _ (Heap.get?_push_of_some _ x)⟩
end

/-! ### lists and tuples alike -/
def SqX (K : PySem.W.Frag) (b : Bool) (H : Hp) (a : Addr) (xs : List V) : Prop := if b = true then SqT K H a xs else SqL K H a xs
def SeqH (b : Bool) (h : Heap) (a : Addr) (its : Array Value) : Prop := if b = true then h.IsTuple a its else h.IsList a its
def IterH (b : Bool) (h : Heap) (it a : Addr) (i : Nat) : Prop := if b = true then h.IsTupleIter it a i else h.IsListIter it a i
section
variable {X : Cx} {pins : List (Addr × Obj)} {σ : L2.St} {H : Hp} {s : Shared}
theorem sqx_at {b : Bool} {a : Addr} {xs : List V} (I : Inv X pins σ H s) (h : SqX X.K b H a xs) : ∃ its : List Value, Vals xs its ∧ SeqH b s.heap a its.toArray ∧ xs.length ≤ sizeLine := by
  cases b with
  | true => obtain ⟨its, r, p, z⟩ := I.tuple h; exact ⟨its, r, p, z⟩
  | false => obtain ⟨its, r, p, z⟩ := I.list h; exact ⟨its, r, p.isList, z⟩
theorem sqx_inj {b : Bool} {a : Addr} {xs ys : List V} (I : Inv X pins σ H s) (h : SqX X.K b H a xs) (h' : SqX X.K b H a ys) : xs = ys := by
  cases b with
  | true => exact I.tuple_inj h h'
  | false => exact I.list_inj h h'
end
theorem SeqH.lt {b : Bool} {h : Heap} {a : Addr} {its : Array Value} (x : SeqH b h a its) : a < h.objs.size := by
  cases b with
  | true => obtain ⟨o, e, _⟩ := x; exact Heap.lt_size e
  | false => obtain ⟨o, e, _⟩ := x; exact Heap.lt_size e
theorem drx {prog : Program} {w : World} {A : Around} (b : Bool) (hh : A.handled = none) (it l : Addr) (hne : l ≠ it) (items : Array Value) :
    Draws prog w A it [it, l] items.size (fun i v => items[i]? = some v) (fun i h => IterH b h it l i ∧ SeqH b h l items) := by
  cases b with
  | true => exact Draws.tuple hh it l hne items
  | false => exact Draws.list hh it l hne items
theorem begx (b : Bool) (a : Addr) (items : Array Value) : ∃ o, Begins (.ref a) o (fun h => SeqH b h a items) ∧ ∀ h it, h.get? it = some o → IterH b h it a 0 := by
  cases b with
  | true => exact ⟨_, begins_tuple a items, fun h it e => ⟨_, e, rfl, rfl⟩⟩
  | false => exact ⟨_, begins_list a items, fun h it e => ⟨_, e, rfl, rfl⟩⟩
theorem IterH.ob {b : Bool} {h : Heap} {it a : Addr} {i : Nat} (x : IterH b h it a i) : ∃ o, h.get? it = some o ∧ ∀ v, o.data ≠ .cell v := by
  cases b with
  | true => obtain ⟨o, e, _, d⟩ := x; exact ⟨o, e, fun v q => by rw [d] at q; cases q⟩
  | false => obtain ⟨o, e, _, d⟩ := x; exact ⟨o, e, fun v q => by rw [d] at q; cases q⟩
theorem IterH.at {b : Bool} {h h' : Heap} {it a : Addr} {i : Nat} (x : IterH b h it a i) (k : ∀ o, h.get? it = some o → h'.get? it = some o) : IterH b h' it a i := by
  cases b with
  | true => exact Heap.IsTupleIter.at x k
  | false => exact Heap.IsListIter.at x k

/-! ### enumerate -/
def ItE (K : PySem.W.Frag) (b : Bool) (a : Addr) : It :=
  ⟨fun i H => ∃ (xs : List V) (x : V), SqX K b H a xs ∧ xs[i]? = some x, fun i H v H' => ∃ T x, v = .ref T ∧ H T = none ∧ H' = upd H T (.tup [.int (i : Nat), x]) ∧ ∀ xs, SqX K b H a xs → xs[i]? = some x, fun i H => ∃ xs : List V, SqX K b H a xs ∧ i = xs.length⟩
theorem turn_E {P : Program} {w : World} {K : PySem.W.Frag} {elts : List Expr} {kk : Nat} {tpos : Pos} {b : Bool} {a e it : Addr} (hei : e ≠ it) (hea : a ≠ e) (hia : a ≠ it) :
    Turn P w K (.Tuple elts kk tpos) (ItE K b a) [e, it] e (fun i h => (∃ old, IsEnum h e it (0 + ((i : Nat) : Int)) old) ∧ IterH b h it a i) where
  mem := by simp
  obj := fun i h st c hc => by
    obtain ⟨⟨old, h1⟩, h2⟩ := st
    have e' : c = e ∨ c = it := by simpa using hc
    rcases e' with q | q
    · rw [q]; exact ⟨_, h1, fun v q => nomatch q⟩
    · rw [q]; exact h2.ob
  keep := fun i h h' st k => by
    obtain ⟨⟨old, h1⟩, h2⟩ := st
    exact ⟨⟨old, k e (by simp) _ h1⟩, h2.at fun o q => k it (by simp) o q⟩
  item := by
    intro X hP hw hK hc i pins s σ H E I hf st hg
    subst hP hw hK
    obtain ⟨xs, x, hq, hx⟩ := hg
    obtain ⟨its, rv, p, _⟩ := sqx_at I hq
    obtain ⟨u, hu, ru⟩ := rv.get hx
    have hh : X.A.in1.handled = none := I.ok.hd hc
    have hi : i < its.toArray.size := by
      have := (List.getElem?_eq_some_iff.mp hu).1
      simpa using this
    have G := GoesN.enumFrom (elts := elts) (x1 := kk) (pos := tpos) 0 (drx (prog := X.prog) (w := X.w) b hh it a hia its.toArray) e hei (by simp; exact ⟨hei, hea.symm⟩) (by simp)
    refine G.goes i s (fun v s2 => ∃ x1 H', Inv X pins σ H' s2 ∧ RelV x1 v ∧ (ItE X.K b a).yld i H x1 H' ∧ ((∃ old, IsEnum s2.heap e it (0 + ((i + 1 : Nat) : Int)) old) ∧ IterH b s2.heap it a (i + 1)) ∧ ∀ c ∈ [e, it], H' c = none) E hi ⟨st.1, st.2, p⟩ fun v h' tk hy hst hk htk => ?_
    obtain ⟨T, t, x', rfl, hT, hx', hTT⟩ := hy
    have ex : x' = u := by
      have z : its[i]? = some x' := by simpa using hx'
      rw [hu] at z
      exact (Option.some.inj z).symm
    subst ex
    have new : ObjOk X.prog X.w (upd H T (.tup [.int (i : Nat), x])) h' T (.tup [.int (i : Nat), x]) := by
      obtain ⟨o, e1, e2, n, e3⟩ := hTT
      refine ⟨by show 2 ≤ sizeLine; decide, [.int (0 + (i : Int)) t, x'], .cons ⟨t, by simp⟩ (.cons ru .nil), ⟨o, e1, e2, n, e3⟩⟩
    have I1 : Inv X pins σ (upd H T (.tup [.int (i : Nat), x])) { s with heap := h', toks := tk } :=
      I.turnedNew (ch := [e, it]) (fun c o hb q => hk c o hb q) hf hT new
    have hn : H T = none := I.hok.fresh hT
    refine ⟨.ref T, _, I1, rfl, ⟨T, x, rfl, hn, rfl, fun l hl => by rw [sqx_inj I hl hq]; exact hx⟩, ⟨hst.1, hst.2.1⟩, fun c hcm => ?_⟩
    have hlt : c ≠ T := by
      intro z
      have : ∃ o, s.heap.get? c = some o := by
        have e' : c = e ∨ c = it := by simpa using hcm
        rcases e' with q | q
        · obtain ⟨⟨old, h1⟩, _⟩ := st; rw [q]; exact ⟨_, h1⟩
        · obtain ⟨o, h1, _⟩ := st.2.ob; rw [q]; exact ⟨o, h1⟩
      obtain ⟨o, h1⟩ := this
      have := Heap.lt_size h1
      rw [z] at this
      exact absurd (Nat.lt_of_lt_of_le this hT) (Nat.lt_irrefl _)
    rw [upd_ne hlt]
    exact (hf c hcm).1
  done := by
    intro X hP hw hK hc i pins s σ H E I hf st hg
    subst hP hw hK
    obtain ⟨xs, hq, hle⟩ := hg
    obtain ⟨its, rv, p, _⟩ := sqx_at I hq
    have hh : X.A.in1.handled = none := I.ok.hd hc
    have G := GoesN.enumFrom (elts := elts) (x1 := kk) (pos := tpos) 0 (drx (prog := X.prog) (w := X.w) b hh it a hia its.toArray) e hei (by simp; exact ⟨hei, hea.symm⟩) (by simp)
    have hl : i = its.toArray.size := by rw [hle, rv.length]; simp
    subst hl
    refine G.stops s _ E ⟨st.1, st.2, p⟩ fun h' tk hk htk => ?_
    exact I.turnedL (ch := [e, it]) (fun c o hb q => hk c o hb q) hf
  self := fun A i s Q E st h => wpAny_pyIter_enum st.1.choose_spec h
/-! ### zip of two -/
def ItZ (K : PySem.W.Frag) (b1 b2 : Bool) (a1 a2 : Addr) : It :=
  ⟨fun i H => ∃ (xs ys : List V) (x y : V), SqX K b1 H a1 xs ∧ SqX K b2 H a2 ys ∧ xs[i]? = some x ∧ ys[i]? = some y,
    fun i H v H' => ∃ T x y, v = .ref T ∧ H T = none ∧ H' = upd H T (.tup [x, y]) ∧ (∀ xs, SqX K b1 H a1 xs → xs[i]? = some x) ∧ ∀ ys, SqX K b2 H a2 ys → ys[i]? = some y,
    fun i H => ∃ xs ys : List V, SqX K b1 H a1 xs ∧ SqX K b2 H a2 ys ∧ i = min xs.length ys.length⟩
theorem turn_Z {P : Program} {w : World} {K : PySem.W.Frag} {elts : List Expr} {kk : Nat} {tpos : Pos} {b1 b2 : Bool} {a1 a2 z TI TO i1 i2 : Addr} (S : ZipSep2 z TI TO i1 i2 [i1, a1] [i2, a2]) (h1 : a1 ≠ i1) (h2 : a2 ≠ i2) :
    Turn P w K (.Tuple elts kk tpos) (ItZ K b1 b2 a1 a2) [z, TI, TO, i1, i2] z (fun i h => IsZip h z TI TO .none ∧ IsTupOf2 h TI (.ref i1) (.ref i2) ∧ (∃ x y, IsTupOf2 h TO x y) ∧ IterH b1 h i1 a1 i ∧ IterH b2 h i2 a2 i) where
  mem := by simp
  obj := fun i h st c hc => by
    obtain ⟨hz, hTI, ⟨x, y, hTO⟩, y1, y2⟩ := st
    have e' : c = z ∨ c = TI ∨ c = TO ∨ c = i1 ∨ c = i2 := by simpa using hc
    rcases e' with q | q | q | q | q
    · rw [q]; exact ⟨_, hz, fun v q => nomatch q⟩
    · rw [q]; exact ⟨_, hTI, fun v q => nomatch q⟩
    · rw [q]; exact ⟨_, hTO, fun v q => nomatch q⟩
    · rw [q]; exact y1.ob
    · rw [q]; exact y2.ob
  keep := fun i h h' st k => by
    obtain ⟨hz, hTI, ⟨x, y, hTO⟩, y1, y2⟩ := st
    exact ⟨k z (by simp) _ hz, k TI (by simp) _ hTI, ⟨x, y, k TO (by simp) _ hTO⟩, y1.at fun o q => k i1 (by simp) o q, y2.at fun o q => k i2 (by simp) o q⟩
  item := by
    intro X hP hw hK hc i pins s σ H E I hf st hg
    subst hP hw hK
    obtain ⟨xs, ys, x, y, hqx, hqy, hx, hy⟩ := hg
    obtain ⟨its, rv, p, _⟩ := sqx_at I hqx
    obtain ⟨its2, rv2, p2, _⟩ := sqx_at I hqy
    obtain ⟨u, hu, ru⟩ := rv.get hx
    obtain ⟨u2, hu2, ru2⟩ := rv2.get hy
    have hh : X.A.in1.handled = none := I.ok.hd hc
    have hi : i < min its.toArray.size its2.toArray.size := by
      have := (List.getElem?_eq_some_iff.mp hu).1
      have := (List.getElem?_eq_some_iff.mp hu2).1
      simp; omega
    have G := GoesN.zip2 (elts := elts) (x1 := kk) (pos := tpos) S (drx (prog := X.prog) (w := X.w) b1 hh i1 a1 h1 its.toArray) (drx (prog := X.prog) (w := X.w) b2 hh i2 a2 h2 its2.toArray)
    refine G.goes i s (fun v s2 => ∃ x1 H', Inv X pins σ H' s2 ∧ RelV x1 v ∧ (ItZ X.K b1 b2 a1 a2).yld i H x1 H' ∧ (IsZip s2.heap z TI TO .none ∧ IsTupOf2 s2.heap TI (.ref i1) (.ref i2) ∧ (∃ x y, IsTupOf2 s2.heap TO x y) ∧ IterH b1 s2.heap i1 a1 (i + 1) ∧ IterH b2 s2.heap i2 a2 (i + 1)) ∧ ∀ c ∈ [z, TI, TO, i1, i2], H' c = none) E hi
      ⟨st.1, st.2.1, st.2.2.1, ⟨st.2.2.2.1, p⟩, st.2.2.2.2, p2⟩ fun v h' tk hy' hst hk htk => ?_
    obtain ⟨T, x', y', rfl, hT, hx', hy'', hTT⟩ := hy'
    have ex : x' = u := by
      have z : its[i]? = some x' := by simpa using hx'
      rw [hu] at z
      exact (Option.some.inj z).symm
    have ey : y' = u2 := by
      have z : its2[i]? = some y' := by simpa using hy''
      rw [hu2] at z
      exact (Option.some.inj z).symm
    subst ex ey
    have new : ObjOk X.prog X.w (upd H T (.tup [x, y])) h' T (.tup [x, y]) := by
      obtain ⟨o, e1, e2, n, e3⟩ := hTT
      exact ⟨by show 2 ≤ sizeLine; decide, [x', y'], .cons ru (.cons ru2 .nil), ⟨o, e1, e2, n, e3⟩⟩
    have I1 : Inv X pins σ (upd H T (.tup [x, y])) { s with heap := h', toks := tk } :=
      I.turnedNew (ch := [z, TI, TO, i1, i2]) (fun c o hb q => hk c o (fun q' => hb (by
        have e' : c = z ∨ c = TO ∨ c = i1 ∨ c = i2 := by simpa using q'
        rcases e' with r | r | r | r <;> simp [r])) q) hf hT new
    have hn : H T = none := I.hok.fresh hT
    refine ⟨.ref T, _, I1, rfl, ⟨T, x, y, rfl, hn, rfl, fun l hl => by rw [sqx_inj I hl hqx]; exact hx, fun l hl => by rw [sqx_inj I hl hqy]; exact hy⟩, ⟨hst.1, hst.2.1, hst.2.2.1, hst.2.2.2.1.1, hst.2.2.2.2.1⟩, fun c hcm => ?_⟩
    have hlt : c ≠ T := by
      intro zz
      have : ∃ o, s.heap.get? c = some o := by
        obtain ⟨hz, hTI, ⟨x0, y0, hTO⟩, y1, y2⟩ := st
        have e' : c = z ∨ c = TI ∨ c = TO ∨ c = i1 ∨ c = i2 := by simpa using hcm
        rcases e' with q | q | q | q | q
        · rw [q]; exact ⟨_, hz⟩
        · rw [q]; exact ⟨_, hTI⟩
        · rw [q]; exact ⟨_, hTO⟩
        · obtain ⟨o, e1, _⟩ := y1.ob; rw [q]; exact ⟨o, e1⟩
        · obtain ⟨o, e1, _⟩ := y2.ob; rw [q]; exact ⟨o, e1⟩
      obtain ⟨o, h1⟩ := this
      have := Heap.lt_size h1
      rw [zz] at this
      exact absurd (Nat.lt_of_lt_of_le this hT) (Nat.lt_irrefl _)
    rw [upd_ne hlt]
    exact (hf c hcm).1
  done := by
    intro X hP hw hK hc i pins s σ H E I hf st hg
    subst hP hw hK
    obtain ⟨xs, ys, hqx, hqy, hend⟩ := hg
    obtain ⟨its, rv, p, _⟩ := sqx_at I hqx
    obtain ⟨its2, rv2, p2, _⟩ := sqx_at I hqy
    have hh : X.A.in1.handled = none := I.ok.hd hc
    have G := GoesN.zip2 (elts := elts) (x1 := kk) (pos := tpos) S (drx (prog := X.prog) (w := X.w) b1 hh i1 a1 h1 its.toArray) (drx (prog := X.prog) (w := X.w) b2 hh i2 a2 h2 its2.toArray)
    have hl : i = min its.toArray.size its2.toArray.size := by rw [hend, rv.length, rv2.length]; simp
    subst hl
    refine G.stops s _ E ⟨st.1, st.2.1, st.2.2.1, ⟨st.2.2.2.1, p⟩, st.2.2.2.2, p2⟩ fun h' tk hk htk => ?_
    exact I.turnedL (ch := [z, TI, TO, i1, i2]) (fun c o hb q => hk c o (fun q' => hb (by
        have e' : c = z ∨ c = TO ∨ c = i1 ∨ c = i2 := by simpa using q'
        rcases e' with r | r | r | r <;> simp [r])) q) hf
  self := fun A i s Q E st h => wpAny_pyIter_zip st.1 h

/-! ### what a for walks -/
def iSeq (e : Ex) : ExI := fun ρ st => (e ρ st).bind fun d s1 => match d with
  | .tuple ds => .ok (ds, fun _ => True) s1
  | .list ds => .ok (ds, fun _ => True) s1
  | .dict [(.int n, .none)] => (match s1[n.toNat]? with
    | some (.lst ds) => .ok (ds, fun s => s[n.toNat]? = some (.lst ds)) s1
    | _ => .bad)
  | _ => .bad
section
variable {X : Cx} {T : List (Addr × Str)} {L M : List Addr} {H : Hp} {st : Sto} {WE : Nat → Hp → Prop}
variable {e a b c tg : Expr} {pos : Pos} {Fa Fb Fc : Ex} {La : ExL}
/-- a sequence in hand, as it may be walked: its items, its source -/
def srcOf (st : Sto) : D → Option (List D × (Sto → Prop))
  | .tuple ds => some (ds, fun _ => True)
  | .list ds => some (ds, fun _ => True)
  | .dict [(.int n, .none)] => match st[n.toNat]? with
    | some (.lst ds) => some (ds, fun s => s[n.toNat]? = some (.lst ds))
    | _ => none
  | _ => none
theorem iSeq_eq {ρ : Env} : iSeq Fa ρ st = (Fa ρ st).bind fun d s1 => match srcOf s1 d with
    | some p => .ok p s1
    | none => .bad := by
  unfold iSeq
  congr 1
  funext d s1
  cases d with
  | dict kvs =>
    cases kvs with
    | nil => rfl
    | cons p r =>
      obtain ⟨k, v⟩ := p
      cases r with
      | cons _ _ => cases k <;> cases v <;> rfl
      | nil =>
        cases k <;> cases v <;> try rfl
        simp only [srcOf]
        split <;> rfl
  | _ => rfl
/-- the sequence stands as long as its source does -/
theorem srcOf_ok {K : PySem.W.Frag} {d : D} {v : V} {p : List D × (Sto → Prop)} (s : SRel K T L M H st) (r : Rep K L M H d v) (h : srcOf st d = some p) :
    ∃ (bt : Bool) (a : Addr), v = .ref a ∧ ∀ M1 L1 H1 st1, GOk H M M1 → Ext L M1 H L1 H1 → SRel K T L1 M1 H1 st1 → p.2 st1 → ∃ xs, SqX K bt H1 a xs ∧ RepL K L1 M1 H1 p.1 xs := by
  cases d with
  | tuple ds =>
    cases h
    obtain ⟨a, xs, e, h1, h2⟩ := r
    exact ⟨true, a, e, fun M1 L1 H1 st1 g e1 s1 _ => ⟨xs, ((h1.guard g).ext e1).sq, (h2.guard g).ext e1⟩⟩
  | list ds =>
    cases h
    obtain ⟨a, xs, e, h1, h2⟩ := r
    exact ⟨false, a, e, fun M1 L1 H1 st1 g e1 s1 _ => ⟨xs, ((h1.guard g).ext e1).sq, (h2.guard g).ext e1⟩⟩
  | dict kvs =>
    obtain ⟨n, a, rfl, rfl, e⟩ := r
    simp only [srcOf, Int.toNat_natCast] at h
    split at h
    · rename_i ds q
      cases h
      refine ⟨false, a, rfl, fun M1 L1 H1 st1 g e1 s1 ho => ?_⟩
      obtain ⟨xs, h1, h2⟩ := s1.lst ho (pre_get e1.pre e)
      exact ⟨xs, .inl (.inl h1), h2⟩
    · cases h
  | none => cases h
  | bool _ => cases h
  | int _ => cases h
  | str _ => cases h
theorem srcOk_now {d : D} {p : List D × (Sto → Prop)} (h : srcOf st d = some p) : p.2 st := by
  cases d with
  | tuple ds => cases h; exact True.intro
  | list ds => cases h; exact True.intro
  | dict kvs =>
    cases kvs with
    | nil => cases h
    | cons q r =>
      obtain ⟨k, v⟩ := q
      cases r with
      | cons _ _ => cases k <;> cases v <;> cases h
      | nil =>
        cases k <;> cases v <;> try cases h
        simp only [srcOf] at h
        split at h
        · rename_i ds q; cases h; exact q
        · cases h
  | none => cases h
  | bool _ => cases h
  | int _ => cases h
  | str _ => cases h
theorem pi_sq {tl : TE} {l : Expr} (hl : PE X l tl) : PI X tg l (fun σ H R => tl σ H fun x H1 => ∃ (bt : Bool) (a : Addr), x = .ref a ∧ (∃ xs, SqX X.K bt H1 a xs) ∧ R (if bt then Itt X.K a else Itl X.K a) H1) := by
  refine ⟨fun pins s σ H R I h => ?_⟩
  refine thn (hl.run pins s σ H _ I h) fun v s1 ⟨x, H1, I1, r1, q1⟩ => ?_
  obtain ⟨bt, a, e, ⟨xs, hq⟩, q⟩ := q1
  subst e
  cases r1
  cases bt with
  | false =>
    obtain ⟨its, rv, p, hz⟩ := I1.list hq
    refine wpAny_pyIter_list p.isList ?_
    refine ⟨s1.heap.objs.size, [s1.heap.objs.size], _, _, H1, rfl, I1.kept (t' := s1.toks) fun b o e => Heap.get?_push_of_some _ e, turn_list a _, ⟨_, Heap.get?_push_size _ rfl, rfl, rfl⟩, fun b hb => ?_, q⟩
    have e : b = s1.heap.objs.size := by simpa using hb
    subst e
    exact I1.fpOk (Nat.le_refl _) (I1.hok.fresh (Nat.le_refl _))
  | true =>
    obtain ⟨its, rv, p, hz⟩ := I1.tuple hq
    refine wpAny_pyIter_tuple (show s1.heap.IsTuple a its.toArray from p) ?_
    refine ⟨s1.heap.objs.size, [s1.heap.objs.size], _, _, H1, rfl, I1.kept (t' := s1.toks) fun b o e => Heap.get?_push_of_some _ e, turn_tuple a _, ⟨_, Heap.get?_push_size _ rfl, rfl, rfl⟩, fun b hb => ?_, q⟩
    have e : b = s1.heap.objs.size := by simpa using hb
    subst e
    exact I1.fpOk (Nat.le_refl _) (I1.hok.fresh (Nat.le_refl _))
theorem PI.w {X : Cx} {tg e : Expr} {t t' : TI} (h : PI X tg e t) (i : ∀ σ H Q, t' σ H Q → t σ H Q) : PI X tg e t' := ⟨fun pins s σ H Q I q => h.run pins s σ H Q I (i σ H Q q)⟩
/-- from a value to what is walked -/
theorem iF.bind {F : Env → Sto → R D} {G : D → Sto → R (List D × (Sto → Prop))} {K : PySem.W.Frag} {σ : L2.St} {Rr : It → Hp → Prop} {Q1 : V → Hp → Prop} (h : iF K T WE (fun ρ st => (F ρ st).bind G) σ H Rr)
    (k : ∀ L M ρ a st1 x L1 H1, SRel K T L1 M H1 st1 → ERel K L1 M H1 σ ρ → Rep K L1 M H1 a x → (match G a st1 with
      | .ok p st' => ∀ J L' H', Ext L1 M H1 L' H' → SRel K T L' M H' st' → ItOk K T J p.1 p.2 L' M H' → Rr J H'
      | .exc c st' => ∀ L' H', Ext L1 M H1 L' H' → SRel K T L' M H' st' → WE c H'
      | .bad => False) → L = L1 → Q1 x H1) : tF K T WE F σ H Q1 := by
  obtain ⟨L, M, ρ, st, s, e, h⟩ := h
  refine ⟨L, M, ρ, st, s, e, ?_⟩
  cases hF : F ρ st with
  | bad => simp only [hF] at h; exact h
  | exc c st1 => simp only [hF] at h; exact h
  | ok d st1 =>
    simp only [hF, R.bind] at h
    intro v L1 H1 e1 s1 r1
    refine k L1 M ρ d st1 v L1 H1 s1 (e.ext e1) r1 ?_ rfl
    cases hG : G d st1 with
    | bad => rw [hG] at h; exact h
    | exc c st2 => rw [hG] at h; exact fun L' H' e2 s2 => h L' H' (e1.trans e2) s2
    | ok p st2 => rw [hG] at h; exact fun J L' H' e2 s2 j => h J L' H' (e1.trans e2) s2 j
theorem fi_seq (ha : PE X e (tF X.K T WE Fa)) : PI X tg e (iF X.K T WE (iSeq Fa)) :=
  PI.w (pi_sq ha) fun σ H Rr h => by
    have h' : iF X.K T WE (fun ρ st => (Fa ρ st).bind fun d s1 => match srcOf s1 d with
      | some p => .ok p s1
      | none => .bad) σ H Rr := by
      obtain ⟨L, M, ρ, st, s, e, h⟩ := h
      exact ⟨L, M, ρ, st, s, e, by rw [iSeq_eq] at h; exact h⟩
    refine iF.bind h' fun _ M ρ d st1 v L1 H1 s1 e1 r1 h2 _ => ?_
    cases hp : srcOf st1 d with
    | none => rw [hp] at h2; exact h2.elim
    | some p =>
      rw [hp] at h2
      obtain ⟨bt, a, rfl, hs⟩ := srcOf_ok s1 r1 hp
      obtain ⟨xs0, q0, _⟩ := hs M L1 H1 st1 (fun _ _ _ _ z => z) Ext.refl s1 (srcOk_now hp)
      refine ⟨bt, a, rfl, ⟨xs0, q0⟩, h2 _ L1 H1 Ext.refl s1 ?_⟩
      intro i M2 L2 H2 st2 g e2 s2 ho
      obtain ⟨xs, q, rx⟩ := hs M2 L2 H2 st2 g e2 s2 ho
      refine ⟨fun d' hd => ?_, fun hi => ?_⟩
      · obtain ⟨x, hx, rx1⟩ := rx.get hd
        cases bt with
        | true => exact ⟨⟨xs, x, q, hx⟩, fun y H3 hy => by
            obtain ⟨rfl, hy⟩ := hy
            have := hy xs q
            rw [hx] at this
            cases this
            exact ⟨Ext.refl, s2, rx1⟩⟩
        | false => exact ⟨⟨xs, x, q, hx⟩, fun y H3 hy => by
            obtain ⟨rfl, hy⟩ := hy
            have := hy xs q
            rw [hx] at this
            cases this
            exact ⟨Ext.refl, s2, rx1⟩⟩
      · have hl : xs.length ≤ i := by rw [← rx.length, hi]; exact Nat.le_refl _
        cases bt with
        | true => exact ⟨xs, q, hl⟩
        | false => exact ⟨xs, q, hl⟩
end
end Fl
/-! Fl6: range, enumerate, zip; list comprehensions. -/
namespace Fl
open PySem PySem.Spec PyProof.Rows L2

/-- lo, lo + c, .. (n of them) -/
def rangeD (lo c : Int) (n : Nat) : List D := (List.range n).map fun (i : Nat) => PyData.int (lo + ((i : Nat) : Int) * c)
def okR (i : Int) : Prop := -4611686018427387904 ≤ i ∧ i < 4611686018427387904
/-- no machine evaluates this test: it would count to its bounds -/
noncomputable instance (i : Int) : Decidable (okR i) := Classical.propDecidable _
noncomputable def rng1 : List D → Option (List D)
  | [.int j] => if okR j then some (rangeD 0 1 j.toNat) else none
  | _ => none
noncomputable def rng2 : List D → Option (List D)
  | [.int i, .int j] => if okR i ∧ okR j then some (rangeD i 1 (j - i).toNat) else none
  | _ => none
open Classical in
noncomputable def rng3 : List D → Option (List D)
  | [.int i, .int j, .int c] => if c ≠ 0 ∧ c.natAbs < 1073741824 ∧ Builtin.Range.small i j c = true ∧ 0 ≤ Builtin.Range.rangeSize i j c then some (rangeD i c (Builtin.Range.rangeSize i j c).toNat) else none
  | _ => none
def iRng (f : List D → Option (List D)) (as : ExL) : ExI := fun ρ st => (as ρ st).bind fun ds s1 => match f ds with
  | some l => .ok (l, fun _ => True) s1
  | none => .bad
def enumD : Int → List D → List D
  | _, [] => []
  | k, d :: ds => .tuple [.int k, d] :: enumD (k + 1) ds
def enOf (st : Sto) : List D → Option (List D × (Sto → Prop))
  | [d] => (srcOf st d).map fun p => (enumD 0 p.1, p.2)
  | _ => none
def iEn (as : ExL) : ExI := fun ρ st => (as ρ st).bind fun ds s1 => match enOf s1 ds with
  | some p => .ok p s1
  | none => .bad
def zipD : List D → List D → List D
  | x :: xs, y :: ys => .tuple [x, y] :: zipD xs ys
  | _, _ => []
def zpOf (st : Sto) : List D → Option (List D × (Sto → Prop))
  | [d, e] => (srcOf st d).bind fun p => (srcOf st e).map fun q => (zipD p.1 q.1, fun s => p.2 s ∧ q.2 s)
  | _ => none
def iZp (as : ExL) : ExI := fun ρ st => (as ρ st).bind fun ds s1 => match zpOf s1 ds with
  | some p => .ok p s1
  | none => .bad
theorem enumD_len : ∀ (ds : List D) (k : Int), (enumD k ds).length = ds.length
  | [], _ => rfl
  | _ :: ds, k => by unfold enumD; rw [List.length_cons, enumD_len ds]; rfl
theorem enumD_get : ∀ (ds : List D) (k : Int) (i : Nat) (d : D), (enumD k ds)[i]? = some d → ∃ e, ds[i]? = some e ∧ d = .tuple [.int (k + i), e]
  | [], _, _, _, h => by simp [enumD] at h
  | e :: ds, k, 0, d, h => by simp [enumD] at h; exact ⟨e, rfl, by simp [h]⟩
  | e :: ds, k, i + 1, d, h => by
    obtain ⟨e', h1, h2⟩ := enumD_get ds (k + 1) i d (by simpa [enumD] using h)
    exact ⟨e', by simpa using h1, by rw [h2, show k + 1 + (i : Int) = k + ((i + 1 : Nat) : Int) by omega]⟩
theorem zipD_len : ∀ (xs ys : List D), (zipD xs ys).length = min xs.length ys.length
  | [], _ => by simp [zipD]
  | _ :: _, [] => by simp [zipD]
  | _ :: xs, _ :: ys => by unfold zipD; rw [List.length_cons, zipD_len xs ys]; simp only [List.length_cons]; omega
theorem zipD_get : ∀ (xs ys : List D) (i : Nat) (d : D), (zipD xs ys)[i]? = some d → ∃ x y, xs[i]? = some x ∧ ys[i]? = some y ∧ d = .tuple [x, y]
  | [], _, _, _, h => by simp [zipD] at h
  | _ :: _, [], _, _, h => by simp [zipD] at h
  | x :: xs, y :: ys, 0, d, h => by simp [zipD] at h; exact ⟨x, y, rfl, rfl, h.symm⟩
  | x :: xs, y :: ys, i + 1, d, h => by
    obtain ⟨x', y', h1, h2, h3⟩ := zipD_get xs ys i d (by simpa [zipD] using h)
    exact ⟨x', y', by simpa using h1, by simpa using h2, h3⟩
section
variable {X : Cx} {T : List (Addr × Str)} {L M : List Addr} {H : Hp} {st : Sto} {WE : Nat → Hp → Prop}
variable {e e2 a b c tg : Expr} {pos p tpos : Pos} {Fa Fb Fc : Ex} {La : ExL} {elts : List Expr} {kk : Nat}
theorem iF.bindL {F : ExL} {G : List D → Sto → R (List D × (Sto → Prop))} {K : PySem.W.Frag} {σ : L2.St} {Rr : It → Hp → Prop} {Q1 : List V → Hp → Prop} (h : iF K T WE (fun ρ st => (F ρ st).bind G) σ H Rr)
    (k : ∀ M ρ a st1 x L1 H1, SRel K T L1 M H1 st1 → ERel K L1 M H1 σ ρ → RepL K L1 M H1 a x → (match G a st1 with
      | .ok p st' => ∀ J L' H', Ext L1 M H1 L' H' → SRel K T L' M H' st' → ItOk K T J p.1 p.2 L' M H' → Rr J H'
      | .exc c st' => ∀ L' H', Ext L1 M H1 L' H' → SRel K T L' M H' st' → WE c H'
      | .bad => False) → Q1 x H1) : tFA K T WE F σ H Q1 := by
  obtain ⟨L, M, ρ, st, s, e, h⟩ := h
  refine ⟨L, M, ρ, st, s, e, ?_⟩
  cases hF : F ρ st with
  | bad => simp only [hF] at h; exact h
  | exc c st1 => simp only [hF] at h; exact h
  | ok d st1 =>
    simp only [hF, R.bind] at h
    intro v L1 H1 e1 s1 r1
    refine k M ρ d st1 v L1 H1 s1 (e.ext e1) r1 ?_
    cases hG : G d st1 with
    | bad => rw [hG] at h; exact h
    | exc c st2 => rw [hG] at h; exact fun L' H' e2 s2 => h L' H' (e1.trans e2) s2
    | ok p st2 => rw [hG] at h; exact fun J L' H' e2 s2 j => h J L' H' (e1.trans e2) s2 j
theorem itok_r {K : PySem.W.Frag} {lo : Int} {n : Nat} : ItOk K T (Itr lo n) (rangeD lo 1 n) (fun _ => True) L M H := fun i M1 L1 H1 st1 g e1 s1 _ => by
  refine ⟨fun d hd => ?_, fun hi => ?_⟩
  · unfold rangeD at hd
    rw [List.getElem?_map] at hd
    by_cases hi : i < n
    · rw [List.getElem?_range hi] at hd
      cases hd
      exact ⟨hi, fun x H2 hy => by
        obtain ⟨rfl, rfl⟩ := hy
        exact ⟨Ext.refl, s1, (by show V.int _ = V.int _; rw [Int.mul_one])⟩⟩
    · rw [List.getElem?_eq_none (by simpa using hi)] at hd
      cases hd
  · have : i = n := by rw [hi]; simp [rangeD]
    exact (show n ≤ i by omega)
theorem itok_c {K : PySem.W.Frag} {lo c : Int} {n : Nat} : ItOk K T (Itc lo c n) (rangeD lo c n) (fun _ => True) L M H := fun i M1 L1 H1 st1 g e1 s1 _ => by
  refine ⟨fun d hd => ?_, fun hi => ?_⟩
  · unfold rangeD at hd
    rw [List.getElem?_map] at hd
    by_cases hi : i < n
    · rw [List.getElem?_range hi] at hd
      cases hd
      exact ⟨hi, fun x H2 hy => by
        obtain ⟨rfl, rfl⟩ := hy
        exact ⟨Ext.refl, s1, rfl⟩⟩
    · rw [List.getElem?_eq_none (by simpa using hi)] at hd
      cases hd
  · have : i = n := by rw [hi]; simp [rangeD]
    exact (show n ≤ i by omega)
theorem two62 : ((2 : Int) ^ 62) = 4611686018427387904 := by decide
theorem fi_rng1 (ha : PA X [a] (tFA X.K T WE La)) (hm : X.mg "range" = none) (hg : Gl X "range" := by rfl) (hs : starEach [a] X.env = [(false, eval a X.env)] := by rfl) : PI X tg (.Call (.Name "range" p) [a] [] pos) (iF X.K T WE (iRng rng1 La)) :=
  PI.w (pi_range1 hg hm ha hs) fun σ H Rr h => iF.bindL h fun M ρ ds st1 vs L1 H1 s1 e1 r1 h2 => by
    cases hp : rng1 ds with
    | none => rw [hp] at h2; exact h2.elim
    | some l =>
      rw [hp] at h2
      unfold rng1 at hp
      split at hp
      · rename_i j
        obtain ⟨v, r, rfl, rv, rr⟩ := r1
        cases (show r = [] from rr)
        cases (show v = .int j from rv)
        split at hp
        · rename_i hok
          cases hp
          refine ⟨j, rfl, ?_, ?_, h2 _ L1 H1 Ext.refl s1 itok_r⟩
          · rw [two62]; exact hok.1
          · rw [two62]; exact hok.2
        · cases hp
      · cases hp
theorem fi_rng2 (ha : PA X [a, b] (tFA X.K T WE La)) (hm : X.mg "range" = none) (hg : Gl X "range" := by rfl) (hs : starEach [a, b] X.env = [(false, eval a X.env), (false, eval b X.env)] := by rfl) (hs2 : starEach [b] X.env = [(false, eval b X.env)] := by rfl) : PI X tg (.Call (.Name "range" p) [a, b] [] pos) (iF X.K T WE (iRng rng2 La)) :=
  PI.w (pi_range2 hg hm ha hs hs2) fun σ H Rr h => iF.bindL h fun M ρ ds st1 vs L1 H1 s1 e1 r1 h2 => by
    cases hp : rng2 ds with
    | none => rw [hp] at h2; exact h2.elim
    | some l =>
      rw [hp] at h2
      unfold rng2 at hp
      split at hp
      · rename_i i j
        obtain ⟨v, r, rfl, rv, v2, r2, rfl, rv2, rr⟩ := r1
        cases (show r2 = [] from rr)
        cases (show v = .int i from rv)
        cases (show v2 = .int j from rv2)
        split at hp
        · rename_i hok
          cases hp
          refine ⟨i, j, rfl, ⟨?_, ?_, ?_, ?_⟩, h2 _ L1 H1 Ext.refl s1 itok_r⟩
          · rw [two62]; exact hok.1.1
          · rw [two62]; exact hok.1.2
          · rw [two62]; exact hok.2.1
          · rw [two62]; exact hok.2.2
        · cases hp
      · cases hp
theorem fi_rng3 (ha : PA X [a, b, c] (tFA X.K T WE La)) (hm : X.mg "range" = none) (hg : Gl X "range" := by rfl)
    (hs : starEach [a, b, c] X.env = (false, eval a X.env) :: starEach [b, c] X.env := by rfl) (hpl : (backTo pos (starEach [b, c] X.env)).any (·.1) = false := by rfl) : PI X tg (.Call (.Name "range" p) [a, b, c] [] pos) (iF X.K T WE (iRng rng3 La)) :=
  PI.w (pi_range3 hg hm ha hs hpl) fun σ H Rr h => iF.bindL h fun M ρ ds st1 vs L1 H1 s1 e1 r1 h2 => by
    cases hp : rng3 ds with
    | none => rw [hp] at h2; exact h2.elim
    | some l =>
      rw [hp] at h2
      unfold rng3 at hp
      split at hp
      · rename_i i j k
        obtain ⟨v, r, rfl, rv, v2, r2, rfl, rv2, v3, r3, rfl, rv3, rr⟩ := r1
        cases (show r3 = [] from rr)
        cases (show v = .int i from rv)
        cases (show v2 = .int j from rv2)
        cases (show v3 = .int k from rv3)
        split at hp
        · rename_i hok
          cases hp
          exact ⟨i, j, k, _, rfl, ⟨hok.1, hok.2.1, hok.2.2.1, (Int.toNat_of_nonneg hok.2.2.2).symm⟩, h2 _ L1 H1 Ext.refl s1 itok_c⟩
        · cases hp
      · cases hp
theorem rng3_neg {i j : Int} (h1 : okR i) (h2 : okR j) : rng3 [.int i, .int j, .int (-1)] = some (rangeD i (-1) (i - j).toNat) := by
  have h := RgC.neg (i := i) (j := j) (by rw [two62]; exact h1.1) (by rw [two62]; exact h1.2) (by rw [two62]; exact h2.1) (by rw [two62]; exact h2.2)
  obtain ⟨q1, q2, q3, q4⟩ := h
  show (if _ then _ else _) = _
  rw [q4, if_pos ⟨q1, q2, q3, by omega⟩]
  rfl
/-! ### enumerate, zip -/
theorem pi_E {ta : TA} (hg : Gl X "enumerate") (hm : X.mg "enumerate" = none) (ha : PA X [e] ta) (hs : starEach [e] X.env = [(false, eval e X.env)] := by rfl) :
    PI X (.Tuple elts kk tpos) (.Call (.Name "enumerate" p) [e] [] pos) (fun σ H R => ta σ H fun vs H1 => ∃ (bt : Bool) (a : Addr) (xs : List V), vs = [.ref a] ∧ SqX X.K bt H1 a xs ∧ R (ItE X.K bt a) H1) := by
  refine ⟨fun pins s σ H R I h => ?_⟩
  refine Call_ (ld_blt I hg hm boot_enumerate (PyProof.Rows.callWith_type1 (thn (ha.run pos pins s σ H _ I h) fun us s1 ⟨vs, H1, I1, r1, q1⟩ => ?_) hs rfl))
  obtain ⟨bt, a, xs, ex, hq, q⟩ := q1
  subst ex
  cases r1 with
  | cons r rr =>
    cases rr
    cases r
    obtain ⟨its, rv, p', hz⟩ := sqx_at I1 hq
    obtain ⟨o, B, bi⟩ := begx bt a its.toArray
    refine enum_begins1 B p' fun h' he hit hsz hk => wpAny_pyIter_enum he ?_
    have I2 : Inv X pins σ H1 { s1 with heap := h' } := I1.kept (t' := s1.toks) hk
    have hlt := p'.lt
    refine ⟨s1.heap.objs.size + 1, [s1.heap.objs.size + 1, s1.heap.objs.size], _, _, H1, rfl, I2, turn_E (b := bt) (a := a) (e := s1.heap.objs.size + 1) (it := s1.heap.objs.size) (Nat.succ_ne_self _) (Nat.ne_of_lt (Nat.lt_succ_of_lt hlt)) (Nat.ne_of_lt hlt), ⟨⟨.none, he⟩, bi h' _ hit⟩, fun b hb => ?_, q⟩
    have e' : b = s1.heap.objs.size + 1 ∨ b = s1.heap.objs.size := by simpa using hb
    have hle : s1.heap.objs.size ≤ b := by
      rcases e' with z | z
      · rw [z]; exact Nat.le_add_right _ _
      · rw [z]; exact Nat.le_refl _
    exact I1.fpOk hle (I1.hok.fresh hle)
theorem fi_enum (ha : PA X [e] (tFA X.K T WE La)) (hm : X.mg "enumerate" = none) (hg : Gl X "enumerate" := by rfl) (hs : starEach [e] X.env = [(false, eval e X.env)] := by rfl) :
    PI X (.Tuple elts kk tpos) (.Call (.Name "enumerate" p) [e] [] pos) (iF X.K T WE (iEn La)) :=
  PI.w (pi_E hg hm ha hs) fun σ H Rr h => iF.bindL h fun M ρ ds st1 vs L1 H1 s1 e1 r1 h2 => by
    cases hpp : enOf st1 ds with
    | none => rw [hpp] at h2; exact h2.elim
    | some p0 =>
      rw [hpp] at h2
      unfold enOf at hpp
      split at hpp
      · rename_i d
        obtain ⟨v, r, rfl, rv, rr⟩ := r1
        cases (show r = [] from rr)
        cases hp : srcOf st1 d with
        | none => rw [hp] at hpp; cases hpp
        | some pp =>
          rw [hp] at hpp
          cases hpp
          obtain ⟨bt, a, rfl, hs⟩ := srcOf_ok s1 rv hp
          obtain ⟨xs0, q0, _⟩ := hs M L1 H1 st1 (fun _ _ _ _ z => z) Ext.refl s1 (srcOk_now hp)
          refine ⟨bt, a, xs0, rfl, q0, h2 _ L1 H1 Ext.refl s1 ?_⟩
          intro i M2 L2 H2 st2 g e2 s2 ho
          obtain ⟨xs, q, rx⟩ := hs M2 L2 H2 st2 g e2 s2 ho
          refine ⟨fun d' hd => ?_, fun hi => ?_⟩
          · obtain ⟨e3, he3, rfl⟩ := enumD_get _ _ _ _ hd
            obtain ⟨x, hx, rx1⟩ := rx.get he3
            exact ⟨⟨xs, x, q, hx⟩, fun y H3 hy => by
              obtain ⟨T3, x', rfl, hT, rfl, hy⟩ := hy
              have := hy xs q
              rw [hx] at this
              cases this
              have en := Ext.new (L := L2) (M := M2) (o := .tup [V.int (i : Nat), x]) hT
              refine ⟨en, s2.new hT, T3, [V.int (i : Nat), x], rfl, .inl ⟨.inl upd_same, s2.fresh hT, s2.notM hT⟩, _, _, rfl, ?_, x, [], rfl, rx1.ext en, rfl⟩
              show V.int _ = V.int _
              rw [Int.zero_add]⟩
          · exact ⟨xs, q, by rw [hi, enumD_len, rx.length]⟩
      · cases hpp
theorem pi_Z {ta : TA} (hg : Gl X "zip") (hm : X.mg "zip" = none) (ha : PA X [e, e2] ta)
    (hs : starEach [e, e2] X.env = (false, eval e X.env) :: starEach [e2] X.env := by rfl) (hpl : (backTo pos (starEach [e2] X.env)).any (·.1) = false := by rfl) :
    PI X (.Tuple elts kk tpos) (.Call (.Name "zip" p) [e, e2] [] pos) (fun σ H R => ta σ H fun vs H1 => ∃ (b1 b2 : Bool) (a1 a2 : Addr) (xs ys : List V), vs = [.ref a1, .ref a2] ∧ SqX X.K b1 H1 a1 xs ∧ SqX X.K b2 H1 a2 ys ∧ R (ItZ X.K b1 b2 a1 a2) H1) := by
  refine ⟨fun pins s σ H R I h => ?_⟩
  refine Call_ (ld_blt I hg hm PyProof.Rows.boot_zip (PyProof.Rows.callWith_type1 (thn (ha.run pos pins s σ H _ I h) fun us s1 ⟨vs, H1, I1, r1, q1⟩ => ?_) hs hpl))
  obtain ⟨b1, b2, a1, a2, xs, ys, ex, hq1, hq2, q⟩ := q1
  subst ex
  cases r1 with
  | cons r rr =>
    cases rr with
    | cons r' rr =>
      cases rr
      cases r
      cases r'
      obtain ⟨its, rv, p1, hz⟩ := sqx_at I1 hq1
      obtain ⟨its2, rv2, p2, hz2⟩ := sqx_at I1 hq2
      obtain ⟨o1, B1, bi1⟩ := begx b1 a1 its.toArray
      obtain ⟨o2, B2, bi2⟩ := begx b2 a2 its2.toArray
      refine zip_begins2 B1 B2 p1 p2 fun h' hz hTI hTO h1 h2 hsz hk => wpAny_pyIter_zip hz ?_
      have I2 : Inv X pins σ H1 { s1 with heap := h' } := I1.kept (t' := s1.toks) hk
      have l1 := p1.lt
      have l2 := p2.lt
      have S : ZipSep2 (s1.heap.objs.size + 4) (s1.heap.objs.size + 2) (s1.heap.objs.size + 3) s1.heap.objs.size (s1.heap.objs.size + 1) [s1.heap.objs.size, a1] [s1.heap.objs.size + 1, a2] := zip_sep2 (fun b hb => by rw [List.mem_singleton.mp hb]; exact l1) (fun b hb => by rw [List.mem_singleton.mp hb]; exact l2)
      refine ⟨s1.heap.objs.size + 4, [s1.heap.objs.size + 4, s1.heap.objs.size + 2, s1.heap.objs.size + 3, s1.heap.objs.size, s1.heap.objs.size + 1], _, _, H1, rfl, I2, turn_Z (b1 := b1) (b2 := b2) S (Nat.ne_of_lt l1) (Nat.ne_of_lt (Nat.lt_succ_of_lt l2)), ⟨hz, hTI, ⟨_, _, hTO⟩, bi1 h' _ h1, bi2 h' _ h2⟩, fun c hcm => ?_, q⟩
      have e' : c = s1.heap.objs.size + 4 ∨ c = s1.heap.objs.size + 2 ∨ c = s1.heap.objs.size + 3 ∨ c = s1.heap.objs.size ∨ c = s1.heap.objs.size + 1 := by simpa using hcm
      have hle : s1.heap.objs.size ≤ c := by
        rcases e' with z | z | z | z | z
        · rw [z]; exact Nat.le_add_right _ _
        · rw [z]; exact Nat.le_add_right _ _
        · rw [z]; exact Nat.le_add_right _ _
        · rw [z]; exact Nat.le_refl _
        · rw [z]; exact Nat.le_add_right _ _
      exact I1.fpOk hle (I1.hok.fresh hle)
theorem fi_zip (ha : PA X [e, e2] (tFA X.K T WE La)) (hm : X.mg "zip" = none) (hg : Gl X "zip" := by rfl)
    (hs : starEach [e, e2] X.env = (false, eval e X.env) :: starEach [e2] X.env := by rfl) (hpl : (backTo pos (starEach [e2] X.env)).any (·.1) = false := by rfl) :
    PI X (.Tuple elts kk tpos) (.Call (.Name "zip" p) [e, e2] [] pos) (iF X.K T WE (iZp La)) :=
  PI.w (pi_Z hg hm ha hs hpl) fun σ H Rr h => iF.bindL h fun M ρ ds st1 vs L1 H1 s1 e1 r1 h2 => by
    cases hpp : zpOf st1 ds with
    | none => rw [hpp] at h2; exact h2.elim
    | some p0 =>
      rw [hpp] at h2
      unfold zpOf at hpp
      split at hpp
      · rename_i d d2
        obtain ⟨v, r, rfl, rv, v2, r2, rfl, rv2, rr⟩ := r1
        cases (show r2 = [] from rr)
        cases hp : srcOf st1 d with
        | none => rw [hp] at hpp; cases hpp
        | some pp =>
          cases hp2 : srcOf st1 d2 with
          | none => rw [hp, hp2] at hpp; cases hpp
          | some pq =>
            rw [hp, hp2] at hpp
            cases hpp
            obtain ⟨bt, a, rfl, hs⟩ := srcOf_ok s1 rv hp
            obtain ⟨xs0, q0, _⟩ := hs M L1 H1 st1 (fun _ _ _ _ z => z) Ext.refl s1 (srcOk_now hp)
            obtain ⟨bt2, a2, rfl, hs2⟩ := srcOf_ok s1 rv2 hp2
            obtain ⟨ys0, q02, _⟩ := hs2 M L1 H1 st1 (fun _ _ _ _ z => z) Ext.refl s1 (srcOk_now hp2)
            refine ⟨bt, bt2, a, a2, xs0, ys0, rfl, q0, q02, h2 _ L1 H1 Ext.refl s1 ?_⟩
            intro i M2 L2 H2 st2 g e2 s2 ho
            obtain ⟨xs, q, rx⟩ := hs M2 L2 H2 st2 g e2 s2 ho.1
            obtain ⟨ys, q2, ry⟩ := hs2 M2 L2 H2 st2 g e2 s2 ho.2
            refine ⟨fun d' hd => ?_, fun hi => ?_⟩
            · obtain ⟨e3, e4, he3, he4, rfl⟩ := zipD_get _ _ _ _ hd
              obtain ⟨x, hx, rx1⟩ := rx.get he3
              obtain ⟨y, hy, ry1⟩ := ry.get he4
              exact ⟨⟨xs, ys, x, y, q, q2, hx, hy⟩, fun z H3 hz => by
                obtain ⟨T3, x', y', rfl, hT, rfl, hz1, hz2⟩ := hz
                have := hz1 xs q
                rw [hx] at this
                cases this
                have := hz2 ys q2
                rw [hy] at this
                cases this
                have en := Ext.new (L := L2) (M := M2) (o := .tup [x, y]) hT
                exact ⟨en, s2.new hT, T3, [x, y], rfl, .inl ⟨.inl upd_same, s2.fresh hT, s2.notM hT⟩, _, _, rfl, rx1.ext en, _, _, rfl, ry1.ext en, rfl⟩⟩
            · exact ⟨xs, ys, q, q2, by rw [hi, zipD_len, rx.length, ry.length]⟩
      · cases hpp
end
end Fl
/-! Fl7: list comprehensions. -/
namespace Fl
open PySem PySem.Spec PyProof.Rows L2

theorem wipe_set {σ : L2.St} {i : Nat} {x : Option V} : ∀ {vs : List Nat}, i ∈ vs → L2.wipe (σ.set i x) vs = L2.wipe σ vs
  | v :: vs, h => by
    unfold L2.wipe
    by_cases hv : i ∈ vs
    · rw [wipe_set hv]
    · have e : i = v := (List.mem_cons.mp h).resolve_right hv
      subst e
      have z : ∀ ws : List Nat, i ∉ ws → L2.wipe (σ.set i x) ws = (L2.wipe σ ws).set i x := fun ws => by
        induction ws with
        | nil => intro _; rfl
        | cons w ws ih =>
          intro hn
          unfold L2.wipe
          rw [ih (fun m => hn (List.mem_cons_of_mem _ m)), List.set_comm _ _ (fun e => hn (by rw [e]; exact List.mem_cons_self))]
      rw [z vs hv, List.set_set]
theorem wipe_wipe (σ : L2.St) (ws : List Nat) : ∀ vs : List Nat, (∀ v ∈ vs, v ∈ ws) → L2.wipe (L2.wipe σ vs) ws = L2.wipe σ ws
  | [], _ => rfl
  | v :: vs, h => by
    show L2.wipe ((L2.wipe σ vs).set v none) ws = _
    rw [wipe_set (h v List.mem_cons_self)]
    exact wipe_wipe σ ws vs fun u hu => h u (List.mem_cons_of_mem _ hu)
theorem wp_notin (ks : List Nat) : ∀ (ρ : Env) (i : Nat) d, (wp ks ρ)[i]? = some (some d) → i ∉ ks := by
  induction ks with
  | nil => intro ρ i d h; simp
  | cons k ks ih =>
    intro ρ i d h
    have h0 := ih (ρ.set k none) i d h
    have h1 := wp_some ks (ρ.set k none) i d h
    simp only [List.mem_cons, not_or]
    refine ⟨fun e => ?_, h0⟩
    subst e
    by_cases hl : i < ρ.length
    · rw [List.getElem?_set_self hl] at h1; cases h1
    · rw [List.getElem?_eq_none (by simpa using hl)] at h1; cases h1
open Classical in
noncomputable def compL (src : Sto → Prop) (tg : Tg) (cd : ExB) (el : Ex) : List D → ExL
  | [], _, st => if src st then .ok [] st else .bad
  | d :: ds, ρ, st => if src st then (tg d ρ st).bind fun ρ1 s1 => (cd ρ1 s1).bind fun k s2 =>
      if k = true then (el ρ1 s2).bind fun y s3 => (compL src tg cd el ds ρ s3).bind fun ys s4 => .ok (y :: ys) s4 else compL src tg cd el ds ρ s2 else .bad
/-- an error inside is not served -/
def noX {α : Type} : R α → R α
  | .ok a s => .ok a s
  | _ => .bad
noncomputable def eComp (it : ExI) (ks : List Nat) (tg : Tg) (cd : ExB) (el : Ex) : ExL := fun ρ st => (it ρ st).bind fun p s1 => if p.1.length ≤ 16777216 then noX (compL p.2 tg cd el p.1 (wp ks ρ) s1) else .bad
def bYes : ExB := fun _ st => .ok true st
section
variable {K : PySem.W.Frag} {T : List (Addr × Str)} {L M : List Addr} {H : Hp} {st : Sto}
theorem ERel.wipe {σ : L2.St} {ρ : Env} (e : ERel K L M H σ ρ) (ks : List Nat) : ERel K L M H (L2.wipe σ ks) (Fl.wp ks ρ) :=
  ⟨by rw [L2.wipe_length, wp_length]; exact e.len, fun i d h => by
    obtain ⟨v, h1, h2⟩ := e.at_ i d (wp_some ks ρ i d h)
    exact ⟨v, by rw [L2.wipe_out (wp_notin ks ρ i d h)]; exact h1, h2⟩⟩
/-- a target of a comprehension: it stores the block's own names alone -/
abbrev RVC (K : PySem.W.Frag) (vs : List Nat) (σ0 : L2.St) : List Addr → List Addr → Hp → Env → L2.St → Prop := fun L M H ρ σ => ERel K L M H σ ρ ∧ L2.wipe σ vs = L2.wipe σ0 vs
mutual
theorem Rep.but {p : Addr} {o : HO} : ∀ {d : D} {v : V}, Rep K L (p :: M) H d v → Rep K L (p :: M) (upd H p o) d v
  | .none, _, h => h
  | .bool _, _, h => h
  | .int _, _, h => h
  | .str _, _, h => h
  | .list _, _, ⟨a, xs, e1, h1, h2⟩ => ⟨a, xs, e1, (by
      rcases h1 with ⟨r, v⟩ | h1
      · have n : a ≠ p := fun z => v.2 (by rw [z]; exact List.mem_cons_self)
        refine .inl ⟨?_, v⟩
        rcases r with r | ⟨u, r⟩
        · exact .inl (by rw [upd_ne n]; exact r)
        · exact .inr ⟨u, by rw [upd_ne n]; exact r⟩
      · exact .inr h1), RepL.but h2⟩
  | .tuple _, _, ⟨a, xs, e1, h1, h2⟩ => ⟨a, xs, e1, (by
      rcases h1 with ⟨r, v⟩ | h1
      · have n : a ≠ p := fun z => v.2 (by rw [z]; exact List.mem_cons_self)
        refine .inl ⟨?_, v⟩
        rcases r with r | ⟨u, r⟩
        · exact .inl (by rw [upd_ne n]; exact r)
        · exact .inr ⟨u, by rw [upd_ne n]; exact r⟩
      · exact .inr h1), RepL.but h2⟩
  | .dict _, _, h => h
theorem RepL.but {p : Addr} {o : HO} : ∀ {ds : List D} {xs : List V}, RepL K L (p :: M) H ds xs → RepL K L (p :: M) (upd H p o) ds xs
  | [], _, h => h
  | _ :: _, _, ⟨x, r, e1, h1, h2⟩ => ⟨x, r, e1, Rep.but h1, RepL.but h2⟩
end
theorem rep_but {p : Addr} {o : HO} : (∀ d v, Rep K L (p :: M) H d v → Rep K L (p :: M) (upd H p o) d v) ∧ ∀ d v, RepL K L (p :: M) H d v → RepL K L (p :: M) (upd H p o) d v := ⟨fun _ _ => Rep.but, fun _ _ => RepL.but⟩
variable (K T) in
def cF (vs : List Nat) (G : Tg) : TG := fun v σ H Q => ∃ L M ρ st d, SRel K T L M H st ∧ ERel K L M H σ ρ ∧ Rep K L M H d v ∧ Po K T (RVC K vs σ) L M H (G d ρ st) (fun _ _ => False) Q
variable (K T) in
def csF (vs : List Nat) (G : List D → Env → Sto → R Env) : TGs := fun xs σ H Q => ∃ L M ρ st ds, SRel K T L M H st ∧ ERel K L M H σ ρ ∧ RepL K L M H ds xs ∧ Po K T (RVC K vs σ) L M H (G ds ρ st) (fun _ _ => False) Q
end
section
variable {X : Cx} {T : List (Addr × Str)} {L M : List Addr} {H : Hp} {st : Sto} {WE : Nat → Hp → Prop}
variable {e a b c tg : Expr} {pos : Pos} {Fa Fb Fc : Ex} {La : ExL} {Tg1 : Tg} {Tgs : List D → Env → Sto → R Env} {vs : List Nat}
theorem cg_name {i : Nat} {x : Str} (hN : X.N.Nodup) (hi : X.N[i]? = some x) (hx : Loc X.env.scope x) (hv : i ∈ vs) (hf : X.fn x = true ∨ X.env.scope.names.lookup x = some .local := by first | exact .inl rfl | exact .inr rfl | assumption) : PG X (.Name x pos) (cF X.K T vs (gN i)) :=
  PG.w (pg_name hN hi hx hf) fun v σ H Q ⟨L, M, ρ, st, d, s, e, r, h⟩ => h _ L H Ext.refl s ⟨e.set r i, wipe_set hv⟩
theorem cgs_nil : PGs X [] (csF X.K T vs gsNil) := PGs.w pgs_nil fun xs σ H Q ⟨L, M, ρ, st, ds, s, e, r, h⟩ => by
  unfold gsNil at h
  cases ds with
  | nil => exact ⟨r, h σ L H Ext.refl s ⟨e, rfl⟩⟩
  | cons d ds => exact h.elim
theorem cgs_cons {es : List Expr} (h1 : PG X e (cF X.K T vs Tg1)) (h2 : PGs X es (csF X.K T vs Tgs)) (hs : (assignEach (e :: es) X.env).map (·.2) = assign e X.env :: (assignEach es X.env).map (·.2) := by rfl) : PGs X (e :: es) (csF X.K T vs (gsCons Tg1 Tgs)) :=
  PGs.w (pgs_cons h1 h2 hs) fun xs σ H Q ⟨L, M, ρ, st, ds, s, e, r, h⟩ => by
    unfold gsCons at h
    cases ds with
    | nil => exact h.elim
    | cons d ds =>
      obtain ⟨x, xs, rfl, r1, r2⟩ := r
      refine ⟨x, xs, rfl, L, M, ρ, st, d, s, e, r1, ?_⟩
      simp only at h
      cases hG : Tg1 d ρ st with
      | ok ρ1 st1 =>
        rw [hG] at h
        intro σ' L' H' e1 s1 r3
        refine ⟨L', M, ρ1, st1, ds, s1, r3.1, r2.ext e1, ?_⟩
        have h3 := Po.ext e1 h
        have hw := r3.2
        simp only [R.bind] at h3
        cases hG2 : Tgs ds ρ1 st1 with
        | ok ρ2 st2 => rw [hG2] at h3; exact fun σ2 L2 H2 e2 s2 r4 => h3 σ2 L2 H2 e2 s2 ⟨r4.1, r4.2.trans hw⟩
        | exc c st2 => rw [hG2] at h3; exact h3
        | bad => rw [hG2] at h3; exact h3
      | exc c st1 => rw [hG] at h; exact h
      | bad => rw [hG] at h; exact h
theorem cg_tup {es : List Expr} {k : Nat} {n : Nat} (hc : X.calm = true) (h : PGs X es (csF X.K T vs Tgs))
    (hn : (assignEach es X.env).length = n := by rfl) (hst : (assignEach es X.env).findIdx? (·.1) = none := by rfl) : PG X (.Tuple es k pos) (cF X.K T vs (gTp (gLen n Tgs))) :=
  PG.w (pg_tup hc h hn hst) fun v σ H Q ⟨L, M, ρ, st, d, s, e, r, h⟩ => by
    unfold gTp gLen at h
    cases d with
    | tuple ds =>
      obtain ⟨a, xs, rfl, h1, h2⟩ := r
      dsimp only at h
      split at h
      · rename_i hl
        exact ⟨a, xs, rfl, h1.sq, by rw [← h2.length]; exact hl, L, M, ρ, st, ds, s, e, h2, h⟩
      · exact h.elim
    | _ => exact h.elim
theorem fts_nil : PTs X [] (tT X.K T WE bYes) := ⟨fun pins s σ H Q I h => by
  obtain ⟨L, M, ρ, st, sr, e, h⟩ := h
  exact pts_nil.run pins s σ H Q I (h true L H Ext.refl sr rfl)⟩
theorem fts_one {Ba : ExB} (h : PT X c (tT X.K T WE Ba)) : PTs X [c] (tT X.K T WE Ba) := pts_one h
abbrev W0 : Nat → Hp → Prop := fun _ _ => False
variable {It : ExI} {Cd : ExB} {Fe : Ex} {own : List (Str × Nat)}
theorem tlc {K : PySem.W.Frag} {σ : L2.St} {H : Hp} {Q : VK} {ks : List Nat} (h : tN K T WE (eComp It ks Tg1 Cd Fe) σ H Q) : tLc (iF K T WE It) (cF K T ks Tg1) (tT K T W0 Cd) (tF K T W0 Fe) ks σ H Q := by
  obtain ⟨L, M, ρ, st, s, e, h⟩ := h
  refine ⟨L, M, ρ, st, s, e, ?_⟩
  unfold eComp at h
  cases hI : It ρ st with
  | bad => rw [hI] at h; exact h
  | exc c st1 => rw [hI] at h; exact h
  | ok p st0 =>
    rw [hI] at h
    obtain ⟨all, src⟩ := p
    simp only [R.bind] at h
    intro J L0 H0 e0 s0 J0 Dn hD
    by_cases hall : all.length ≤ 16777216
    · rw [if_pos hall] at h
      have hDM : Dn ∉ M := s0.notM hD
      have hD0 : ∀ o, H Dn = some o → ¬ notTbl o := fun o q t => by
        have hL : Dn ∉ L := fun z => by
          obtain ⟨r, hr⟩ := e0.pre
          exact absurd (by rw [← hr]; exact List.mem_append_left _ z) (s0.fresh hD)
        have := (e0.keep Dn o q t hL).1
        rw [hD] at this; cases this
      obtain ⟨n1, n2, n3⟩ := newL (ds := []) (xs := []) s0 rfl hD
      -- what is wanted of the rest of the items
      let Fin : R (List D) → List D → Prop := fun r acc => match r with
        | .ok ys st' => ∀ xs L' H', Ext L0 M H0 L' H' → H' Dn = some (.lst xs) → SRel K T L' (Dn :: M) H' st' → RepL K L' (Dn :: M) H' (acc ++ ys) xs → Q (.ref Dn) H'
        | _ => False
      have hF0 : Fin (compL src Tg1 Cd Fe all (wp ks ρ) st0) [] := by
        cases hc : compL src Tg1 Cd Fe all (wp ks ρ) st0 with
        | ok ys st' =>
          rw [hc] at h
          exact fun xs L' H' e1 h1 s1 r1 => h Dn xs L' H' (e0.trans e1) hD0 hDM h1 s1 r1
        | exc c s => rw [hc] at h; exact h
        | bad => rw [hc] at h; exact h
      refine ⟨fun i m H' => ∃ L' st' acc xs, i + m = all.length ∧ Ext L0 M H0 L' H' ∧ SRel K T L' (Dn :: M) H' st' ∧ H' Dn = some (.lst xs) ∧ RepL K L' (Dn :: M) H' acc xs ∧ acc.length ≤ i ∧ Fin (compL src Tg1 Cd Fe (all.drop i) (wp ks ρ) st') acc,
        ⟨all.length, L0, st0, [], [], by omega, n1, n2, upd_same, n3, Nat.le_refl _, hF0⟩, ?_⟩
      rintro i m H' ⟨L', st', acc, xs, him, e1, s1, hDx, rx, hac, hF⟩
      have e1g : Ext L0 (Dn :: M) H0 L' H' := ⟨e1.pre, e1.keep⟩
      have g : GOk H' (Dn :: M) M := GOk.less fun b z => List.mem_cons_of_mem _ z
      have s1' : SRel K T L' M H' st' := s1.guard g s0.tM fun b z => s1.mM b (List.mem_cons_of_mem _ z)
      by_cases hi : i < all.length
      · rw [List.drop_eq_getElem_cons hi] at hF
        unfold compL at hF
        split at hF
        · rename_i hsrc
          obtain ⟨hgo, hyl⟩ := (J0 i (Dn :: M) L' H' st' (GOk.new hD) e1g s1 hsrc).1 all[i] (List.getElem?_eq_getElem hi)
          refine .inr ⟨hgo, fun H3 => ∃ L3 st3 acc3 xs3, (i + 1) + (m - 1) = all.length ∧ Ext L0 M H0 L3 H3 ∧ SRel K T L3 (Dn :: M) H3 st3 ∧ H3 Dn = some (.lst xs3) ∧ RepL K L3 (Dn :: M) H3 acc3 xs3 ∧ acc3.length ≤ i + 1 ∧ Fin (compL src Tg1 Cd Fe (all.drop (i + 1)) (wp ks ρ) st3) acc3, fun H3 z => ⟨m - 1, by omega, z⟩, fun x H2 hy => ?_⟩
          obtain ⟨e2, s2, r2⟩ := hyl x H2 hy
          have e2' : Ext L' M H' L' H2 := ⟨e2.pre, e2.keep⟩
          have hDL : Dn ∉ L' := fun z => s1.dj Dn z List.mem_cons_self
          have hD2 : H2 Dn = some (.lst xs) := (e2.keep Dn _ hDx True.intro hDL).1
          have er : ERel K L' (Dn :: M) H2 (L2.wipe σ ks) (wp ks ρ) := ((((e.ext e0).guard (GOk.new hD)).ext e1g).ext e2).wipe ks
          have hF2 := hF
          refine ⟨L', Dn :: M, wp ks ρ, st', all[i], s2, er, r2, ?_⟩
          cases hT : Tg1 all[i] (wp ks ρ) st' with
          | bad => rw [hT] at hF; exact hF
          | exc c s3 => rw [hT] at hF; exact hF.elim
          | ok ρ3 s3 =>
            rw [hT] at hF
            simp only [R.bind] at hF
            intro σ4 L4 H4 e4 s4 r4
            refine ⟨by rw [r4.2, wipe_wipe σ ks ks fun v hv => hv], ?_⟩
            refine ⟨L4, Dn :: M, ρ3, s3, s4, r4.1, ?_⟩
            cases hC : Cd ρ3 s3 with
            | bad => rw [hC] at hF; exact hF
            | exc c s5 => rw [hC] at hF; exact hF.elim
            | ok k s5 =>
              rw [hC] at hF
              simp only [R.bind] at hF
              intro kk L5 H5 e5 s5' hk
              cases (show k = kk from hk)
              have e25 : Ext L' M H' L5 H5 := (e2'.trans ⟨e4.pre, e4.keep⟩).trans ⟨e5.pre, e5.keep⟩
              have hD5 : H5 Dn = some (.lst xs) := (e25.keep Dn _ hDx True.intro hDL).1
              have e25g : Ext L' (Dn :: M) H' L5 H5 := ⟨e25.pre, e25.keep⟩
              cases k with
              | false =>
                simp only [Bool.false_eq_true, if_false] at hF ⊢
                exact ⟨L5, s5, acc, xs, by omega, ⟨(e1.trans e25).pre, (e1.trans e25).keep⟩, s5', hD5, rx.ext e25g, by omega, hF⟩
              | true =>
                simp only [if_true] at hF ⊢
                refine ⟨L5, Dn :: M, ρ3, s5, s5', r4.1.ext e5, ?_⟩
                cases hE : Fe ρ3 s5 with
                | bad => rw [hE] at hF; exact hF
                | exc c s6 => rw [hE] at hF; exact hF.elim
                | ok y s6 =>
                  rw [hE] at hF
                  simp only [R.bind] at hF
                  intro v6 L6 H6 e6 s6' r6
                  have e26 : Ext L' M H' L6 H6 := e25.trans ⟨e6.pre, e6.keep⟩
                  have e26g : Ext L' (Dn :: M) H' L6 H6 := ⟨e26.pre, e26.keep⟩
                  have hD6 : H6 Dn = some (.lst xs) := (e26.keep Dn _ hDx True.intro hDL).1
                  have hDL6 : Dn ∉ L6 := fun z => s6'.dj Dn z List.mem_cons_self
                  have hlen : xs.length = acc.length := rx.length.symm
                  refine ⟨xs, hD6, by rw [sizeLine_eq]; omega, ?_⟩
                  -- the new list: Dn changes alone, nothing leans on it
                  have key : ∀ a o, H6 a = some o → notTbl o → a ≠ Dn → upd H6 Dn (.lst (xs ++ [v6])) a = some o := fun a o q _ n => by rw [upd_ne n]; exact q
                  have av : ∀ {a : Addr}, Av L6 (Dn :: M) a → a ≠ Dn := fun v z => v.2 (by rw [z]; exact List.mem_cons_self)
                  have rdk : ∀ {a : Addr} {u : HO}, Rd H6 a u → a ≠ Dn → Rd (upd H6 Dn (.lst (xs ++ [v6]))) a u := fun {a u} q n => by
                    rcases q with q | ⟨o, q⟩
                    · exact .inl (by rw [upd_ne n]; exact q)
                    · exact .inr ⟨o, by rw [upd_ne n]; exact q⟩
                  obtain ⟨rk, rkL⟩ := rep_but (K := K) (L := L6) (M := M) (H := H6) (p := Dn) (o := .lst (xs ++ [v6]))
                  have s7 : SRel K T L6 (Dn :: M) (upd H6 Dn (.lst (xs ++ [v6]))) s6 :=
                    { nd := s6'.nd, dj := s6'.dj, len := s6'.len
                      obs := fun n o a q1 q2 => by
                        have ha : a ≠ Dn := fun z => hDL6 (by rw [← z]; exact List.mem_of_getElem? q2)
                        exact (s6'.obs n o a q1 q2).map (fun u q _ => by rw [upd_ne ha]; exact q) rk rkL
                      tabs := Tabs.write hD6 True.intro s6'.tabs
                      tM := s6'.tM
                      mM := fun a z => by
                        by_cases ha : a = Dn
                        · exact .inl ⟨.lst (xs ++ [v6]), by rw [ha, upd_same], True.intro⟩
                        · exact (s6'.mM a z).but ha }
                  have eF : Ext L0 M H0 L6 (upd H6 Dn (.lst (xs ++ [v6]))) := by
                    have := e1.trans e26
                    exact ⟨this.pre, fun a o q t n => by
                      obtain ⟨q1, q2⟩ := this.keep a o q t n
                      exact ⟨by rw [upd_ne (ne_of_none q hD)]; exact q1, q2⟩⟩
                  refine ⟨L6, s6, acc ++ [y], xs ++ [v6], by omega, eF, s7, upd_same, (rkL _ _ (rx.ext e26g)).append ⟨v6, [], rfl, rk _ _ r6, rfl⟩, by rw [List.length_append]; simp; omega, ?_⟩
                  cases hc : compL src Tg1 Cd Fe (all.drop (i + 1)) (wp ks ρ) s6 with
                  | ok ys st' =>
                    rw [hc] at hF
                    have hF' : ∀ xs L' H', Ext L0 M H0 L' H' → H' Dn = some (.lst xs) → SRel K T L' (Dn :: M) H' st' → RepL K L' (Dn :: M) H' (acc ++ y :: ys) xs → Q (.ref Dn) H' := hF
                    exact fun xs L' H' q1 q2 q3 q4 => hF' xs L' H' q1 q2 q3 (by rw [List.append_assoc] at q4; exact q4)
                  | exc c s => rw [hc] at hF; exact hF
                  | bad => rw [hc] at hF; exact hF
        · exact hF.elim
      · rw [List.drop_eq_nil_of_le (by omega)] at hF
        unfold compL at hF
        split at hF
        · rename_i hsrc
          refine .inl ⟨(J0 i (Dn :: M) L' H' st' (GOk.new hD) e1g s1 hsrc).2 (by show i = all.length; omega), ?_⟩
          exact hF xs L' H' e1 hDx s1 (by rw [List.append_nil]; exact rx)
        · exact hF.elim
    · rw [if_neg hall] at h; exact h.elim
theorem fn_lc {elt iter : Expr} {ifs : List Expr} {scope : Scope} (hc : X.calm = true) (hN : X.N.Nodup) (ok : BlkOk X.N X.env.scope scope own) (hi : PI X tg iter (iF X.K T WE It))
    (hg : ∀ (s : Shared) (H : Hp) (C : Addr) (cl : List (Str × Addr)) (fp : List Addr), PG (X.blk s H scope (compEnvC scope cl C X.env) fp) tg (cF X.K T (own.map (·.2)) Tg1))
    (ht : ∀ (s : Shared) (H : Hp) (C : Addr) (cl : List (Str × Addr)) (fp : List Addr), PTs (X.blk s H scope (compEnvC scope cl C X.env) fp) ifs (tT X.K T W0 Cd))
    (he : ∀ (s : Shared) (H : Hp) (C : Addr) (cl : List (Str × Addr)) (fp : List Addr), PE (X.blk s H scope (compEnvC scope cl C X.env) fp) elt (tF X.K T W0 Fe)) (hs : ∀ x, foldedSetIterable iter X.env x = pure x := by intro _; rfl) :
    PE X (.ListComp elt [⟨tg, iter, ifs, 0⟩] scope pos) (tN X.K T WE (eComp It (own.map (·.2)) Tg1 Cd Fe)) :=
  PE.w (pe_lc hc hN hi ok hg ht he hs) fun σ H Q h => tlc h
/-- a new list that nobody will change -/
theorem tn_frz {K : PySem.W.Frag} {σ : L2.St} {H : Hp} {Q : VK} (h : tF K T WE (eFrz La) σ H Q) : tN K T WE La σ H Q := by
  obtain ⟨L, M, ρ, st, s, e, h⟩ := h
  refine ⟨L, M, ρ, st, s, e, ?_⟩
  unfold eFrz at h
  cases hF : La ρ st with
  | bad => rw [hF] at h; exact h
  | exc c s1 => rw [hF] at h; exact h
  | ok ds s1 =>
    rw [hF] at h
    intro a xs L' H' e1 h0 nM h1 s1' r
    have na : a ∉ L' := fun z => s1'.dj a z List.mem_cons_self
    have g : GOk H' (a :: M) M := GOk.less fun b z => List.mem_cons_of_mem _ z
    have s2 : SRel K T L' M H' s1 := s1'.guard g s.tM fun b z => s1'.mM b (List.mem_cons_of_mem _ z)
    exact h (.ref a) L' H' e1 s2 ⟨a, xs, rfl, .inl ⟨.inl h1, na, nM⟩, r.guard g⟩
theorem tn_mut {K : PySem.W.Frag} {σ : L2.St} {H : Hp} {Q : VK} (h : tF K T WE (eMut La) σ H Q) : tN K T WE La σ H Q := by
  obtain ⟨L, M, ρ, st, s, e, h⟩ := h
  refine ⟨L, M, ρ, st, s, e, ?_⟩
  unfold eMut at h
  cases hF : La ρ st with
  | bad => rw [hF] at h; exact h
  | exc c s1 => rw [hF] at h; exact h
  | ok ds s1 =>
    rw [hF] at h
    intro a xs L' H' e1 h0 nM h1 s1' r
    have s2 : SRel K T (L' ++ [a]) M H' (s1 ++ [.lst ds]) := s1'.live ⟨xs, h1, r.live⟩ nM s.tM
    have e2 : Ext L M H (L' ++ [a]) H' := ⟨e1.pre.trans (List.prefix_append _ _), fun b o q t n => by
      obtain ⟨q1, q2⟩ := e1.keep b o q t n
      refine ⟨q1, fun z => ?_⟩
      rcases List.mem_append.mp z with z | z
      · exact q2 z
      · rw [List.mem_singleton.mp z] at q; exact h0 o q t⟩
    refine h (.ref a) (L' ++ [a]) H' e2 s2 ⟨s1.length, a, rfl, rfl, ?_⟩
    rw [← s1'.len, List.getElem?_append_right (Nat.le_refl _), Nat.sub_self]
    rfl
theorem tasg {K : PySem.W.Frag} {i : Nat} {D : Ends} {σ : L2.St} {H : Hp} (h : sF K T WE (sAsg Fa (gN i)) D σ H) : tAsg (tF K T WE Fa) (gName i) D σ H := by
  obtain ⟨L, M, ρ, st, s, e, h⟩ := h
  exact tG.bindS s e h fun x s1 vx L1 H1 _ _ sr er rx h1 => h1 _ L1 H1 Ext.refl sr (er.set rx i)
theorem tasg_mono {te te' : TE} {i : Nat} {D : Ends} {σ : L2.St} {H : Hp} (f : ∀ σ H Q, te' σ H Q → te σ H Q) (h : tAsg te' (gName i) D σ H) : tAsg te (gName i) D σ H := f _ _ _ h
/-- y = [..] on one line -/
theorem fs_setLcF {i : Nat} {y : Str} {py spos : Pos} {elt iter : Expr} {ifs : List Expr} {scope : Scope} (hc : X.calm = true) (hN : X.N.Nodup) (hy : X.N[i]? = some y) (hyl : X.env.scope.names.lookup y = some .local)
    (hsw : swapsWith (.ListComp elt [⟨tg, iter, ifs, 0⟩] scope pos) (some (.Name y py)) spos.line X.env = pure true) (ok : BlkOk X.N X.env.scope scope own) (hi : PI X tg iter (iF X.K T WE It))
    (hg : ∀ (s : Shared) (H : Hp) (C : Addr) (cl : List (Str × Addr)) (fp : List Addr), PG (X.blk s H scope (compEnvC scope cl C X.env) fp) tg (cF X.K T (own.map (·.2)) Tg1))
    (ht : ∀ (s : Shared) (H : Hp) (C : Addr) (cl : List (Str × Addr)) (fp : List Addr), PTs (X.blk s H scope (compEnvC scope cl C X.env) fp) ifs (tT X.K T W0 Cd))
    (he : ∀ (s : Shared) (H : Hp) (C : Addr) (cl : List (Str × Addr)) (fp : List Addr), PE (X.blk s H scope (compEnvC scope cl C X.env) fp) elt (tF X.K T W0 Fe)) (hs : ∀ x, foldedSetIterable iter X.env x = pure x := by intro _; rfl) :
    PS X (.Assign [.Name y py] (.ListComp elt [⟨tg, iter, ifs, 0⟩] scope pos) spos) (sF X.K T WE (sAsg (eFrz (eComp It (own.map (·.2)) Tg1 Cd Fe)) (gN i))) :=
  PS.w (ps_setLc hc hN hy hyl hsw hi ok hg ht he hs) fun D σ H h => tasg_mono (fun _ _ _ z => tlc (tn_frz z)) (tasg h)
theorem fs_setLcM {i : Nat} {y : Str} {py spos : Pos} {elt iter : Expr} {ifs : List Expr} {scope : Scope} (hc : X.calm = true) (hN : X.N.Nodup) (hy : X.N[i]? = some y) (hyl : X.env.scope.names.lookup y = some .local)
    (hsw : swapsWith (.ListComp elt [⟨tg, iter, ifs, 0⟩] scope pos) (some (.Name y py)) spos.line X.env = pure true) (ok : BlkOk X.N X.env.scope scope own) (hi : PI X tg iter (iF X.K T WE It))
    (hg : ∀ (s : Shared) (H : Hp) (C : Addr) (cl : List (Str × Addr)) (fp : List Addr), PG (X.blk s H scope (compEnvC scope cl C X.env) fp) tg (cF X.K T (own.map (·.2)) Tg1))
    (ht : ∀ (s : Shared) (H : Hp) (C : Addr) (cl : List (Str × Addr)) (fp : List Addr), PTs (X.blk s H scope (compEnvC scope cl C X.env) fp) ifs (tT X.K T W0 Cd))
    (he : ∀ (s : Shared) (H : Hp) (C : Addr) (cl : List (Str × Addr)) (fp : List Addr), PE (X.blk s H scope (compEnvC scope cl C X.env) fp) elt (tF X.K T W0 Fe)) (hs : ∀ x, foldedSetIterable iter X.env x = pure x := by intro _; rfl) :
    PS X (.Assign [.Name y py] (.ListComp elt [⟨tg, iter, ifs, 0⟩] scope pos) spos) (sF X.K T WE (sAsg (eMut (eComp It (own.map (·.2)) Tg1 Cd Fe)) (gN i))) :=
  PS.w (ps_setLc hc hN hy hyl hsw hi ok hg ht he hs) fun D σ H h => tasg_mono (fun _ _ _ z => tlc (tn_mut z)) (tasg h)
end
end Fl
/-! Fl8: x(lambda: body), x a def that calls what it got and tells by a text which error came. -/
namespace Fl
open PySem PySem.Spec PyProof.Rows L2 LamX

theorem srel_extN {K : PySem.W.Frag} {T : List (Addr × Str)} {L M : List Addr} {H H1 : Hp} {st : Sto} (s : SRel K T L M H st) (e : ExtN H H1) (t : LamX.Tabs T H1) : Ext L M H L H1 ∧ SRel K T L M H1 st := by
  have k : ∀ a o, H a = some o → notTbl o → H1 a = some o := fun a o q n => e a o q fun ps z => by rw [z] at n; exact n
  have ex : Ext L M H L H1 := ⟨List.prefix_refl _, fun a o q n m => ⟨k a o q n, m⟩⟩
  refine ⟨ex, { nd := s.nd, dj := s.dj, len := s.len, obs := fun n o a e1 e2 => (s.obs n o a e1 e2).map (fun u q n => k a u q n) (fun _ _ => Rep.ext ex) (fun _ _ => RepL.ext ex), tabs := t, tM := s.tM, mM := fun a z => ?_ }⟩
  rcases s.mM a z with ⟨u, q, n⟩ | m
  · exact .inl ⟨u, k a u q n, n⟩
  · exact .inr m
/-- the clauses: the class, the text that is handed back -/
def nmOf (hs : List (Nat × Str)) (c : Nat) : Option Str := hs.lookup c
def eRef (hs : List (Nat × Str)) (ret : Str) (b : Ex) : Ex := fun ρ st => match b ρ st with
  | .ok _ s => .ok (.str ret) s
  | .exc c s => (match nmOf hs c with
    | some x => .ok (.str x) s
    | none => .bad)
  | .bad => .bad
/-- what the clauses make of an error -/
def wRef (K : PySem.W.Frag) (Q : VK) : List (Value × Str) → XK
  | [] => fun _ _ _ => False
  | (c, x) :: r => fun cls d H => ∃ b, PySem.W.exmOne K cls c = some b ∧ (b = true → Q (.str x) H) ∧ (b = false → wRef K Q r cls d H)
def TRef (K : PySem.W.Frag) (hs : List (Value × Str)) (ret : Str) : (XK → Hp → VK → Prop) → Hp → VK → Prop := fun tl H Q => tl (wRef K Q hs) H fun _ H' => Q (.str ret) H'
inductive HdsR (X : Cx) : List ExceptHandler → List (Value × Str) → Prop
  | nil : HdsR X [] []
  | cons {x : Str} {c : Value} {s : Str} {j : Nat} {np p1 p2 pos' : Pos} {hds : List ExceptHandler} {l : List (Value × Str)} (hc : Names X x c) (r : HdsR X hds l) :
      HdsR X (.ExceptHandler (some (.Name x np)) none [.Return (some (.Constant (.str s) j p1)) p2] pos' :: hds) ((c, s) :: l)
theorem hds_ok {X : Cx} {hds : List ExceptHandler} {l : List (Value × Str)} (h : HdsR X hds l) : HdsOk X hds (l.map fun q => (q.1, fun _ _ _ => tRet (tC (.str q.2)))) := by
  induction h with
  | nil => exact .nil
  | cons hc r ih => exact .cons hc (fun a oe cls d pn hz hf => pss_one (ps_ret pe_str)) ih
theorem wMany_of {K : PySem.W.Frag} {D : Ends} {cls : Value} {d : Option Addr} {σ : L2.St} {H : Hp} : ∀ {l : List (Value × Str)}, wRef K D.rt l cls d H → wMany K (fun _ _ _ _ => False) D (l.map fun q => (q.1, fun _ _ _ => tRet (tC (.str q.2)))) cls d σ H
  | [], h => h.elim
  | (c, x) :: r, ⟨b, h1, h2, h3⟩ => ⟨b, h1, fun hb a _ => h2 hb, fun hb => wMany_of (h3 hb)⟩
theorem gives {X : Cx} {Ng : List Str} {x a q ret : Str} {sg : Scope} {g : Addr} {cdg : Value} {h₀ : ExceptHandler} {hds : List ExceptHandler} {l : List (Value × Str)} {j : Nat} {p1 p2 p3 p4 p5 p6 : Pos} (hh : ∀ (s : Shared) (H : Hp), HdsR ((cxOf C8.CX0 X.prog X.w X.K X.mg X.base Ng x sg g cdg X.A X.stack s H C8.E0).nox) (h₀ :: hds) l) (h0 : ∀ f : Addr, (L2.start Ng [V.ref f])[0]? = some (some (V.ref f)))
    (hq : ∀ s H, swapsWith (.Call (.Name a p1) [] [] p2) none p3.line (cxOf C8.CX0 X.prog X.w X.K X.mg X.base Ng x sg g cdg X.A X.stack s H C8.E0).env = pure false) :
    GivesTo X Ng x sg g cdg [.Try [.Expr (.Call (.Name a p1) [] [] p2) p3] (h₀ :: hds) [] [] p4, .Return (some (.Constant (.str ret) j p5)) p6] a q (TRef X.K l ret) := by
  intro f c' s H Q tl act hc h
  refine ⟨_, pss_cons (ps_try_many (X := (cxOf C8.CX0 X.prog X.w X.K X.mg X.base Ng x sg g cdg X.A X.stack s H C8.E0).nox) (Wout := fun _ _ _ _ => False)
      (tb := fun W D σ H => ∃ Ech : XK, (∀ cls d σ' H', Ech cls d H' → W cls d σ' H') ∧ σ[0]? = some (some (.ref f)) ∧ H c' = some (CodeO c' q) ∧ tl Ech H fun _ H' => D.nx σ H')
      rfl rfl takes_none5 (fun W pn xe tk _ => ?_) (hds_ok (hh s H))) (pss_one (ps_ret pe_str)), ?_⟩
  · refine ⟨fun pins s' σ H' D I h' => ?_⟩
    obtain ⟨Ech, hW, h1, h2, h3⟩ := h'
    have hp := act W pn xe Ech p1 p2 tk hW
    have hq' := pss_one (ps_expr (pos := p3) hp (hq s H))
    exact hq'.run pins s' σ H' D I ⟨h1, h2, h3⟩
  · exact ⟨wRef X.K Q l, fun cls d σ' H' z => wMany_of z, h0 f, hc, h⟩
section
variable {X : Cx} {T : List (Addr × Str)} {L M : List Addr} {H : Hp} {st : Sto} {WE : Nat → Hp → Prop} {xc : Nat → Addr}
theorem wref_of {K : PySem.W.Frag} {Q : VK} {c : Nat} {H : Hp} : ∀ {hs : List (Nat × Str)} {x : Str}, (∀ p ∈ hs, PySem.W.exmOne K (.ref (xc c)) (.ref (xc p.1)) = some (c == p.1)) → nmOf hs c = some x → Q (.str x) H → wRef K Q (hs.map fun p => (.ref (xc p.1), p.2)) (.ref (xc c)) none H
  | [], _, _, h, _ => by cases h
  | (c1, y) :: r, x, he, h, q => by
    refine ⟨c == c1, he (c1, y) List.mem_cons_self, fun hb => ?_, fun hb => ?_⟩
    · unfold nmOf at h
      rw [List.lookup_cons, hb] at h
      cases h
      exact q
    · unfold nmOf at h
      rw [List.lookup_cons, hb] at h
      exact wref_of (fun p hp => he p (List.mem_cons_of_mem _ hp)) h q
theorem tlam {σ : L2.St} {H : Hp} {Q : VK} {hs : List (Nat × Str)} {ret : Str} {Fb : Ex} {K : PySem.W.Frag} (he : ∀ c, ∀ p ∈ hs, (nmOf hs c).isSome → PySem.W.exmOne K (.ref (xc c)) (.ref (xc p.1)) = some (c == p.1)) (h : tF K T WE (eRef hs ret Fb) σ H Q) :
    tLam T (TRef K (hs.map fun p => (Value.ref (xc p.1), p.2)) ret) (fun E => tF K T (fun c H' => E (.ref (xc c)) none H') Fb) σ H Q := by
  obtain ⟨L, M, ρ, st, s, e, h⟩ := h
  refine ⟨s.tabs, fun H1 eN t1 => ?_⟩
  obtain ⟨ex, s1⟩ := srel_extN s eN t1
  refine ⟨L, M, ρ, st, s1, e.ext ex, ?_⟩
  unfold eRef at h
  have h' := Po.ext ex h
  cases hF : Fb ρ st with
  | bad => rw [hF] at h'; exact h'
  | ok d st1 => rw [hF] at h'; exact fun v L2 H2 e2 s2 _ => h' (.str ret) L2 H2 e2 s2 rfl
  | exc c st1 =>
    rw [hF] at h'
    dsimp only at h'
    intro L2 H2 e2 s2
    cases hn : nmOf hs c with
    | none => rw [hn] at h'; exact h'.elim
    | some x =>
      rw [hn] at h'
      exact wref_of (fun p hp => he c p hp (by rw [hn]; rfl)) hn (h' (.str x) L2 H2 e2 s2 rfl)
/-- x(lambda: body) -/
theorem fe_ref {x a : Str} {g c P : Addr} {k : Nat} {pg : Arguments} {bg : List Stmt} {sg : Scope} {dV kV doc pm cdv ct oc : Value} {an od : Option Addr} {osl : Array (Option Value)} {Ng : List Str}
    {params : Arguments} {body : Expr} {scope : Scope} {Fb : Ex} {p lpos pos : Pos} {hs : List (Nat × Str)} {ret : Str} (hm : X.mg x = some (.ref g)) (hk : PySem.W.keepIn X.K (.ref g) = true)
    (lk : X.K.lookup g = some ⟨oc, od, .func (PySem.W.fnOf x x pg bg sg dV kV doc pm an cdv ct), osl⟩) (hcg : PySem.W.codeIn X.K cdv x = true) (hb : L2.Binds X.K (PySem.W.fnOf x x pg bg sg dV kV doc pm an cdv ct) [a] []) (Sg : FnScope Ng [a] sg) (hNg : Ng[0]? = some a) (hva : Vis sg a)
    (hG : GivesTo X Ng x sg g cdv bg a (X.env.qual ++ "<lambda>") (TRef X.K (hs.map fun p => (Value.ref (xc p.1), p.2)) ret))
    (he : ∀ c, ∀ p ∈ hs, (nmOf hs c).isSome → PySem.W.exmOne X.K (.ref (xc c)) (.ref (xc p.1)) = some (c == p.1))
    (TB : TabB X.base X.mg c P) (hcode : X.env.code = .ref c) (hmT : (P, X.env.qual ++ "<lambda>") ∈ T) (hu : ∀ p ∈ T, p.1 = P → p.2 = X.env.qual ++ "<lambda>") (hr : Room (k + 2) X.A) (Ls : LamS X.env.scope scope) (hdef : defaultsOf params X.env = ([], []))
    (hbind : ∀ (q : Str) (cl : List (Str × Addr)) (pm cv ctv : Value), bindArgs (PySem.W.kla_fn "<lambda>" q params body scope cl pm cv ctv) ⟨[], []⟩ = pure [])
    (hbody : ∀ (A : Around) (outer : List PySem.Env) (s : Shared) (H : Hp) (E : XK) (f c' : Addr), Room k (A.deeper (lamEnv X scope s.heap.objs.size f c')) → PE (lamCx X A outer s H E scope f c') body (tF X.K T (fun c H' => E (.ref (xc c)) none H') Fb))
    (hg : Gl X x := by rfl) (hdb : (x == ("__debug__" : Str)) = false := by decide) (hd : (a == ("__debug__" : Str)) = false := by decide) (hcd : (a == ("__classdict__" : Str)) = false := by decide) :
    PE X (.Call (.Name x p) [.Lambda params body scope lpos] [] pos) (tF X.K T WE (eRef hs ret Fb)) :=
  PE.w (pe_lamcall (T := T) hg hm hk lk hcg hb Sg hNg hva hG TB hcode hmT hu hr Ls hdef hbind hbody hdb hd hcd) fun σ H Q h => tlam he h
/-- an error of a lambda's body is taken -/
theorem wok_lam {A : Around} {outer : List PySem.Env} {s : Shared} {H : Hp} {E : XK} {scope : Scope} {f c' : Addr} : Wok (lamCx X A outer s H E scope f c') xc (fun c H' => E (.ref (xc c)) none H') (fun cls d _ H => E cls d H) := ⟨takes_of rfl rfl rfl rfl, fun _ _ _ h => h⟩
end
end Fl
/-! Fl9: operators. -/
namespace Fl
open PySem PySem.Spec PyProof.Rows L2

/-! ### a value as plain data, the places looked up -/
abbrev dv (st : Sto) (d : D) : Option D := fzD 0 st 40 d
theorem fzL_plain {f : D → Option D} {k : Nat} (hf : ∀ d e, f d = some e → e.plain = true ∧ e.depth ≤ k) : ∀ {ds es : List D}, fzL f ds = some es → PyData.plainAll es = true ∧ PyData.depthAll es ≤ k
  | [], _, h => by cases h; exact ⟨rfl, by simp [PyData.depthAll]⟩
  | d :: ds, es, h => by
    unfold fzL at h
    cases q : f d with
    | none => rw [q] at h; cases h
    | some x =>
      rw [q] at h
      simp only [Option.bind_some] at h
      cases q2 : fzL f ds with
      | none => rw [q2] at h; cases h
      | some xs =>
        rw [q2] at h
        cases h
        obtain ⟨h1, h2⟩ := hf _ _ q
        obtain ⟨h3, h4⟩ := fzL_plain hf q2
        exact ⟨by simp [PyData.plainAll, h1, h3], by simp [PyData.depthAll]; omega⟩
theorem fz_plain {st : Sto} : ∀ (k : Nat) (d e : D), fzD 0 st k d = some e → e.plain = true ∧ e.depth ≤ k := by
  intro k
  induction k with
  | zero => intro d e h; cases h
  | succ k ih =>
    intro d e h
    cases d with
    | none => cases h; exact ⟨rfl, by simp [PyData.depth]⟩
    | bool _ => cases h; exact ⟨rfl, by simp [PyData.depth]⟩
    | int _ => cases h; exact ⟨rfl, by simp [PyData.depth]⟩
    | str _ => cases h; exact ⟨rfl, by simp [PyData.depth]⟩
    | tuple ds =>
      unfold fzD at h
      cases q : fzL (fzD 0 st k) ds with
      | none => rw [q] at h; cases h
      | some es =>
        rw [q] at h; cases h
        obtain ⟨h1, h2⟩ := fzL_plain (k := k) ih q
        exact ⟨by simp [PyData.plain, h1], by simp [PyData.depth]; omega⟩
    | list ds =>
      unfold fzD at h
      cases q : fzL (fzD 0 st k) ds with
      | none => rw [q] at h; cases h
      | some es =>
        rw [q] at h; cases h
        obtain ⟨h1, h2⟩ := fzL_plain (k := k) ih q
        exact ⟨by simp [PyData.plain, h1], by simp [PyData.depth]; omega⟩
    | dict kvs =>
      have go : ∀ n : Int, fzD 0 st (k + 1) (.dict [(.int n, .none)]) = some e → e.plain = true ∧ e.depth ≤ k + 1 := fun n h => by
        simp only [fzD] at h
        split at h
        · rename_i z; exact absurd z (Nat.not_lt_zero _)
        · split at h
          · rename_i ds q
            cases q2 : fzL (fzD 0 st k) ds with
            | none => rw [q2] at h; cases h
            | some es =>
              rw [q2] at h; cases h
              obtain ⟨h1, h2⟩ := fzL_plain (k := k) ih q2
              exact ⟨by simp [PyData.plain, h1], by simp [PyData.depth]; omega⟩
          · cases h
      cases kvs with
      | nil => cases h
      | cons q r =>
        obtain ⟨kk, v⟩ := q
        cases r with
        | cons _ _ => cases kk <;> cases v <;> cases h
        | nil =>
          cases kk <;> cases v <;> first | (cases h; done) | exact go _ h
section
variable {K : PySem.W.Frag} {T : List (Addr × Str)} {L M : List Addr} {H : Hp} {st : Sto}
theorem fzL_dp {f : D → Option D} (hf : ∀ d e v, f d = some e → Rep K L M H d v → Dp K H v e) : ∀ {ds es : List D} {vs : List V}, fzL f ds = some es → RepL K L M H ds vs → DpAll K H vs es
  | [], _, _, h, r => by cases h; cases (show _ = [] from r); exact .nil
  | d :: ds, es, vs, h, r => by
    obtain ⟨v, vs', rfl, r1, r2⟩ := r
    unfold fzL at h
    cases q : f d with
    | none => rw [q] at h; cases h
    | some x =>
      rw [q] at h
      simp only [Option.bind_some] at h
      cases q2 : fzL f ds with
      | none => rw [q2] at h; cases h
      | some xs =>
        rw [q2] at h
        cases h
        exact .cons (hf _ _ _ q r1) (fzL_dp hf q2 r2)
theorem fz_dp (s : SRel K T L M H st) : ∀ (k : Nat) (d e : D) (v : V), fzD 0 st k d = some e → Rep K L M H d v → Dp K H v e := by
  intro k
  induction k with
  | zero => intro d e v h; cases h
  | succ k ih =>
    intro d e v h r
    cases d with
    | none => cases h; cases r; exact .non
    | bool _ => cases h; cases r; exact .bl _
    | int _ => cases h; cases r; exact .int _
    | str _ => cases h; cases r; exact .str _
    | tuple ds =>
      unfold fzD at h
      cases q : fzL (fzD 0 st k) ds with
      | none => rw [q] at h; cases h
      | some es =>
        rw [q] at h; cases h
        obtain ⟨a, xs, rfl, h1, h2⟩ := r
        exact .tup h1.sq (fzL_dp ih q h2)
    | list ds =>
      unfold fzD at h
      cases q : fzL (fzD 0 st k) ds with
      | none => rw [q] at h; cases h
      | some es =>
        rw [q] at h; cases h
        obtain ⟨a, xs, rfl, h1, h2⟩ := r
        exact .lst h1.sq (fzL_dp ih q h2)
    | dict kvs =>
      obtain ⟨n, a, rfl, rfl, e⟩ := r
      simp only [fzD, Int.toNat_natCast] at h
      split at h
      · rename_i z; exact absurd z (Nat.not_lt_zero _)
      · split at h
        · rename_i ds q
          cases q2 : fzL (fzD 0 st k) ds with
          | none => rw [q2] at h; cases h
          | some es =>
            rw [q2] at h; cases h
            obtain ⟨xs, h1, h2⟩ := s.lst q e
            exact .lst (.inl (.inl h1)) (fzL_dp ih q2 h2)
        · cases h
end
section
variable {X : Cx} {T : List (Addr × Str)} {L M : List Addr} {H : Hp} {st : Sto} {pins : List (Addr × Obj)} {σ : L2.St} {s : Shared}
/-- a value in hand reads as its data -/
theorem dv_reads (I : Inv X pins σ H s) {d e : D} {v : V} {u : Value} (sr : SRel X.K T L M H st) (h : dv st d = some e) (r : Rep X.K L M H d v) (rv : RelV v u) : (∃ as, Reads s.heap u e as) ∧ e.plain = true ∧ e.depth ≤ 40 :=
  ⟨Dp.reads I e v u (fz_dp sr 40 d e v h r) rv, fz_plain 40 d e h⟩
/-- an answer without a change -/
theorem Po.here {α β : Type} {RV : List Addr → List Addr → Hp → α → β → Prop} {K : PySem.W.Frag} {WE : Nat → Hp → Prop} {Q : β → Hp → Prop} {d : α} {v : β} (h : Po K T RV L M H (.ok d st) WE Q) (s : SRel K T L M H st) (r : RV L M H d v) : Q v H := h v L H Ext.refl s r

def eqO : O2 := fun x y st => (dv st x).bind fun a => (dv st y).bind fun b => some (.bool (PyData.eqv a b), st)
def neO : O2 := fun x y st => (dv st x).bind fun a => (dv st y).bind fun b => some (.bool (!PyData.eqv a b), st)
theorem bind2 {A B : Option D} {f : D → D → Option (D × Sto)} {K : PySem.W.Frag} {Q : VK} (h : Po K T (Rep K) L M H (ofO (A.bind fun a => B.bind fun b => f a b)) (fun _ _ => False) Q) : ∃ a b, A = some a ∧ B = some b ∧ Po K T (Rep K) L M H (ofO (f a b)) (fun _ _ => False) Q := by
  cases A with
  | none => exact h.elim
  | some a => cases B with
    | none => exact h.elim
    | some b => exact ⟨a, b, rfl, rfl, h⟩
theorem oEq (hu : X.A.units + 64 < cLine) : OpR X (compareOp .Eq) (r2 X.K T eqO) := by
  intro pins s σ H x y v u Q I rx ry ⟨L, M, st, d, e, sr, r1, r2, h⟩
  obtain ⟨a, b, h1, h2, h⟩ := bind2 h
  obtain ⟨⟨as, q1⟩, p1, d1⟩ := dv_reads I sr h1 r1 rx
  obtain ⟨⟨bs, q2⟩, p2, d2⟩ := dv_reads I sr h2 r2 ry
  exact PySem.SeqAt.eq_plain q1 q2 p1 p2 (by omega) ⟨.bl _, H, I, rfl, h.here sr rfl⟩
theorem oNe (hu : X.A.units + 64 < cLine) : OpR X (compareOp .NotEq) (r2 X.K T neO) := by
  intro pins s σ H x y v u Q I rx ry ⟨L, M, st, d, e, sr, r1, r2, h⟩
  obtain ⟨a, b, h1, h2, h⟩ := bind2 h
  obtain ⟨⟨as, q1⟩, p1, d1⟩ := dv_reads I sr h1 r1 rx
  obtain ⟨⟨bs, q2⟩, p2, d2⟩ := dv_reads I sr h2 r2 ry
  exact PySem.SeqAt.ne_plain q1 q2 p1 p2 (by omega) ⟨.bl _, H, I, rfl, h.here sr rfl⟩
noncomputable section
open Classical in
def ltO : O2 := fun x y st => (dv st x).bind fun a => (dv st y).bind fun b => if PySem.W.alike a b = true ∧ a ≠ .none then some (.bool (PySem.W.dataLt a b), st) else none
open Classical in
def leO : O2 := fun x y st => (dv st x).bind fun a => (dv st y).bind fun b => if PySem.W.alike a b = true ∧ a ≠ .none then some (.bool (!PySem.W.dataLt b a), st) else none
open Classical in
def gtO : O2 := fun x y st => (dv st x).bind fun a => (dv st y).bind fun b => if PySem.W.alike a b = true ∧ a ≠ .none then some (.bool (PySem.W.dataLt b a), st) else none
open Classical in
def geO : O2 := fun x y st => (dv st x).bind fun a => (dv st y).bind fun b => if PySem.W.alike a b = true ∧ a ≠ .none then some (.bool (!PySem.W.dataLt a b), st) else none
end
theorem oLt (hu : X.A.units + 64 < cLine) : OpR X (compareOp .Lt) (r2 X.K T ltO) := by
  intro pins s σ H x y v u Q I rx ry ⟨L, M, st, d, e, sr, r1, r2, h⟩
  obtain ⟨a, b, h1, h2, h⟩ := bind2 h
  split at h
  · rename_i hc
    obtain ⟨⟨as, q1⟩, p1, d1⟩ := dv_reads I sr h1 r1 rx
    obtain ⟨⟨bs, q2⟩, p2, d2⟩ := dv_reads I sr h2 r2 ry
    exact PySem.W.lt_data q1 q2 hc.1 hc.2 (by omega) ⟨.bl _, H, I, rfl, h.here sr rfl⟩
  · exact h.elim
theorem oLe (hu : X.A.units + 64 < cLine) : OpR X (compareOp .LtE) (r2 X.K T leO) := by
  intro pins s σ H x y v u Q I rx ry ⟨L, M, st, d, e, sr, r1, r2, h⟩
  obtain ⟨a, b, h1, h2, h⟩ := bind2 h
  split at h
  · rename_i hc
    obtain ⟨⟨as, q1⟩, p1, d1⟩ := dv_reads I sr h1 r1 rx
    obtain ⟨⟨bs, q2⟩, p2, d2⟩ := dv_reads I sr h2 r2 ry
    exact PySem.W.le_data q1 q2 hc.1 hc.2 (by omega) ⟨.bl _, H, I, rfl, h.here sr rfl⟩
  · exact h.elim
theorem oGt (hu : X.A.units + 64 < cLine) : OpR X (compareOp .Gt) (r2 X.K T gtO) := by
  intro pins s σ H x y v u Q I rx ry ⟨L, M, st, d, e, sr, r1, r2, h⟩
  obtain ⟨a, b, h1, h2, h⟩ := bind2 h
  split at h
  · rename_i hc
    obtain ⟨⟨as, q1⟩, p1, d1⟩ := dv_reads I sr h1 r1 rx
    obtain ⟨⟨bs, q2⟩, p2, d2⟩ := dv_reads I sr h2 r2 ry
    exact PySem.W.gt_data q1 q2 hc.1 hc.2 (by omega) ⟨.bl _, H, I, rfl, h.here sr rfl⟩
  · exact h.elim
theorem oGe (hu : X.A.units + 64 < cLine) : OpR X (compareOp .GtE) (r2 X.K T geO) := by
  intro pins s σ H x y v u Q I rx ry ⟨L, M, st, d, e, sr, r1, r2, h⟩
  obtain ⟨a, b, h1, h2, h⟩ := bind2 h
  split at h
  · rename_i hc
    obtain ⟨⟨as, q1⟩, p1, d1⟩ := dv_reads I sr h1 r1 rx
    obtain ⟨⟨bs, q2⟩, p2, d2⟩ := dv_reads I sr h2 r2 ry
    exact PySem.W.ge_data q1 q2 hc.1 hc.2 (by omega) ⟨.bl _, H, I, rfl, h.here sr rfl⟩
  · exact h.elim
end
end Fl
/-! Fl10: arithmetic, subscripts, slices. -/
namespace Fl
open PySem PySem.Spec PyProof.Rows L2

/-! ### whole numbers -/
def mulOk (i j : Int) : Prop := i.natAbs.log2 + j.natAbs.log2 < 1000000
noncomputable instance (i j : Int) : Decidable (mulOk i j) := Classical.propDecidable _
def divOk (j : Int) : Prop := j ≠ 0 ∧ (j.natAbs < 1073741824 ∨ (0 < j ∧ j.natAbs.log2 < 9000))
noncomputable instance (j : Int) : Decidable (divOk j) := Classical.propDecidable _
def powOk (i j : Int) : Prop := 0 ≤ j ∧ j ≤ 1000000 ∧ i.natAbs < 2 ^ 64
noncomputable instance (i j : Int) : Decidable (powOk i j) := Classical.propDecidable _
/-- lists glued: a new list that nobody will change -/
def addO : O2 := fun x y st => match x, y with
  | .int i, .int j => some (.int (i + j), st)
  | .str a, .str b => if a.length + b.length ≤ 16777216 then some (.str (a ++ b), st) else none
  | .tuple xs, .tuple ys => if xs.length + ys.length ≤ 16777216 then some (.tuple (xs ++ ys), st) else none
  | x, y => match listOf st x, listOf st y with
    | some xs, some ys => if xs.length + ys.length ≤ 16777216 then some (.list (xs ++ ys), st) else none
    | _, _ => none
def subO : O2 := fun x y st => match x, y with
  | .int i, .int j => some (.int (i - j), st)
  | _, _ => none
noncomputable def mulO : O2 := fun x y st => match x, y with
  | .int i, .int j => if mulOk i j then some (.int (i * j), st) else none
  | .tuple xs, .int k => if xs ≠ [] ∧ 2 ≤ k ∧ k ≤ 1000 ∧ xs.length ≤ 1000 then some (.tuple (List.replicate k.toNat xs).flatten, st) else none
  | _, _ => none
noncomputable def fdivO : O2 := fun x y st => match x, y with
  | .int i, .int j => if divOk j then some (.int (i.fdiv j), st) else none
  | _, _ => none
def modO : O2 := fun x y st => match x, y with
  | .int i, .int j => if j ≠ 0 then some (.int (i.fmod j), st) else none
  | _, _ => none
noncomputable def powO : O2 := fun x y st => match x, y with
  | .int i, .int j => if powOk i j then some (.int (i ^ j.toNat), st) else none
  | _, _ => none
def negO : O1 := fun x st => match x with
  | .int i => some (.int (-i), st)
  | _ => none
def isO : O2 := fun x y st => match x, y with
  | .bool a, .bool b => some (.bool (decide (a = b)), st)
  | .none, .none => some (.bool true, st)
  | .bool _, .none => some (.bool false, st)
  | .int _, .none => some (.bool false, st)
  | .str _, .none => some (.bool false, st)
  | .tuple _, .none => some (.bool false, st)
  | .list _, .none => some (.bool false, st)
  | .dict _, .none => some (.bool false, st)
  | _, _ => none
def isNotO : O2 := fun x y st => (isO x y st).bind fun p => match p.1 with
  | .bool b => some (.bool (!b), p.2)
  | _ => none
section
variable {X : Cx} {T : List (Addr × Str)} {L M : List Addr} {H : Hp} {st : Sto} {pins : List (Addr × Obj)} {σ : L2.St} {s : Shared}
theorem rdk_ok {pins : List (Addr × Obj)} {s : Shared} {σ : L2.St} {H : Hp} {a : Addr} {xs : List V} (I : Inv X pins σ H s) (h : Rd H a (.lst xs) ∨ LKc X.K a xs) : xs.length ≤ sizeLine ∧ ∃ (its : List Value) (n : Nat), Vals xs its ∧ s.heap.get? a = some (lsO its.toArray n) := by
  rcases h with h | ⟨its, n, k, z, r⟩
  · exact h.ok I.hok
  · refine ⟨?_, its.toList, n, r, I.kIn a _ k⟩
    have e := r.length
    simp only [Array.length_toList] at e
    omega
theorem op_catL {pins : List (Addr × Obj)} {s : Shared} {σ : L2.St} {H : Hp} {a b : Addr} {xs zs : List V} {Q : VK} (I : Inv X pins σ H s) (h1 : Rd H a (.lst xs) ∨ LKc X.K a xs) (h2 : Rd H b (.lst zs) ∨ LKc X.K b zs) (hz : xs.length + zs.length ≤ sizeLine) (q : ∀ p, H p = none → Q (.ref p) (upd H p (.lst (xs ++ zs)))) :
    wpAny (model X.prog X.w) X.A (binaryOp .Add (.ref a) (.ref b)) (EP X pins σ Q) X.xe s := by
  obtain ⟨z, its, n, r, e⟩ := rdk_ok I h1
  obtain ⟨z2, its2, n2, r2, e2⟩ := rdk_ok I h2
  have el := r.length
  have el2 := r2.length
  refine PySem.P.add_list e e2 ?_ (by rw [List.size_toArray, List.size_toArray]; omega)
  have ea : its.toArray ++ its2.toArray = (its ++ its2).toArray := by simp
  rw [ea]
  exact ⟨.ref _, _, I.lnew (t' := s.toks) (r.append r2) (by rw [List.length_append]; omega), rfl, q _ I.fresh⟩
theorem Po.newL {K : PySem.W.Frag} {WE : Nat → Hp → Prop} {Q : VK} {ds : List D} {xs : List V} (h : Po K T (Rep K) L M H (.ok (.list ds) st) WE Q) (s : SRel K T L M H st) (r : RepL K L M H ds xs) : ∀ p, H p = none → Q (.ref p) (upd H p (.lst xs)) := fun p hp =>
  h (.ref p) L _ (Ext.new hp) (s.new hp) ⟨p, xs, rfl, .inl ⟨.inl upd_same, s.fresh hp, s.notM hp⟩, r.ext (Ext.new hp)⟩
theorem Po.newT {K : PySem.W.Frag} {WE : Nat → Hp → Prop} {Q : VK} {ds : List D} {xs : List V} (h : Po K T (Rep K) L M H (.ok (.tuple ds) st) WE Q) (s : SRel K T L M H st) (r : RepL K L M H ds xs) : ∀ p, H p = none → Q (.ref p) (upd H p (.tup xs)) := fun p hp =>
  h (.ref p) L _ (Ext.new hp) (s.new hp) ⟨p, xs, rfl, .inl ⟨.inl upd_same, s.fresh hp, s.notM hp⟩, r.ext (Ext.new hp)⟩
theorem oAdd : OpR X (binaryOp .Add) (r2 X.K T addO) := by
  intro pins s σ H x y v u Q I rx ry ⟨L, M, st, d, e, sr, h1, h2, h⟩
  have lists : ∀ ds es, listOf st d = some ds → listOf st e = some es → Po X.K T (Rep X.K) L M H (ofO (if ds.length + es.length ≤ 16777216 then some (.list (ds ++ es), st) else none)) (fun _ _ => False) Q → wpAny (model X.prog X.w) X.A (binaryOp .Add v u) (EP X pins σ Q) X.xe s := fun ds es q1 q2 h => by
    obtain ⟨a, xs, rfl, z1, z2⟩ := listOf_rd sr h1 q1
    obtain ⟨b, ys, rfl, z3, z4⟩ := listOf_rd sr h2 q2
    cases rx; cases ry
    split at h
    · rename_i hl
      exact op_catL I z1 z3 (by rw [← z2.length, ← z4.length, sizeLine_eq]; exact hl) (Po.newL h sr (z2.append z4))
    · exact h.elim
  unfold addO at h
  split at h
  · rename_i i j
    cases (show x = _ from h1); cases (show y = _ from h2)
    exact op_add pins s σ H _ _ v u Q I rx ry ⟨i, j, rfl, rfl, h.here sr rfl⟩
  · rename_i i j
    cases (show x = _ from h1); cases (show y = _ from h2)
    split at h
    · rename_i hl
      exact op_add_str pins s σ H _ _ v u Q I rx ry ⟨i, j, rfl, rfl, by rw [sizeLine_eq]; exact hl, h.here sr rfl⟩
    · exact h.elim
  · rename_i ds es
    split at h
    · rename_i hl
      have h1' := h1
      have h2' := h2
      obtain ⟨a, xs, rfl, z1, z2⟩ := h1
      obtain ⟨b, ys, rfl, z3, z4⟩ := h2
      refine op_catA pins s σ H _ _ v u Q I rx ry ⟨a, b, xs, ys, rfl, rfl, z1.sq, z3.sq, by rw [← z2.length, ← z4.length, sizeLine_eq]; exact hl, fun e0 => ?_, fun _ e0 => ?_, fun _ _ => Po.newT h sr (z2.append z4)⟩
      · have : ds = [] := List.eq_nil_of_length_eq_zero (by rw [z2.length, e0]; rfl)
        subst this
        exact h.here sr h2'
      · have : es = [] := List.eq_nil_of_length_eq_zero (by rw [z4.length, e0]; rfl)
        subst this
        rw [List.append_nil] at h
        exact h.here sr h1'
    · exact h.elim
  · split at h
    · rename_i ds es q1 q2
      exact lists ds es q1 q2 h
    · exact h.elim
theorem oSub : OpR X (binaryOp .Sub) (r2 X.K T subO) := by
  intro pins s σ H x y v u Q I rx ry ⟨L, M, st, d, e, sr, h1, h2, h⟩
  unfold subO at h
  split at h
  · rename_i i j
    cases (show x = _ from h1); cases (show y = _ from h2)
    exact op_sub pins s σ H _ _ v u Q I rx ry ⟨i, j, rfl, rfl, h.here sr rfl⟩
  · exact h.elim
theorem RepL.rep {K : PySem.W.Frag} {ds : List D} {xs : List V} (r : RepL K L M H ds xs) : ∀ k : Nat, RepL K L M H (List.replicate k ds).flatten (List.replicate k xs).flatten
  | 0 => rfl
  | k + 1 => by
    rw [List.replicate_succ, List.replicate_succ, List.flatten_cons, List.flatten_cons]
    exact r.append (r.rep k)
theorem oMul : OpR X (binaryOp .Mult) (r2 X.K T mulO) := by
  intro pins s σ H x y v u Q I rx ry ⟨L, M, st, d, e, sr, h1, h2, h⟩
  unfold mulO at h
  split at h
  · rename_i i j
    cases (show x = _ from h1); cases (show y = _ from h2)
    split at h
    · rename_i hc
      exact op_mulW pins s σ H _ _ v u Q I rx ry ⟨i, j, rfl, rfl, hc, h.here sr rfl⟩
    · exact h.elim
  · rename_i ds k
    cases (show y = _ from h2)
    split at h
    · rename_i hc
      obtain ⟨a, xs, rfl, z1, z2⟩ := h1
      have hl := z2.length
      exact op_repT pins s σ H _ _ v u Q I rx ry ⟨a, k, xs, rfl, rfl, z1.sq, fun e0 => hc.1 (List.eq_nil_of_length_eq_zero (by rw [hl, e0]; rfl)), hc.2.1, hc.2.2.1, by rw [← hl]; exact hc.2.2.2, Po.newT h sr (z2.rep _)⟩
    · exact h.elim
  · exact h.elim
theorem oFdiv : OpR X (binaryOp .FloorDiv) (r2 X.K T fdivO) := by
  intro pins s σ H x y v u Q I rx ry ⟨L, M, st, d, e, sr, h1, h2, h⟩
  unfold fdivO at h
  split at h
  · rename_i i j
    cases (show x = _ from h1); cases (show y = _ from h2)
    split at h
    · rename_i hc
      rcases hc.2 with hs | hs
      · exact op_fdivN pins s σ H _ _ v u Q I rx ry ⟨i, j, rfl, rfl, ⟨hc.1, hs⟩, h.here sr rfl⟩
      · exact op_fdivW pins s σ H _ _ v u Q I rx ry ⟨i, j, rfl, rfl, hs, by show Q (.int (i / j)) H; rw [← Int.fdiv_eq_ediv_of_nonneg i (by omega)]; exact h.here sr rfl⟩
    · exact h.elim
  · exact h.elim
theorem oMod : OpR X (binaryOp .Mod) (r2 X.K T modO) := by
  intro pins s σ H x y v u Q I rx ry ⟨L, M, st, d, e, sr, h1, h2, h⟩
  unfold modO at h
  split at h
  · rename_i i j
    cases (show x = _ from h1); cases (show y = _ from h2)
    split at h
    · rename_i hc
      exact op_modN pins s σ H _ _ v u Q I rx ry ⟨i, j, rfl, rfl, hc, h.here sr rfl⟩
    · exact h.elim
  · exact h.elim
theorem oPow : OpR X (binaryOp .Pow) (r2 X.K T powO) := by
  intro pins s σ H x y v u Q I rx ry ⟨L, M, st, d, e, sr, h1, h2, h⟩
  unfold powO at h
  split at h
  · rename_i i j
    cases (show x = _ from h1); cases (show y = _ from h2)
    split at h
    · rename_i hc
      exact op_pow pins s σ H _ _ v u Q I rx ry ⟨i, j, rfl, rfl, hc, h.here sr rfl⟩
    · exact h.elim
  · exact h.elim
theorem oNeg : UnR X (unaryOp .USub) (r1 X.K T negO) := by
  intro pins s σ H x v Q I rx ⟨L, M, st, d, sr, h1, h⟩
  unfold negO at h
  split at h
  · rename_i i
    cases (show x = _ from h1)
    exact un_neg pins s σ H _ v Q I rx ⟨i, rfl, h.here sr rfl⟩
  · exact h.elim
theorem is_cases {K : PySem.W.Frag} {d e : D} {x y : V} {p : D × Sto} (h1 : Rep K L M H d x) (h2 : Rep K L M H e y) (h : isO d e st = some p) : p.2 = st ∧ ((∃ a b, x = .bl a ∧ y = .bl b ∧ p.1 = .bool (decide (a = b))) ∨ (y = .non ∧ p.1 = .bool (decide (x = .non)))) := by
  unfold isO at h
  split at h <;> cases h
  · exact ⟨rfl, .inl ⟨_, _, h1, h2, rfl⟩⟩
  · refine ⟨rfl, .inr ⟨h2, ?_⟩⟩; rw [show x = .non from h1]; rfl
  · refine ⟨rfl, .inr ⟨h2, ?_⟩⟩; rw [show x = _ from h1]; rfl
  · refine ⟨rfl, .inr ⟨h2, ?_⟩⟩; rw [show x = _ from h1]; rfl
  · refine ⟨rfl, .inr ⟨h2, ?_⟩⟩; rw [show x = _ from h1]; rfl
  · refine ⟨rfl, .inr ⟨h2, ?_⟩⟩; obtain ⟨a, xs, e, _⟩ := h1; rw [e]; rfl
  · refine ⟨rfl, .inr ⟨h2, ?_⟩⟩; obtain ⟨a, xs, e, _⟩ := h1; rw [e]; rfl
  · refine ⟨rfl, .inr ⟨h2, ?_⟩⟩; obtain ⟨n, a, _, e, _⟩ := h1; rw [e]; rfl
theorem oIs : OpR X (compareOp .Is) (r2 X.K T isO) := by
  intro pins s σ H x y v u Q I rx ry ⟨L, M, st, d, e, sr, h1, h2, h⟩
  cases hp : isO d e st with
  | none => rw [hp] at h; exact h.elim
  | some p =>
    rw [hp] at h
    obtain ⟨q1, q2⟩ := is_cases h1 h2 hp
    obtain ⟨p1, p2⟩ := p
    cases (show p2 = st from q1)
    rcases q2 with ⟨a, b, rfl, rfl, e1⟩ | ⟨rfl, e1⟩
    · exact op_is_bl pins s σ H _ _ v u Q I rx ry ⟨a, b, rfl, rfl, h.here sr (by rw [show p1 = _ from e1]; rfl)⟩
    · exact op_isN pins s σ H _ _ v u Q I rx ry ⟨rfl, h.here sr (by rw [show p1 = _ from e1]; rfl)⟩
theorem oIsNot : OpR X (compareOp .IsNot) (r2 X.K T isNotO) := by
  intro pins s σ H x y v u Q I rx ry ⟨L, M, st, d, e, sr, h1, h2, h⟩
  unfold isNotO at h
  cases hp : isO d e st with
  | none => rw [hp] at h; exact h.elim
  | some p =>
    rw [hp] at h
    obtain ⟨q1, q2⟩ := is_cases h1 h2 hp
    obtain ⟨p1, p2⟩ := p
    cases (show p2 = st from q1)
    rcases q2 with ⟨a, b, rfl, rfl, e1⟩ | ⟨rfl, e1⟩
    · cases (show p1 = _ from e1)
      exact op_isnot_bl pins s σ H _ _ v u Q I rx ry ⟨a, b, rfl, rfl, h.here sr rfl⟩
    · cases (show p1 = _ from e1)
      exact op_notN pins s σ H _ _ v u Q I rx ry ⟨rfl, h.here sr rfl⟩

/-! ### subscripts -/
def ixD (ds : List D) (i : Int) : Option D := (ixN ds.length i).bind fun j => ds[j]?
def ixO : O2 := fun x y st => match y with
  | .int i => (seqOf st x).bind fun ds => (ixD ds i).map fun d => (d, st)
  | _ => none
theorem RepL.ix {K : PySem.W.Frag} {ds : List D} {xs : List V} {i : Int} {d : D} (r : RepL K L M H ds xs) (h : ixD ds i = some d) : ∃ v, atI xs i = some v ∧ Rep K L M H d v := by
  unfold ixD at h
  unfold atI
  rw [← r.length]
  cases q : ixN ds.length i with
  | none => rw [q] at h; cases h
  | some j =>
    rw [q] at h
    obtain ⟨v, h1, h2⟩ := r.get (i := j) (d := d) h
    exact ⟨v, h1, h2⟩
theorem ixR_of : IxR X (r2 X.K T ixO) := by
  intro value slice pins s σ H x y v u Q I rx ry ⟨L, M, st, d, e, sr, h1, h2, h⟩ hs
  unfold ixO at h
  split at h
  · rename_i i
    cases (show y = _ from h2)
    cases hq : seqOf st d with
    | none => rw [hq] at h; exact h.elim
    | some ds =>
      rw [hq] at h
      simp only [Option.bind_some] at h
      obtain ⟨a, xs, rfl, z1, z2⟩ := seqOf_ok sr h1 hq
      cases hi : ixD ds i with
      | none => rw [hi] at h; exact h.elim
      | some d' =>
        rw [hi] at h
        obtain ⟨v', hv, rv⟩ := z2.ix hi
        rcases z1 with z1 | z1
        · exact ix_list value slice pins s σ H _ _ v u Q I rx ry ⟨a, xs, i, v', rfl, rfl, z1, hv, h.here sr rv⟩ hs
        · exact ix_tup value slice pins s σ H _ _ v u Q I rx ry ⟨a, xs, i, v', rfl, rfl, z1, hv, h.here sr rv⟩ hs
  · exact h.elim
variable {e a b c : Expr} {pos : Pos} {Fa Fb Fc : Ex} {Ba Bb : ExB} {La : ExL} {WE : Nat → Hp → Prop}
theorem fe_ix (ha : PE X a (tF X.K T WE Fa)) (hb : PE X b (tF X.K T WE Fb)) (hs : PlainIx b := by intro _ _; rfl) : PE X (.Subscript a b pos) (tF X.K T WE (eB ixO Fa Fb)) :=
  PE.w (pe_ix ixR_of ha hb hs) fun _ _ _ h => tb2 h
/-- xs[i] = v -/
def setO : O3 := fun x y z st => match x, y with
  | .dict [(.int n, .none)], .int i => (match st[n.toNat]? with
    | some (.lst ds) => (ixN ds.length i).map fun j => st.set n.toNat (.lst (ds.set j z))
    | _ => none)
  | _, _ => none
theorem oSet : PSet X (r3 X.K T setO) := by
  intro pins s σ H o i v ov iv u Q I ro ri rv ⟨L, M, st, d, k, y, sr, h1, h2, h3, h⟩
  cases hq : setO d k y st with
  | none => rw [hq] at h; exact h.elim
  | some st' =>
    rw [hq] at h
    unfold setO at hq
    split at hq
    · rename_i n j
      cases (show i = _ from h2)
      obtain ⟨m, a, em, rfl, e⟩ := h1
      have en : n = (m : Int) := by
        have := (List.cons.inj em).1
        exact PyData.int.inj (Prod.mk.inj this).1
      subst en
      simp only [Int.toNat_natCast] at hq
      split at hq
      · rename_i ds hd
        cases hj : ixN ds.length j with
        | none => rw [hj] at hq; cases hq
        | some jj =>
          rw [hj] at hq
          cases hq
          obtain ⟨xs, z1, z2⟩ := sr.lst hd e
          refine set_list pins s σ H _ _ v ov iv u Q I ro ri rv ⟨a, xs, j, jj, rfl, rfl, z1, by rw [← z2.length]; exact hj, ?_⟩
          refine h L _ (Ext.write (List.mem_of_getElem? e)) (sr.write e z1 True.intro ⟨_, upd_same, ?_⟩)
          exact ((z2.set jj h3).ext (Ext.write (List.mem_of_getElem? e)))
      · cases hq
    · cases hq

/-! ### slices -/
def cutD (ds : List D) (lo hi : Option Int) : List D := (ds.drop (HT.sIx ds.length 0 lo)).take (HT.sIx ds.length ds.length hi - HT.sIx ds.length 0 lo)
abbrev ExO := Env → Sto → R (Option Int)
def oNone : ExO := fun _ st => .ok none st
def oSome (e : Ex) : ExO := fun ρ st => (e ρ st).bind fun d s1 => match d with
  | .int i => .ok (some i) s1
  | _ => .bad
def cutO (st : Sto) (x : D) (f : List D → List D) : Option D := match x with
  | .tuple ds => some (.tuple (f ds))
  | x => (listOf st x).map fun ds => .list (f ds)
def eCut (e : Ex) (lo hi : ExO) : Ex := fun ρ st => (e ρ st).bind fun d s1 => (lo ρ s1).bind fun l s2 => (hi ρ s2).bind fun h s3 => match cutO s3 d (fun ds => cutD ds l h) with
  | some d' => .ok d' s3
  | none => .bad
abbrev RVO : List Addr → List Addr → Hp → Option Int → Option Int → Prop := fun _ _ _ a b => a = b
abbrev tO (K : PySem.W.Frag) (T : List (Addr × Str)) (WE : Nat → Hp → Prop) (F : ExO) := tG (α := Option Int) (β := Option Int) K T RVO WE F
theorem fo_none : PO X none (tO X.K T WE oNone) := ⟨fun pins s σ H Q I ⟨L, M, ρ, st, sr, e, h⟩ => po_none.run pins s σ H Q I (h none L H Ext.refl sr rfl)⟩
theorem fo_some (ha : PE X a (tF X.K T WE Fa)) : PO X (some a) (tO X.K T WE (oSome Fa)) := ⟨fun pins s σ H Q I ⟨L, M, ρ, st, sr, e, h⟩ => (po_some ha).run pins s σ H Q I (tG.bind sr e h fun x s1 vx L1 H1 _ _ sr er rx h1 => by
  cases x with
  | int i =>
    cases (show vx = _ from rx)
    exact ⟨i, rfl, h1 (some i) L1 H1 Ext.refl sr rfl⟩
  | _ => exact h1.elim)⟩
theorem RepL.cut {K : PySem.W.Frag} {ds : List D} {xs : List V} (r : RepL K L M H ds xs) (lo hi : Option Int) : RepL K L M H (cutD ds lo hi) (cutV xs lo hi) := by
  unfold cutD cutV
  rw [r.length]
  exact (r.drop _).take _
theorem cutD_whole {ds : List D} {lo hi : Option Int} (h : HT.sIx ds.length 0 lo = 0 ∧ HT.sIx ds.length ds.length hi = ds.length) : cutD ds lo hi = ds := by
  unfold cutD
  rw [h.1, h.2]
  simp
def rCut (K : PySem.W.Frag) (T : List (Addr × Str)) : V → Option Int → Option Int → Hp → VK → Prop := fun x lo hi H Q => ∃ L M st d d', SRel K T L M H st ∧ Rep K L M H d x ∧ cutO st d (fun ds => cutD ds lo hi) = some d' ∧ Po K T (Rep K) L M H (.ok d' st) (fun _ _ => False) Q
theorem slR_of : SlR X (rCut X.K T) := by
  intro pins s σ H x v vl vu lo hi sl Q I rx hs pl pu ⟨L, M, st, d, d', sr, h1, hc, h⟩
  have lst : ∀ ds, listOf st d = some ds → d' = .list (cutD ds lo hi) → ∃ T id, typeLookup (.type T) "__getitem__" = pure (some (.builtin id)) ∧ s.TypeIs v T ∧ wpAny (model X.prog X.w) X.A (getItem v (.ref sl)) (EP X pins σ Q) X.xe s := fun ds hl ed => by
    subst ed
    obtain ⟨a, xs, rfl, z1, z2⟩ := listOf_ok sr h1 hl
    exact sl_list pins s σ H _ v vl vu lo hi sl Q I rx hs pl pu ⟨a, xs, rfl, z1, Po.newL h sr (z2.cut lo hi)⟩
  unfold cutO at hc
  split at hc
  · rename_i ds
    cases hc
    have h1' := h1
    obtain ⟨a, xs, rfl, z1, z2⟩ := h1
    refine sl_tupA pins s σ H _ v vl vu lo hi sl Q I rx hs pl pu ⟨a, xs, rfl, z1.sq, fun hw => ?_, fun _ => Po.newT h sr (z2.cut lo hi)⟩
    have ew := cutD_whole (ds := ds) (lo := lo) (hi := hi) (by rw [z2.length]; exact hw)
    simp only [ew] at h
    exact h.here sr h1'
  · cases hl : listOf st d with
    | none => rw [hl] at hc; cases hc
    | some ds => rw [hl] at hc; cases hc; exact lst ds hl rfl
theorem fe_cut {lo hi : Option Expr} {Lo Hi : ExO} {p2 : Pos} (ha : PE X a (tF X.K T WE Fa)) (hl : PO X lo (tO X.K T WE Lo)) (hh : PO X hi (tO X.K T WE Hi)) : PE X (.Subscript a (.Slice lo hi none p2) pos) (tF X.K T WE (eCut Fa Lo Hi)) :=
  PE.w (pe_slice slR_of ha hl hh) fun σ H Q ⟨L, M, ρ, st, s, e, h⟩ => by
    unfold eCut at h
    refine tG.bind s e h fun x s1 vx L1 H1 _ e1 sr er rx h1 => ?_
    refine tG.bind sr er h1 fun l s2 vl L2 H2 _ e2 sr2 er2 rl h2 => ?_
    cases rl
    refine tG.bind sr2 er2 h2 fun u s3 vu L3 H3 _ e3 sr3 er3 ru h3 => ?_
    cases ru
    cases hc : cutO s3 x (fun ds => cutD ds l u) with
    | none => rw [hc] at h3; exact h3.elim
    | some d' =>
      rw [hc] at h3
      exact ⟨L3, M, s3, x, d', sr3, (rx.ext e2).ext e3, hc, Po.ofO (r := some (d', s3)) h3⟩
end
end Fl
/-! Fl11: calls of built-in functions and types, tests of values, chains, membership. -/
namespace Fl
open PySem PySem.Spec PyProof.Rows L2

abbrev OL := List D → Sto → Option (D × Sto)
def eFn (f : OL) (as : ExL) : Ex := fun ρ st => (as ρ st).bind fun xs s1 => ofO (f xs s1)
def rL (K : PySem.W.Frag) (T : List (Addr × Str)) (f : OL) : List V → Hp → VK → Prop := fun xs H Q =>
  ∃ L M st ds, SRel K T L M H st ∧ RepL K L M H ds xs ∧ Po K T (Rep K) L M H (ofO (f ds st)) (fun _ _ => False) Q
section
variable {X : Cx} {T : List (Addr × Str)} {L M : List Addr} {H : Hp} {st : Sto} {pins : List (Addr × Obj)} {σ : L2.St} {s : Shared}
variable {e a b c : Expr} {es : List Expr} {p pos : Pos} {Fa Fb Fc : Ex} {Ba Bb : ExB} {La : ExL} {WE : Nat → Hp → Prop} {x : Str} {id : String}
theorem tbl {K : PySem.W.Frag} {f : OL} {La : ExL} {σ : L2.St} {H : Hp} {Q : VK} (h : tF K T WE (eFn f La) σ H Q) : tCB (rL K T f) (tFA K T WE La) σ H Q := by
  obtain ⟨L, M, ρ, st, s, e, h⟩ := h
  exact tG.bind s e h fun xs s1 vs L1 H1 _ _ sr er rx h1 => ⟨L1, M, s1, xs, sr, rx, Po.ofO h1⟩
/-- f(e, ..), f a built-in function -/
theorem fe_blt {f : OL} (hc : CallR X (.builtin id) (rL X.K T f)) (hg : Gl X x) (hm : X.mg x = none) (hv : bootBuiltins x = some (.builtin id)) (ha : PA X (e :: es) (tFA X.K T WE La)) (hn : x ≠ "__name__" := by decide) (hdb : (x == ("__debug__" : Str)) = false := by decide)
    (he : starEach (e :: es) X.env = (false, eval e X.env) :: starEach es X.env := by rfl) (hpl : (backTo pos (starEach es X.env)).any (·.1) = false := by rfl) : PE X (.Call (.Name x p) (e :: es) [] pos) (tF X.K T WE (eFn f La)) :=
  PE.w (pe_callB hc hg hm hv ha hn hdb he hpl) fun _ _ _ h => tbl h
/-- T(e, ..), T a built-in type -/
theorem fe_ty {f : OL} (hc : CallR X (.type id) (rL X.K T f)) (hg : Gl X x) (hm : X.mg x = none) (hv : bootBuiltins x = some (.type id)) (ha : PA X (e :: es) (tFA X.K T WE La)) (hn : x ≠ "__name__" := by decide) (hdb : (x == ("__debug__" : Str)) = false := by decide)
    (he : starEach (e :: es) X.env = (false, eval e X.env) :: starEach es X.env := by rfl) (hpl : (backTo pos (starEach es X.env)).any (·.1) = false := by rfl) : PE X (.Call (.Name x p) (e :: es) [] pos) (tF X.K T WE (eFn f La)) :=
  PE.w (pe_callTy hc hg hm hv ha hn hdb he hpl) fun _ _ _ h => tbl h
theorem RepL.one {K : PySem.W.Frag} {d : D} {xs : List V} (r : RepL K L M H [d] xs) : ∃ x, xs = [x] ∧ Rep K L M H d x := by
  obtain ⟨x, t, rfl, r1, r2⟩ := r
  cases (show t = [] from r2)
  exact ⟨x, rfl, r1⟩
theorem RepL.two {K : PySem.W.Frag} {d d2 : D} {xs : List V} (r : RepL K L M H [d, d2] xs) : ∃ x y, xs = [x, y] ∧ Rep K L M H d x ∧ Rep K L M H d2 y := by
  obtain ⟨x, t, rfl, r1, r2⟩ := r
  obtain ⟨y, rfl, r3⟩ := r2.one
  exact ⟨x, y, rfl, r1, r3⟩
/-! ### len, tuple, int, abs -/
def lenO : OL := fun ds st => match ds with
  | [.str z] => if z.length ≤ 16777216 then some (.int z.length, st) else none
  | [d] => (seqOf st d).map fun es => (.int es.length, st)
  | _ => none
theorem cLen : CallR X (.builtin "len") (rL X.K T lenO) := by
  intro pins s σ H xs us Q I rv ⟨L, M, st, ds, sr, r, h⟩
  unfold lenO at h
  split at h
  · rename_i z
    obtain ⟨x, rfl, rx⟩ := r.one
    cases (show x = _ from rx)
    split at h
    · rename_i hz
      exact call_len_str pins s σ H _ us Q I rv ⟨z, rfl, by rw [sizeLine_eq]; exact hz, h.here sr rfl⟩
    · exact h.elim
  · rename_i d _
    obtain ⟨x, rfl, rx⟩ := r.one
    cases hq : seqOf st d with
    | none => rw [hq] at h; exact h.elim
    | some es =>
      rw [hq] at h
      obtain ⟨a, ys, rfl, z1, z2⟩ := seqOf_ok sr rx hq
      exact call_len_seq pins s σ H _ us Q I rv ⟨a, ys, rfl, z1, by rw [← z2.length]; exact h.here sr rfl⟩
  · exact h.elim
def tupO : OL := fun ds st => match ds with
  | [d] => (seqOf st d).map fun es => (.tuple es, st)
  | _ => none
theorem cTup : CallR X (.type "tuple") (rL X.K T tupO) := by
  intro pins s σ H xs us Q I rv ⟨L, M, st, ds, sr, r, h⟩
  unfold tupO at h
  split at h
  · rename_i d
    obtain ⟨x, rfl, rx⟩ := r.one
    cases hq : seqOf st d with
    | none => rw [hq] at h; exact h.elim
    | some es =>
      rw [hq] at h
      have go : ∀ es, listOf st d = some es → Po X.K T (Rep X.K) L M H (.ok (.tuple es) st) (fun _ _ => False) Q → wpAny (model X.prog X.w) X.A (call (.type "tuple") us) (EP X pins σ Q) X.xe s := fun es hl h => by
        obtain ⟨a, ys, rfl, z1, z2⟩ := listOf_ok sr rx hl
        exact call_tuple_of pins s σ H _ us Q I rv ⟨a, ys, rfl, .inl ⟨z1, Po.newT h sr z2⟩⟩
      cases d with
      | tuple fs =>
        cases hq
        obtain ⟨a, ys, rfl, z1, z2⟩ := rx
        exact call_tuple_of pins s σ H _ us Q I rv ⟨a, ys, rfl, .inr ⟨z1.sq, h.here sr ⟨a, ys, rfl, z1, z2⟩⟩⟩
      | none => exact go _ hq h
      | bool _ => exact go _ hq h
      | int _ => exact go _ hq h
      | str _ => exact go _ hq h
      | list _ => exact go _ hq h
      | dict _ => exact go _ hq h
  · exact h.elim
def absO : OL := fun ds st => match ds with
  | [.int i] => some (.int (if i < 0 then -i else i), st)
  | _ => none
theorem cAbs : CallR X (.builtin "abs") (rL X.K T absO) := by
  intro pins s σ H xs us Q I rv ⟨L, M, st, ds, sr, r, h⟩
  unfold absO at h
  split at h
  · rename_i i
    obtain ⟨x, rfl, rx⟩ := r.one
    cases (show x = _ from rx)
    exact call_abs pins s σ H _ us Q I rv ⟨i, rfl, h.here sr rfl⟩
  · exact h.elim
def intO : OL := fun ds st => match ds with
  | [.int i] => some (.int i, st)
  | [.bool k] => some (.int (if k then 1 else 0), st)
  | _ => none
theorem cInt : CallR X (.type "int") (rL X.K T intO) := by
  intro pins s σ H xs us Q I rv ⟨L, M, st, ds, sr, r, h⟩
  unfold intO at h
  split at h
  · rename_i i
    obtain ⟨x, rfl, rx⟩ := r.one
    cases (show x = _ from rx)
    exact call_int1 pins s σ H _ us Q I rv (.inl ⟨i, rfl, h.here sr rfl⟩)
  · rename_i k
    obtain ⟨x, rfl, rx⟩ := r.one
    cases (show x = _ from rx)
    exact call_int1 pins s σ H _ us Q I rv (.inr ⟨k, rfl, h.here sr rfl⟩)
  · exact h.elim
/-! ### isinstance -/
def tyN (st : Sto) : D → Option String
  | .none => some "NoneType"
  | .bool _ => some "bool"
  | .int _ => some "int"
  | .str _ => some "str"
  | .tuple _ => some "tuple"
  | .list _ => some "list"
  | .dict [(.int n, .none)] => match st[n.toNat]? with
    | some (.lst _) => some "list"
    | some (.dct _) => some "dict"
    | none => none
  | .dict _ => none
def isa (t c : String) : Bool := t == c || (t == "bool" && c == "int")
def IsaOk (K : PySem.W.Frag) (c : String) : Prop := ∀ t ∈ ["NoneType", "bool", "int", "str", "tuple", "list", "dict"], PySem.W.kitOne K (.type t) (.type c) = some (isa t c)
theorem tyN_ok {K : PySem.W.Frag} {d : D} {v : V} {t : String} (s : SRel K T L M H st) (r : Rep K L M H d v) (h : tyN st d = some t) : TyX K H v (.type t) := by
  cases d with
  | none => cases h; cases (show v = _ from r); exact .base .non
  | bool _ => cases h; cases (show v = _ from r); exact .base (.bl _)
  | int _ => cases h; cases (show v = _ from r); exact .base (.int _)
  | str _ => cases h; cases (show v = _ from r); exact .base (.str _)
  | tuple _ =>
    cases h
    obtain ⟨a, xs, rfl, z, _⟩ := r
    rcases z with ⟨z, _⟩ | ⟨o, its, n, k, c, _⟩
    · rcases z with z | ⟨o, z⟩
      · exact .base (.tup z)
      · exact .fTuple z
    · exact .kTuple k c
  | list _ =>
    cases h
    obtain ⟨a, xs, rfl, z, _⟩ := r
    rcases z with ⟨z | ⟨o, z⟩, _⟩ | ⟨its, n, k, _⟩
    · exact .base (.lst z)
    · exact .base (.frz z)
    · exact .kList k rfl
  | dict kvs =>
    obtain ⟨n, a, rfl, rfl, e⟩ := r
    simp only [tyN, Int.toNat_natCast] at h
    split at h
    · rename_i ds q
      cases h
      obtain ⟨xs, z, _⟩ := s.lst q e
      exact .base (.lst z)
    · rename_i kv q
      cases h
      obtain ⟨u, z, z2⟩ := s.obs n _ a q e
      rcases z2 with ⟨ps, rfl, _⟩ | ⟨ps, rfl, _⟩
      · exact .base (.dK z)
      · exact .base (.dT z)
    · cases h
theorem tyN_in {d : D} {t : String} (h : tyN st d = some t) : t ∈ ["NoneType", "bool", "int", "str", "tuple", "list", "dict"] := by
  unfold tyN at h
  split at h <;> first | (cases h; done) | (cases h; decide) | (split at h <;> first | (cases h; done) | (cases h; decide))
def isiO (c : String) : O1 := fun d st => (tyN st d).map fun t => (.bool (isa t c), st)
theorem fe_isi {cn : Str} {c : String} {p2 : Pos} (hk : IsaOk X.K c) (hg : Gl X "isinstance") (hm : X.mg "isinstance" = none) (hg2 : Gl X cn) (hm2 : X.mg cn = none) (hv2 : bootBuiltins cn = some (.type c)) (ha : PE X a (tF X.K T WE Fa))
    (he : starEach (a :: [.Name cn p2]) X.env = (false, eval a X.env) :: starEach [.Name cn p2] X.env := by rfl) (hn2 : cn ≠ "__name__" := by decide) (hdb2 : (cn == ("__debug__" : Str)) = false := by decide) :
    PE X (.Call (.Name "isinstance" p) [a, .Name cn p2] [] pos) (tF X.K T WE (eU (isiO c) Fa)) := by
  refine PE.w (pe_callB (r := rIsi X.K) call_isi hg hm rfl (pa_cons ha (pa_cons (pe_bltn (v := .ty c) hg2 hm2 hv2 rfl hn2 hdb2) pa_nil) he) (by decide) (by decide) he) fun σ H Q ⟨L, M, ρ, st, s, e, h⟩ => ?_
  unfold eU at h
  refine tG.bind s e h fun x s1 vx L1 H1 _ e1 sr er rx h1 => ?_
  unfold isiO at h1
  cases ht : tyN s1 x with
  | none => rw [ht] at h1; exact h1.elim
  | some t =>
    rw [ht] at h1
    exact ⟨vx, .ty c, .type t, .type c, isa t c, rfl, .ty c, tyN_ok sr rx ht, hk t (tyN_in ht), h1 (.bl _) L1 H1 Ext.refl sr rfl⟩
/-! ### a value's truth -/
def truD (st : Sto) : D → Option Bool
  | .none => some false
  | .bool b => some b
  | .int i => some (i != 0)
  | .str z => if z.length ≤ 16777216 then some ((z.length : Int) != 0) else none
  | .tuple ds => some (!ds.isEmpty)
  | .list ds => some (!ds.isEmpty)
  | .dict [(.int n, .none)] => match st[n.toNat]? with
    | some (.lst ds) => some (!ds.isEmpty)
    | _ => none
  | .dict _ => none
def bTru (a : Ex) : ExB := fun ρ st => (a ρ st).bind fun x s1 => match truD s1 x with
  | some k => .ok k s1
  | none => .bad
theorem RepL.emp {K : PySem.W.Frag} {ds : List D} {xs : List V} (r : RepL K L M H ds xs) : ds.isEmpty = xs.isEmpty := by
  cases ds with
  | nil => cases (show xs = [] from r); rfl
  | cons _ _ => obtain ⟨_, _, rfl, _⟩ := r; rfl
theorem truD_ok {K : PySem.W.Frag} {d : D} {v : V} {k : Bool} (s : SRel K T L M H st) (r : Rep K L M H d v) (h : truD st d = some k) : TruV K v H k := by
  cases d with
  | none => cases h; cases (show v = _ from r); rfl
  | bool _ => cases h; cases (show v = _ from r); rfl
  | int _ => cases h; cases (show v = _ from r); rfl
  | str z =>
    cases (show v = _ from r)
    simp only [truD] at h
    split at h
    · rename_i hz
      cases h
      exact ⟨by rw [sizeLine_eq]; exact hz, rfl⟩
    · cases h
  | tuple _ =>
    cases h
    obtain ⟨a, xs, rfl, z, z2⟩ := r
    exact .inr (.inl ⟨xs, z.sq, by rw [z2.emp]⟩)
  | list _ =>
    cases h
    obtain ⟨a, xs, rfl, z, z2⟩ := r
    exact .inl ⟨xs, z.sq, by rw [z2.emp]⟩
  | dict kvs =>
    obtain ⟨n, a, rfl, rfl, e⟩ := r
    simp only [truD, Int.toNat_natCast] at h
    split at h
    · rename_i ds q
      cases h
      obtain ⟨xs, z, z2⟩ := s.lst q e
      exact .inl ⟨xs, .inl (.inl z), by rw [z2.emp]⟩
    · cases h
theorem ft_tru (ha : PE X a (tF X.K T WE Fa)) (he : ∀ whole, isTrue a X.env whole = (do let v ← whole; standAt a.pos; holding [v] (truthy v)) := by intro _; rfl) : PT X a (tT X.K T WE (bTru Fa)) :=
  PT.w (pt_truth ha he) fun σ H Q ⟨L, M, ρ, st, s, e, h⟩ => tG.bind s e h fun x s1 vx L1 H1 _ e1 sr er rx h1 => by
    cases ht : truD s1 x with
    | none => rw [ht] at h1; exact h1.elim
    | some k => rw [ht] at h1; exact ⟨k, truD_ok sr rx ht, h1 k L1 H1 Ext.refl sr rfl⟩
/-! ### chains -/
def eChain (o o' : O2) (a b c : Ex) : Ex := fun ρ st => (a ρ st).bind fun x s1 => (b ρ s1).bind fun y s2 => match o x y s2 with
  | some (.bool k, s3) => if k = true then (c ρ s3).bind fun z s4 => ofO (o' y z s4) else .ok (.bool false) s3
  | _ => .bad
theorem tbch {K : PySem.W.Frag} {o o' : O2} {Fa Fb Fc : Ex} {σ : L2.St} {H : Hp} {Q : VK} (h : tF K T WE (eChain o o' Fa Fb Fc) σ H Q) : tChain (r2 K T o) (r2 K T o') (tF K T WE Fa) (tF K T WE Fb) (tF K T WE Fc) σ H Q := by
  obtain ⟨L, M, ρ, st, s, e, h⟩ := h
  unfold eChain at h
  refine tG.bind s e h fun x s1 vx L1 H1 _ e1 sr er rx h1 => ?_
  refine tG.bind sr er h1 fun y s2 vy L2 H2 _ e2 sr2 er2 ry h2 => ?_
  refine ⟨L2, M, s2, x, y, sr2, rx.ext e2, ry, ?_⟩
  cases ho : o x y s2 with
  | none => rw [ho] at h2; exact h2.elim
  | some q =>
    obtain ⟨d, s3⟩ := q
    rw [ho] at h2
    cases d with
    | bool k =>
      intro v L3 H3 e3 sr3 rv
      cases (show v = _ from rv)
      refine ⟨k, rfl, ?_⟩
      cases k with
      | false => exact h2 (.bl false) L3 H3 e3 sr3 rfl
      | true =>
        rw [if_pos rfl]
        simp only [if_true] at h2
        refine tG.bind sr3 (er2.ext e3) (h2.ext e3) fun z s4 vz L4 H4 _ e4 sr4 er4 rz h4 => ?_
        exact ⟨L4, M, s4, y, z, sr4, (ry.ext e3).ext e4, rz, Po.ofO h4⟩
    | _ => exact h2.elim
theorem fe_chain {op op' : CmpOp} {o o' : O2} (ho : OpR X (compareOp op) (r2 X.K T o)) (ho' : OpR X (compareOp op') (r2 X.K T o')) (ha : PE X a (tF X.K T WE Fa)) (hb : PE X b (tF X.K T WE Fb)) (hc : PE X c (tF X.K T WE Fc))
    (hm : lastMarks [op, op'] [b, c] = false := by with_unfolding_all rfl) : PE X (.Compare a [op, op'] [b, c] pos) (tF X.K T WE (eChain o o' Fa Fb Fc)) :=
  PE.w (pe_chain ho ho' ha hb hc hm) fun _ _ _ h => tbch h
theorem ft_chain {op op' : CmpOp} {o o' : O2} (ho : OpR X (compareOp op) (r2 X.K T o)) (ho' : OpR X (compareOp op') (r2 X.K T o')) (ha : PE X a (tF X.K T WE Fa)) (hb : PE X b (tF X.K T WE Fb)) (hc : PE X c (tF X.K T WE Fc))
    (hm : lastMarks [op, op'] [b, c] = false := by with_unfolding_all rfl) : PT X (.Compare a [op, op'] [b, c] pos) (tT X.K T WE (bVal (eChain o o' Fa Fb Fc))) :=
  PT.w (pt_chain ho ho' ha hb hc hm) fun _ _ _ h => tbv (fun _ _ _ h => tbch h) h
end
end Fl
/-! Fl12: membership, all/any/sum/min/max, repr, list(x), reversal by a slice. -/
namespace PySem
open Sem (wp)
open PySem.Spec PyProof.Rows HT
section
variable {prog : Program} {w : World} {A : Around} {E : Value → Shared → Prop} {s : Shared}
theorem rev_places (n : Nat) : Builtin.Slice.slicePlaces ((n : Int) - 1) (-1) (-1) = n := by
  unfold Builtin.Slice.slicePlaces
  rw [if_neg (by decide)]
  by_cases h : (n : Int) - 1 > -1
  · rw [if_pos h, show (- -1 : Int) = 1 by decide, Int.ediv_one]
    omega
  · rw [if_neg h]; omega
theorem rev_pick (xs : Array Value) : (List.range xs.size).filterMap (fun (k : Nat) => xs[((xs.size : Int) - 1 + (k : Int) * -1).toNat]?) = xs.toList.reverse := by
  have e := PySem.W.krv_range xs.size
  have e2 := PySem.W.krv_all xs
  have e1 : (fun (k : Nat) => xs[((xs.size : Int) - 1 + (k : Int) * -1).toNat]?) = (fun i => xs[i]?) ∘ fun (k : Nat) => ((xs.size : Int) - 1 + (k : Int) * -1).toNat := rfl
  rw [e1, ← List.filterMap_map]
  have e3 : (List.range xs.size).map (fun k : Nat => ((xs.size : Int) - 1 + (k : Int) * -1).toNat) = (List.range xs.size).map fun k => xs.size - 1 - k := by
    apply List.map_congr_left
    intro k hk
    have := List.mem_range.mp hk
    omega
  rw [e3, e, List.filterMap_reverse, e2]
theorem slicePart_neg {v : Value} {i : Int} {Q : Option Int → Shared → Prop} (h : IsPart v (some i)) (q : Q (some i) s) : wpAny (model prog w) A (Builtin.Slice.slicePartIndex v) Q E s := slicePart_ h q
theorem sliceApplied_rev {sl : Addr} {vs : Value} {n : Nat} {Q : Int × Int × Nat → Shared → Prop} (hs : s.heap.IsSliceOf sl .none .none vs) (ps : IsPart vs (some (-1)))
    (h : Q ((n : Int) - 1, -1, n) s) : wpAny (model prog w) A (Builtin.Slice.sliceApplied (.ref sl) (pure (n : Int))) Q E s := by
  obtain ⟨os, hos, hcs, hds⟩ := id hs
  unfold Builtin.Slice.sliceApplied Builtin.Slice.sliceFields
  refine wpAny_bind (wpAny_bind (wpAny_field hos hds (x := .none) rfl (wpAny_bind (wpAny_field hos hds (x := .none) rfl (wpAny_bind (wpAny_field hos hds (x := vs) rfl (wpAny_pure ?_)))))))
  refine wpAny_bind (slicePart_ ps ?_)
  show wpAny _ _ (if ((-1 : Int) == 0) = true then _ else _) _ _ s
  rw [if_neg (by decide)]
  refine wpAny_bind (slicePart_none (wpAny_bind (slicePart_none (wpAny_bind (wpAny_pure ?_)))))
  show wpAny _ _ (pure ((n : Int) - 1, (-1 : Int), Builtin.Slice.slicePlaces ((n : Int) - 1) (-1) (-1))) _ _ s
  rw [rev_places]
  exact wpAny_pure h
theorem getItem_tuple_back {t sl : Addr} {items : Array Value} {vs : Value} {Q : Value → Shared → Prop} (ht : IsTup s.heap t items) (hs : s.heap.IsSliceOf sl .none .none vs) (ps : IsPart vs (some (-1)))
    (h : Q (.ref s.heap.objs.size) { s with heap := s.heap.push { cls := .type "tuple", data := .seq items.toList.reverse.toArray } })
    (hsz : items.size ≤ sizeLine) : wpAny (model prog w) A (getItem (.ref t) (.ref sl)) Q E s := by
  have htake : sizeOk (.seq items.toList.reverse.toArray) := by
    show items.toList.reverse.toArray.size ≤ sizeLine
    rw [List.size_toArray, List.length_reverse, Array.length_toList]
    exact hsz
  obtain ⟨os, hos, hcs, hds⟩ := id hs
  have hTs : s.TypeIs (.ref sl) "slice" := ⟨os, hos, hcs⟩
  unfold getItem
  try with_reducible refine wpAny_holding ?_
  first | refine wpAny_bind (wpAny_pure ?_) | skip
  refine wpAny_bind (wpAny_sequenceKey ht.typeIs (by decide) ?_)
  refine wpAny_bind (wpAny_callSpecial?_slot (name := Str.ofString "__getitem__") ht.typeIs PyProof.Rows.slot_tuple_getitem
    (wpAny_call_entry PyProof.Rows.slot_tuple_getitem ht.typeIs entry_tuple_getitem ?_ (args_tuple_getitem _ _)))
  show wpAny _ _ (Builtin.Tuple.tupleItemsOf (.ref t) >>= _) _ _ s
  refine wpAny_bind (tupleItemsOf_ ht ?_)
  refine wpAny_bind (wpAny_typeOf hTs ?_)
  rw [if_pos (by decide)]
  refine wpAny_bind (sliceApplied_rev hs ps ?_)
  have hno : ¬ ((((items.size : Int) - 1) == 0 && (-1 : Int) == 1 && items.size == items.size) = true) := by simp
  show wpAny _ _ (if (((items.size : Int) - 1) == 0 && (-1 : Int) == 1 && items.size == items.size) = true then _ else _) _ _ s
  rw [if_neg hno, rev_pick]
  first
    | exact wpAny_bind (m := Builtin.Tuple.tupleExact _) (wpAny_newObj_type (wpAny_pure ⟨_, rfl, wpAny_pure h⟩) htake)
    | exact wpAny_bind (m := Builtin.Tuple.tupleExact _) (wpAny_newObj_type (wpAny_bind (wpAny_pure (wpAny_pure ⟨_, rfl, wpAny_pure h⟩))) htake)
    | exact wpAny_bind (wpAny_bind (m := Builtin.Tuple.tupleExact _) (wpAny_newObj_type (wpAny_pure (wpAny_pure ⟨_, rfl, wpAny_pure h⟩)) htake))
    | exact wpAny_bind (wpAny_bind (m := Builtin.Tuple.tupleExact _) (wpAny_newObj_type (wpAny_pure ⟨_, rfl, wpAny_pure h⟩) htake))
/-- sum of a list or tuple of ints -/
theorem sum_seq {l : Addr} {vs : Array Value} {ns : List Int} {Q : Value → Shared → Prop} (hh : A.handled = none) (hl : s.heap.IsList l vs ∨ s.heap.IsTuple l vs) (hn : vs.size = ns.length) (hi : ∀ i v, vs[i]? = some v → ∃ t, v = Value.int (ns.getD i 0) t)
    (h : ∀ h' tk t, (∀ b o, s.heap.get? b = some o → h'.get? b = some o) → Q (.int ns.sum t) { s with heap := h', toks := tk }) :
    wpAny (model prog w) A (call (.builtin "sum") [.ref l]) Q E s := by
  have e : preSum (fun i => ns.getD i 0) ns.length = ns.sum := by
    have : ∀ j, j ≤ ns.length → preSum (fun i => ns.getD i 0) j = (ns.take j).sum := by
      intro j
      induction j with
      | zero => intro _; simp [preSum]
      | succ j ih =>
        intro hj
        rw [preSum, ih (by omega), List.take_add_one, List.sum_append]
        have : ns[j]? = some ns[j] := List.getElem?_eq_getElem (by omega)
        simp [this, List.getD]
    rw [this _ (Nat.le_refl _), List.take_length]
  refine call_sum_walkAnyS ?_
  rcases hl with hl | hl
  · refine PySem.W.iter_listW (A := A.in1) hh hl fun s₂ e' W st hfp hw hk => ?_
    refine ⟨_, _, _, _, _, _, _, _, rfl, W, st, hfp, hi, fun s' t' m => ?_⟩
    obtain ⟨h', tk, rfl, hk'⟩ := PySem.W.moved_old e' rfl m
    rw [hn, e]
    exact h h' tk t' hk'
  · refine PySem.W.iter_tupleW (A := A.in1) hh hl fun s₂ e' W st hfp hw hk => ?_
    refine ⟨_, _, _, _, _, _, _, _, rfl, W, st, hfp, hi, fun s' t' m => ?_⟩
    obtain ⟨h', tk, rfl, hk'⟩ := PySem.W.moved_old e' rfl m
    rw [hn, e]
    exact h h' tk t' hk'
end
end PySem
namespace Fl
open PySem PySem.Spec PyProof.Rows L2
mutual
theorem plain_noDict : ∀ d : D, d.plain = true → d.hasDict = false
  | .none, _ => by simp only [PyData.hasDict]
  | .bool _, _ => by simp only [PyData.hasDict]
  | .int _, _ => by simp only [PyData.hasDict]
  | .str _, _ => by simp only [PyData.hasDict]
  | .list xs, h => by simp only [PyData.hasDict]; exact plainAll_noDict xs (by simpa [PyData.plain] using h)
  | .tuple xs, h => by simp only [PyData.hasDict]; exact plainAll_noDict xs (by simpa [PyData.plain] using h)
  | .dict _, h => by simp [PyData.plain] at h
theorem plainAll_noDict : ∀ ds : List D, PyData.plainAll ds = true → PyData.hasDictAll ds = false
  | [], _ => by simp [PyData.hasDictAll]
  | x :: xs, h => by
    simp only [PyData.plainAll, Bool.and_eq_true] at h
    simp [PyData.hasDictAll, plain_noDict x h.1, plainAll_noDict xs h.2]
end
section
variable {X : Cx} {T : List (Addr × Str)} {L M : List Addr} {H : Hp} {st : Sto} {pins : List (Addr × Obj)} {σ : L2.St} {s : Shared}
variable {e a b c : Expr} {es : List Expr} {p pos : Pos} {Fa Fb Fc : Ex} {Ba Bb : ExB} {La : ExL} {WE : Nat → Hp → Prop} {x : Str}
/-! ### in, not in -/
def inO (f : Bool → Bool) : O2 := fun x y st => (dv st x).bind fun a => (dv st y).bind fun b => match b with
  | .list xs => some (.bool (f (xs.any fun y => PyData.eqv y a)), st)
  | .tuple xs => some (.bool (f (xs.any fun y => PyData.eqv y a)), st)
  | _ => none
theorem oIn (hu : X.A.units + 64 < cLine) : OpR X (compareOp .In) (r2 X.K T (inO id)) := by
  intro pins s σ H x y v u Q I rx ry ⟨L, M, st, d, e, sr, r1, r2, h⟩
  obtain ⟨a, b, h1, h2, h⟩ := bind2 h
  obtain ⟨⟨as, q1⟩, p1, d1⟩ := dv_reads I sr h1 r1 rx
  obtain ⟨⟨bs, q2⟩, p2, d2⟩ := dv_reads I sr h2 r2 ry
  split at h
  · exact PySem.SeqAt.in_list_data q2 q1 (by simpa [PyData.plain] using p2) p1 (by omega) ⟨.bl _, H, I, rfl, h.here sr rfl⟩
  · exact PySem.SeqAt.in_tuple_data q2 q1 (by simpa [PyData.plain] using p2) p1 (by omega) ⟨.bl _, H, I, rfl, h.here sr rfl⟩
  · exact h.elim
theorem oNotIn (hu : X.A.units + 64 < cLine) : OpR X (compareOp .NotIn) (r2 X.K T (inO not)) := by
  intro pins s σ H x y v u Q I rx ry ⟨L, M, st, d, e, sr, r1, r2, h⟩
  obtain ⟨a, b, h1, h2, h⟩ := bind2 h
  obtain ⟨⟨as, q1⟩, p1, d1⟩ := dv_reads I sr h1 r1 rx
  obtain ⟨⟨bs, q2⟩, p2, d2⟩ := dv_reads I sr h2 r2 ry
  split at h
  · exact PySem.SeqAt.notIn_list_data q2 q1 (by simpa [PyData.plain] using p2) p1 (by omega) ⟨.bl _, H, I, rfl, h.here sr rfl⟩
  · exact PySem.SeqAt.notIn_tuple_data q2 q1 (by simpa [PyData.plain] using p2) p1 (by omega) ⟨.bl _, H, I, rfl, h.here sr rfl⟩
  · exact h.elim
/-! ### all, any, sum -/
def boolsOf : List D → Option (List Bool)
  | [] => some []
  | .bool b :: r => (boolsOf r).map (b :: ·)
  | _ => none
def intsOf : List D → Option (List Int)
  | [] => some []
  | .int b :: r => (intsOf r).map (b :: ·)
  | _ => none
theorem boolsOf_eq : ∀ {ds : List D} {bs : List Bool}, boolsOf ds = some bs → ds = bs.map PyData.bool
  | [], _, h => by cases h; rfl
  | .bool b :: r, _, h => by
    unfold boolsOf at h
    cases q : boolsOf r with
    | none => rw [q] at h; cases h
    | some t => rw [q] at h; cases h; rw [boolsOf_eq q]; rfl
  | .none :: _, _, h => by cases h
  | .int _ :: _, _, h => by cases h
  | .str _ :: _, _, h => by cases h
  | .list _ :: _, _, h => by cases h
  | .tuple _ :: _, _, h => by cases h
  | .dict _ :: _, _, h => by cases h
theorem intsOf_eq : ∀ {ds : List D} {bs : List Int}, intsOf ds = some bs → ds = bs.map PyData.int
  | [], _, h => by cases h; rfl
  | .int b :: r, _, h => by
    unfold intsOf at h
    cases q : intsOf r with
    | none => rw [q] at h; cases h
    | some t => rw [q] at h; cases h; rw [intsOf_eq q]; rfl
  | .none :: _, _, h => by cases h
  | .bool _ :: _, _, h => by cases h
  | .str _ :: _, _, h => by cases h
  | .list _ :: _, _, h => by cases h
  | .tuple _ :: _, _, h => by cases h
  | .dict _ :: _, _, h => by cases h
theorem boolsOf_map (bs : List Bool) : boolsOf (bs.map PyData.bool) = some bs := by
  induction bs with
  | nil => rfl
  | cons b r ih => simp [boolsOf, ih]
theorem intsOf_map (bs : List Int) : intsOf (bs.map PyData.int) = some bs := by
  induction bs with
  | nil => rfl
  | cons b r ih => simp [intsOf, ih]
theorem repl_bools : ∀ {bs : List Bool} {xs : List V} {us : List Value}, RepL X.K L M H (bs.map PyData.bool) xs → Vals xs us → ReadsAll s.heap us (bs.map PyData.bool) []
  | [], _, _, r, v => by cases (show _ = [] from r); cases v; exact .nil
  | b :: bs, _, _, ⟨x, t, e, h1, h2⟩, v => by
    subst e
    cases (show x = .bl b from h1)
    cases v with
    | cons v1 v2 => cases (show _ = Value.bool b from v1); exact .cons (as := []) (bs := []) (.bool b) (repl_bools h2 v2)
theorem repl_ints : ∀ {ns : List Int} {xs : List V} {us : List Value}, RepL X.K L M H (ns.map PyData.int) xs → Vals xs us → ∀ (i : Nat) v, us[i]? = some v → ∃ t, v = .int (ns.getD i 0) t
  | [], _, _, r, v => by cases (show _ = [] from r); cases v; intro i v h; simp at h
  | b :: bs, _, _, ⟨x, t, e, h1, h2⟩, v => by
    subst e
    cases (show x = .int b from h1)
    cases v with
    | cons v1 v2 =>
      intro i v h
      cases i with
      | zero =>
        obtain ⟨t, q⟩ := (show ∃ t, _ = Value.int b t from v1)
        simp only [List.getElem?_cons_zero, Option.some.injEq] at h
        exact ⟨t, by rw [← h, q]; rfl⟩
      | succ i =>
        simp only [List.getElem?_cons_succ] at h
        obtain ⟨t, q⟩ := repl_ints h2 v2 i v h
        exact ⟨t, by rw [q]; rfl⟩
/-- the list or tuple that stands behind a sequence -/
theorem seq_at (I : Inv X pins σ H s) {d : D} {v : V} {ds : List D} (sr : SRel X.K T L M H st) (r : Rep X.K L M H d v) (h : seqOf st d = some ds) : ∃ a xs its, v = .ref a ∧ RepL X.K L M H ds xs ∧ Vals xs its ∧ (s.heap.IsList a its.toArray ∨ s.heap.IsTuple a its.toArray) ∧ xs.length ≤ sizeLine := by
  obtain ⟨a, xs, rfl, z1, z2⟩ := seqOf_ok sr r h
  rcases z1 with z1 | z1
  · obtain ⟨its, r, pl, hz⟩ := I.list z1
    exact ⟨a, xs, its, rfl, z2, r, .inl pl.isList, hz⟩
  · obtain ⟨its, r, pl, hz⟩ := I.tuple z1
    exact ⟨a, xs, its, rfl, z2, r, .inr pl, hz⟩
def allO : OL := fun ds st => match ds with
  | [d] => ((seqOf st d).bind boolsOf).map fun bs => (.bool (bs.all id), st)
  | _ => none
def anyO : OL := fun ds st => match ds with
  | [d] => ((seqOf st d).bind boolsOf).map fun bs => (.bool (bs.any id), st)
  | _ => none
def sumO : OL := fun ds st => match ds with
  | [d] => ((seqOf st d).bind intsOf).map fun ns => (.int ns.sum, st)
  | _ => none
theorem plain_bools (bs : List Bool) : PyData.plainAll (bs.map PyData.bool) = true := by
  induction bs with
  | nil => rfl
  | cons b r ih => simp [PyData.plainAll, PyData.plain, ih]
theorem cAll (hc : X.calm = true) : CallR X (.builtin "all") (rL X.K T allO) := by
  intro pins s σ H xs us Q I rv ⟨L, M, st, ds, sr, r, h⟩
  unfold allO at h
  split at h
  · rename_i d
    obtain ⟨x, rfl, rx⟩ := r.one
    cases hq : seqOf st d with
    | none => rw [hq] at h; exact h.elim
    | some es =>
      rw [hq] at h
      simp only [Option.bind_some] at h
      cases hb : boolsOf es with
      | none => rw [hb] at h; exact h.elim
      | some bs =>
        rw [hb] at h
        obtain ⟨a, xs, its, rfl, z2, z3, z4, z5⟩ := seq_at I sr rx hq
        obtain ⟨u, rfl, ru⟩ := vals1 rv
        cases ru
        have he := boolsOf_eq hb
        subst he
        have hf : ∀ x ∈ bs.map PyData.bool, x.fits63 := fun x hx => by obtain ⟨b, _, rfl⟩ := List.mem_map.mp hx; exact True.intro
        have fin : ∀ h' tk, (∀ b o, s.heap.get? b = some o → h'.get? b = some o) → EP X pins σ Q (.bool ((bs.map PyData.bool).all PyData.truthy)) { s with heap := h', toks := tk } := fun h' tk k =>
          ⟨.bl (bs.all id), H, I.kept k, by simp only [List.all_map]; rfl, h.here sr rfl⟩
        rcases z4 with z4 | z4
        · exact PySem.W.all_list_data (I.ok.hd hc) z4 (repl_bools z2 z3) (plain_bools bs) hf fin
        · exact PySem.W.all_tuple_data (I.ok.hd hc) z4 (repl_bools z2 z3) (plain_bools bs) hf fin
  · exact h.elim
theorem cAny (hc : X.calm = true) : CallR X (.builtin "any") (rL X.K T anyO) := by
  intro pins s σ H xs us Q I rv ⟨L, M, st, ds, sr, r, h⟩
  unfold anyO at h
  split at h
  · rename_i d
    obtain ⟨x, rfl, rx⟩ := r.one
    cases hq : seqOf st d with
    | none => rw [hq] at h; exact h.elim
    | some es =>
      rw [hq] at h
      simp only [Option.bind_some] at h
      cases hb : boolsOf es with
      | none => rw [hb] at h; exact h.elim
      | some bs =>
        rw [hb] at h
        obtain ⟨a, xs, its, rfl, z2, z3, z4, z5⟩ := seq_at I sr rx hq
        obtain ⟨u, rfl, ru⟩ := vals1 rv
        cases ru
        have he := boolsOf_eq hb
        subst he
        have hf : ∀ x ∈ bs.map PyData.bool, x.fits63 := fun x hx => by obtain ⟨b, _, rfl⟩ := List.mem_map.mp hx; exact True.intro
        have fin : ∀ h' tk, (∀ b o, s.heap.get? b = some o → h'.get? b = some o) → EP X pins σ Q (.bool ((bs.map PyData.bool).any PyData.truthy)) { s with heap := h', toks := tk } := fun h' tk k =>
          ⟨.bl (bs.any id), H, I.kept k, by simp only [List.any_map]; rfl, h.here sr rfl⟩
        rcases z4 with z4 | z4
        · exact PySem.W.any_list_data (I.ok.hd hc) z4 (repl_bools z2 z3) (plain_bools bs) hf fin
        · exact PySem.W.any_tuple_data (I.ok.hd hc) z4 (repl_bools z2 z3) (plain_bools bs) hf fin
  · exact h.elim
theorem cSum (hc : X.calm = true) : CallR X (.builtin "sum") (rL X.K T sumO) := by
  intro pins s σ H xs us Q I rv ⟨L, M, st, ds, sr, r, h⟩
  unfold sumO at h
  split at h
  · rename_i d
    obtain ⟨x, rfl, rx⟩ := r.one
    cases hq : seqOf st d with
    | none => rw [hq] at h; exact h.elim
    | some es =>
      rw [hq] at h
      simp only [Option.bind_some] at h
      cases hb : intsOf es with
      | none => rw [hb] at h; exact h.elim
      | some ns =>
        rw [hb] at h
        obtain ⟨a, xs, its, rfl, z2, z3, z4, z5⟩ := seq_at I sr rx hq
        obtain ⟨u, rfl, ru⟩ := vals1 rv
        cases ru
        have he := intsOf_eq hb
        subst he
        have hl : its.toArray.size = ns.length := by
          rw [List.size_toArray, ← z3.length, ← z2.length, List.length_map]
        exact PySem.sum_seq (I.ok.hd hc) z4 hl (fun i v hv => repl_ints z2 z3 i v (by simpa using hv)) fun h' tk t k => ⟨.int ns.sum, H, I.kept k, ⟨t, rfl⟩, h.here sr rfl⟩
  · exact h.elim
/-! ### min, max -/
noncomputable section
open Classical in
def pickO (f : D → List D → D) : OL := fun ds st => match ds with
  | [d] => match seqOf st d with
    | some (x :: xs) => if dv st (.list (x :: xs)) = some (.list (x :: xs)) ∧ PySem.W.AlikeAll (x :: xs) then some (f x xs, st) else none
    | _ => none
  | [.int i, .int j] => match f (.int i) [.int j] with
    | .int k => some (.int k, st)
    | _ => none
  | [.int i, .int j, .int l] => match f (.int i) [.int j, .int l] with
    | .int k => some (.int k, st)
    | _ => none
  | _ => none
abbrev minO : OL := pickO PySem.W.minD
abbrev maxO : OL := pickO PySem.W.maxD
end
theorem dv_list {d : D} {st : Sto} {ds es : List D} (h : dv st (.list ds) = some (.list es)) : fzL (fzD 0 st 39) ds = some es := by
  simp only [dv, fzD] at h
  cases q : fzL (fzD 0 st 39) ds with
  | none => rw [q] at h; cases h
  | some z => rw [q] at h; cases h; rfl
theorem fzL_at {f : D → Option D} : ∀ {ds es : List D}, fzL f ds = some es → ∀ (i : Nat) (d : D), ds[i]? = some d → ∃ e, es[i]? = some e ∧ f d = some e
  | [], _, h, i, d, hd => by simp at hd
  | x :: r, es, h, i, d, hd => by
    unfold fzL at h
    cases q : f x with
    | none => rw [q] at h; cases h
    | some y =>
      rw [q] at h
      simp only [Option.bind_some] at h
      cases q2 : fzL f r with
      | none => rw [q2] at h; cases h
      | some ys =>
        rw [q2] at h
        cases h
        cases i with
        | zero =>
          simp only [List.getElem?_cons_zero, Option.some.injEq] at hd
          subst hd
          exact ⟨y, rfl, q⟩
        | succ i =>
          simp only [List.getElem?_cons_succ] at hd
          exact fzL_at q2 i d hd
theorem vals_at : ∀ {xs : List V} {us : List Value}, Vals xs us → ∀ (i : Nat) u, us[i]? = some u → ∃ x, xs[i]? = some x ∧ RelV x u := by
  intro xs us v
  induction v with
  | nil => intro i u h; simp at h
  | cons a b ih =>
    intro i u h
    cases i with
    | zero =>
      simp only [List.getElem?_cons_zero, Option.some.injEq] at h
      exact ⟨_, rfl, by rw [← h]; exact a⟩
    | succ i =>
      simp only [List.getElem?_cons_succ] at h
      exact ih i u h
theorem repl_at {K : PySem.W.Frag} : ∀ {ds : List D} {xs : List V}, RepL K L M H ds xs → ∀ (i : Nat) x, xs[i]? = some x → ∃ d, ds[i]? = some d ∧ Rep K L M H d x
  | [], _, r, i, x, h => by cases (show _ = [] from r); simp at h
  | d :: ds, _, ⟨y, t, e, h1, h2⟩, i, x, h => by
    subst e
    cases i with
    | zero =>
      simp only [List.getElem?_cons_zero, Option.some.injEq] at h
      exact ⟨d, rfl, by rw [← h]; exact h1⟩
    | succ i =>
      simp only [List.getElem?_cons_succ] at h
      exact repl_at h2 i x h
/-- an item that reads as m is m itself -/
theorem item_is (I : Inv X pins σ H s) {ds : List D} {xs : List V} {its : List Value} {m : D} {h' : Heap} {bs : List Addr} {i : Nat} {v : Value} (sr : SRel X.K T L M H st) (hp : dv st (.list ds) = some (.list ds)) (z2 : RepL X.K L M H ds xs) (z3 : Vals xs its)
    (hv : its[i]? = some v) (r : Reads h' v m bs) (k : ∀ b o, s.heap.get? b = some o → h'.get? b = some o) : ∃ x, RelV x v ∧ Rep X.K L M H m x := by
  obtain ⟨x, hx, rx⟩ := vals_at z3 i v hv
  obtain ⟨d, hd, rd⟩ := repl_at z2 i x hx
  obtain ⟨e, he, hf⟩ := fzL_at (dv_list (d := d) hp) i d hd
  rw [hd] at he
  cases he
  have q := Dp.reads I d x v (fz_dp sr 39 d d x hf rd) rx
  obtain ⟨as, q⟩ := q
  have q' := PyProof.Rows.Reads.keeps k q
  have := PySem.SeqAt.plain_unique d m v _ _ (fz_plain 39 d d hf).1 q' r
  exact ⟨x, rx, by rw [← this]; exact rd⟩
theorem reads_all (I : Inv X pins σ H s) {ds : List D} {xs : List V} {its : List Value} (sr : SRel X.K T L M H st) (hp : dv st (.list ds) = some (.list ds)) (z2 : RepL X.K L M H ds xs) (z3 : Vals xs its) : ∃ as, ReadsAll s.heap its ds as :=
  Dp.readsAll I ds xs its (fzL_dp (fz_dp sr 39) (dv_list (d := .none) hp) z2) z3
theorem dv_depth {ds : List D} (hp : dv st (.list ds) = some (.list ds)) : PyData.depthAll ds ≤ 39 := (fzL_plain (k := 39) (fz_plain 39) (dv_list (d := .none) hp)).2
theorem minD2 (i j : Int) : PySem.W.minD (.int i) [.int j] = .int (if j < i then j else i) := by
  have := PySem.W.minD_ints i [j]
  simp only [List.map_cons, List.map_nil, List.foldl_cons, List.foldl_nil] at this
  rw [this]
  congr 1
  split <;> omega
theorem maxD2 (i j : Int) : PySem.W.maxD (.int i) [.int j] = .int (if j > i then j else i) := by
  have := PySem.W.maxD_ints i [j]
  simp only [List.map_cons, List.map_nil, List.foldl_cons, List.foldl_nil] at this
  rw [this]
  congr 1
  split <;> omega
theorem minD3 (i j l : Int) : PySem.W.minD (.int i) [.int j, .int l] = .int (if j < i then (if l < j then l else j) else (if l < i then l else i)) := by
  have := PySem.W.minD_ints i [j, l]
  simp only [List.map_cons, List.map_nil, List.foldl_cons, List.foldl_nil] at this
  rw [this]
  congr 1
  split <;> split <;> omega
theorem maxD3 (i j l : Int) : PySem.W.maxD (.int i) [.int j, .int l] = .int (if j > i then (if l > j then l else j) else (if l > i then l else i)) := by
  have := PySem.W.maxD_ints i [j, l]
  simp only [List.map_cons, List.map_nil, List.foldl_cons, List.foldl_nil] at this
  rw [this]
  congr 1
  split <;> split <;> omega
theorem RepL.three {K : PySem.W.Frag} {d d2 d3 : D} {xs : List V} (r : RepL K L M H [d, d2, d3] xs) : ∃ x y z, xs = [x, y, z] ∧ Rep K L M H d x ∧ Rep K L M H d2 y ∧ Rep K L M H d3 z := by
  obtain ⟨x, t, rfl, r1, r2⟩ := r
  obtain ⟨y, z, rfl, r3, r4⟩ := r2.two
  exact ⟨x, y, z, rfl, r1, r3, r4⟩
theorem vals3 {x y z : V} {us : List Value} (v : Vals [x, y, z] us) : ∃ a b c, us = [a, b, c] ∧ RelV x a ∧ RelV y b ∧ RelV z c := by
  cases v with
  | cons a r => cases r with
    | cons b r => cases r with
      | cons c r => cases r; exact ⟨_, _, _, rfl, a, b, c⟩
theorem cMin (hc : X.calm = true) (hu : X.A.units + 64 < cLine) : CallR X (.builtin "min") (rL X.K T minO) := by
  intro pins s σ H xs us Q I rv ⟨L, M, st, ds, sr, r, h⟩
  unfold minO pickO at h
  split at h
  · rename_i d
    obtain ⟨x, rfl, rx⟩ := r.one
    split at h
    · rename_i y ys hq
      split at h
      · rename_i hp
        obtain ⟨a, xs, its, rfl, z2, z3, z4, z5⟩ := seq_at I sr rx hq
        obtain ⟨u, rfl, ru⟩ := vals1 rv
        cases ru
        obtain ⟨as, ra⟩ := reads_all I sr hp.1 z2 z3
        have hd := dv_depth hp.1
        have fin : ∀ (i : Nat) v h' tk bs, its.toArray[i]? = some v → Reads h' v (PySem.W.minD y ys) bs → (∀ b o, s.heap.get? b = some o → h'.get? b = some o) → EP X pins σ Q v { s with heap := h', toks := tk } := fun i v h' tk bs hv r k => by
          obtain ⟨x, rx, rd⟩ := item_is I sr hp.1 z2 z3 (by simpa using hv) r k
          exact ⟨x, H, I.kept k, rx, h.here sr rd⟩
        rcases z4 with z4 | z4
        · exact PySem.W.min_list_data (I.ok.hd hc) z4 ra hp.2 (by omega) fin
        · exact PySem.W.min_tuple_data (I.ok.hd hc) z4 ra hp.2 (by omega) fin
      · exact h.elim
    · exact h.elim
  · rename_i i j
    obtain ⟨x, y, rfl, rx, ry⟩ := r.two
    cases (show x = _ from rx); cases (show y = _ from ry)
    rw [minD2] at h
    exact call_min2 hc pins s σ H _ us Q I rv ⟨i, j, rfl, h.here sr rfl⟩
  · rename_i i j l
    obtain ⟨x, y, z, rfl, rx, ry, rz⟩ := r.three
    cases (show x = _ from rx); cases (show y = _ from ry); cases (show z = _ from rz)
    rw [minD3] at h
    obtain ⟨a, b, c, rfl, ⟨t1, rfl⟩, ⟨t2, rfl⟩, ⟨t3, rfl⟩⟩ := vals3 rv
    refine PySem.min_three_ints (I.ok.hd hc) fun h' tk k => ⟨_, H, I.kept k, ?_, h.here sr rfl⟩
    split <;> split <;> exact ⟨_, rfl⟩
  · exact h.elim
theorem cMax (hc : X.calm = true) (hu : X.A.units + 64 < cLine) : CallR X (.builtin "max") (rL X.K T maxO) := by
  intro pins s σ H xs us Q I rv ⟨L, M, st, ds, sr, r, h⟩
  unfold maxO pickO at h
  split at h
  · rename_i d
    obtain ⟨x, rfl, rx⟩ := r.one
    split at h
    · rename_i y ys hq
      split at h
      · rename_i hp
        obtain ⟨a, xs, its, rfl, z2, z3, z4, z5⟩ := seq_at I sr rx hq
        obtain ⟨u, rfl, ru⟩ := vals1 rv
        cases ru
        obtain ⟨as, ra⟩ := reads_all I sr hp.1 z2 z3
        have hd := dv_depth hp.1
        have fin : ∀ (i : Nat) v h' tk bs, its.toArray[i]? = some v → Reads h' v (PySem.W.maxD y ys) bs → (∀ b o, s.heap.get? b = some o → h'.get? b = some o) → EP X pins σ Q v { s with heap := h', toks := tk } := fun i v h' tk bs hv r k => by
          obtain ⟨x, rx, rd⟩ := item_is I sr hp.1 z2 z3 (by simpa using hv) r k
          exact ⟨x, H, I.kept k, rx, h.here sr rd⟩
        rcases z4 with z4 | z4
        · exact PySem.W.max_list_data (I.ok.hd hc) z4 ra hp.2 (by omega) fin
        · exact PySem.W.max_tuple_data (I.ok.hd hc) z4 ra hp.2 (by omega) fin
      · exact h.elim
    · exact h.elim
  · rename_i i j
    obtain ⟨x, y, rfl, rx, ry⟩ := r.two
    cases (show x = _ from rx); cases (show y = _ from ry)
    rw [maxD2] at h
    exact call_max2 hc pins s σ H _ us Q I rv ⟨i, j, rfl, h.here sr rfl⟩
  · rename_i i j l
    obtain ⟨x, y, z, rfl, rx, ry, rz⟩ := r.three
    cases (show x = _ from rx); cases (show y = _ from ry); cases (show z = _ from rz)
    rw [maxD3] at h
    obtain ⟨a, b, c, rfl, ⟨t1, rfl⟩, ⟨t2, rfl⟩, ⟨t3, rfl⟩⟩ := vals3 rv
    refine PySem.max_three_ints (I.ok.hd hc) fun h' tk k => ⟨_, H, I.kept k, ?_, h.here sr rfl⟩
    split <;> split <;> exact ⟨_, rfl⟩
  · exact h.elim
/-! ### repr -/
def reprO : OL := fun ds st => match ds with
  | [d] => (dv st d).bind fun e => if e.showable = true ∧ e.shown.length ≤ 16777216 then some (.str e.shown, st) else none
  | _ => none
theorem cRepr (hg : X.A.guards = some []) (hu : X.A.units + 64 < cLine) : CallR X (.builtin "repr") (rL X.K T reprO) := by
  intro pins s σ H xs us Q I rv ⟨L, M, st, ds, sr, r, h⟩
  unfold reprO at h
  split at h
  · rename_i d
    obtain ⟨x, rfl, rx⟩ := r.one
    cases hd : dv st d with
    | none => rw [hd] at h; exact h.elim
    | some e =>
      rw [hd] at h
      simp only [Option.bind_some] at h
      split at h
      · rename_i hs
        obtain ⟨u, rfl, ru⟩ := vals1 rv
        obtain ⟨⟨as, q⟩, pl, dp⟩ := dv_reads I sr hd rx ru
        have hz : e.shown.length ≤ sizeLine := by rw [sizeLine_eq]; exact hs.2
        have fin : ∀ u tk, EP X pins σ Q (.str e.shown u) { s with toks := tk } := fun u tk => ⟨.str e.shown, H, I.tok _, ⟨u, rfl⟩, h.here sr rfl⟩
        cases q with
        | none => exact PySem.P.repr_of_none (fin _ _)
        | bool b => exact PySem.P.repr_of_bool (fin _ _)
        | int n t => exact PySem.P.repr_of_int (by have := hs.1; simpa [PyData.showable] using this) (fin _ _)
        | str x t => exact PySem.P.repr_of_str (fin _ _) hz
        | list h1 h2 h3 h4 => exact PySem.repr_of_reads' (Reads.list h1 h2 h3 h4) hs.1 (PyData.noDict_hsm (plain_noDict _ pl)) hg (by omega) (fun _ _ e => e) (fun h' u tk k => ⟨.str _, H, I.kept k, ⟨u, rfl⟩, h.here sr rfl⟩) hz
        | tuple h1 h2 h3 h4 => exact PySem.repr_of_reads' (Reads.tuple h1 h2 h3 h4) hs.1 (PyData.noDict_hsm (plain_noDict _ pl)) hg (by omega) (fun _ _ e => e) (fun h' u tk k => ⟨.str _, H, I.kept k, ⟨u, rfl⟩, h.here sr rfl⟩) hz
        | dict _ _ _ _ => simp [PyData.plain] at pl
      · exact h.elim
  · exact h.elim
end
end Fl
/-! Fl13: reversal, new lists, list methods, constants of the module. -/
namespace Fl
open PySem PySem.Spec PyProof.Rows L2
section
variable {X : Cx} {T : List (Addr × Str)} {L M : List Addr} {H : Hp} {st : Sto} {pins : List (Addr × Obj)} {σ : L2.St} {s : Shared}
variable {e a b c : Expr} {es : List Expr} {p pos : Pos} {Fa Fb Fc : Ex} {Ba Bb : ExB} {La Lb : ExL} {WE : Nat → Hp → Prop} {x : Str}
def revO : O1 := fun d st => (cutO st d List.reverse).map fun r => (r, st)
theorem RepL.rev {K : PySem.W.Frag} {ds : List D} {xs : List V} (r : RepL K L M H ds xs) : RepL K L M H ds.reverse xs.reverse := by
  induction ds generalizing xs with
  | nil => cases (show xs = [] from r); exact r
  | cons d ds ih =>
    obtain ⟨x, t, rfl, h1, h2⟩ := r
    rw [List.reverse_cons, List.reverse_cons]
    exact (ih h2).append ⟨x, [], rfl, h1, rfl⟩
theorem fe_rev {k : Nat} {p1 p2 p3 : Pos} (ha : PE X a (tF X.K T WE Fa)) : PE X (.Subscript a (.Slice none none (some (.UnaryOp .USub (.Constant (.int 1) k p1) p2)) p3) pos) (tF X.K T WE (eU revO Fa)) := by
  refine PE.mk fun pins s σ H Q I h => ?_
  refine Subscript_ (thn (ha.run pins s σ H _ I (tb1 h)) fun v s1 ⟨x, H1, I1, r1, L, M, st, d, sr, rx, q1⟩ => ?_)
  unfold revO at q1
  have hst : PO X (some (.UnaryOp .USub (.Constant (.int 1) k p1) p2)) (tPart (tUn (rU fun i => .int (-i)) (tC (.int 1)))) := po_some (pe_un un_neg pe_int)
  refine wpAny_Slice (thn (po_none.run pins s1 σ H1 (fun o H2 => o = none ∧ H2 = H1) I1 ⟨rfl, rfl⟩) fun vl s2 ⟨l, H2, I2, pl, el, e2⟩ => ?_)
  subst el e2
  refine thn (po_none.run pins s2 σ H2 (fun o H3 => o = none ∧ H3 = H2) I2 ⟨rfl, rfl⟩) fun vu s3 ⟨u, H3, I3, pu, eu, e3⟩ => ?_
  subst eu e3
  refine thn (hst.run pins s3 σ H3 (fun o H4 => o = some (-1) ∧ H4 = H3) I3 ⟨1, rfl, -1, rfl, rfl, rfl⟩) fun vs s4 ⟨o, H4, I4, ps, eo, e4⟩ => ?_
  subst eo e4
  have I5 : Inv X pins σ H4 { s4 with heap := s4.heap.push { cls := .type "slice", data := .fields #[vl, vu, vs] } } := I4.kept (t' := s4.toks) fun b ob q => Heap.get?_push_of_some _ q
  cases hc : cutO st d List.reverse with
  | none => rw [hc] at q1; exact q1.elim
  | some d' =>
    rw [hc] at q1
    have lst : ∀ ds, listOf st d = some ds → d' = .list ds.reverse → wpAny (model X.prog X.w) X.A (subscriptTail a (.Slice none none (some (.UnaryOp .USub (.Constant (.int 1) k p1) p2)) p3) v (.ref s4.heap.objs.size)) (EP X pins σ Q) X.xe { s4 with heap := s4.heap.push { cls := .type "slice", data := .fields #[vl, vu, vs] } } := fun ds hl ed => by
      subst ed
      obtain ⟨p, xs, rfl, hx, z2⟩ := listOf_ok sr rx hl
      cases r1
      obtain ⟨its, r, ht, hz⟩ := I5.list hx
      have hlen := r.length
      refine tail_any (ops := [.ref p, .ref s4.heap.objs.size]) ht.isList.typeIs (PySem.slot_list_getitem.lookup) ?_ (by with_unfolding_all rfl)
      refine wpAny_getItem_list_slice ht.isList (Heap.IsSliceOf.new _ vl vu vs) pl pu ps (by decide) ?_ (by rw [List.size_toArray]; omega)
      rw [PySem.W.krv_pick]
      refine ⟨.ref _, _, I5.laid (t' := s4.toks) (o := .lst xs.reverse) (fun b ob q => Heap.get?_push_of_some _ q) (Nat.le_refl _) ?_, rfl, Po.newL q1 sr z2.rev _ (I5.hok.fresh (Nat.le_refl _))⟩
      exact ⟨by rw [List.length_reverse]; exact hz, _, 0, r.reverse, Heap.get?_push_size _ rfl⟩
    unfold cutO at hc
    split at hc
    · rename_i ds
      cases hc
      obtain ⟨p, xs, rfl, z1, z2⟩ := rx
      cases r1
      obtain ⟨its, r, ht, hz⟩ := I5.tuple z1.sq
      have hlen := r.length
      cases pl; cases pu
      refine tail_any (ops := [.ref p, .ref s4.heap.objs.size]) ht.typeIs (PyProof.Rows.slot_tuple_getitem.lookup) ?_ (by with_unfolding_all rfl)
      refine getItem_tuple_back ht (Heap.IsSliceOf.new _ .none .none vs) ps ?_ (by rw [List.size_toArray]; omega)
      refine ⟨.ref _, _, I5.laid (t' := s4.toks) (o := .tup xs.reverse) (fun b ob q => Heap.get?_push_of_some _ q) (Nat.le_refl _) ?_, rfl, Po.newT q1 sr z2.rev _ (I5.hok.fresh (Nat.le_refl _))⟩
      exact ⟨by rw [List.length_reverse]; exact hz, _, by simpa using r.reverse, IsTup.new _ _⟩
    · cases hl : listOf st d with
      | none => rw [hl] at hc; cases hc
      | some ds => rw [hl] at hc; cases hc; exact lst ds hl rfl
/-! ### new lists -/
theorem tN_tG {K : PySem.W.Frag} {F : ExL} {σ : L2.St} {H : Hp} {Q : VK} (h : tN K T WE F σ H Q) : ∃ L M ρ st, SRel K T L M H st ∧ ERel K L M H σ ρ ∧ Po K T (RepL K) L M H (F ρ st) WE (fun xs H1 => ∀ p, H1 p = none → Q (.ref p) (upd H1 p (.lst xs))) := by
  obtain ⟨L, M, ρ, st, s, e, h⟩ := h
  refine ⟨L, M, ρ, st, s, e, ?_⟩
  cases hF : F ρ st with
  | bad => rw [hF] at h; exact h
  | exc c s1 => rw [hF] at h; exact h
  | ok ds s1 =>
    rw [hF] at h
    intro xs L1 H1 e1 s1' rx p hp
    obtain ⟨n1, n2, n3⟩ := newL s1' rx hp
    have hp0 : ∀ o, H p = some o → ¬ notTbl o := fun o q t => by
      have hL : p ∉ L := fun z => by
        obtain ⟨r, hr⟩ := e1.pre
        exact absurd (by rw [← hr]; exact List.mem_append_left _ z) (s1'.fresh hp)
      have := (e1.keep p o q t hL).1
      rw [hp] at this; cases this
    exact h p xs L1 _ (e1.trans n1) hp0 (s1'.notM hp) upd_same n2 n3
/-- list(x) -/
def eLst (a : Ex) : ExL := fun ρ st => (a ρ st).bind fun d s1 => match seqOf s1 d with
  | some ds => .ok ds s1
  | none => .bad
theorem fn_lst (hg : Gl X "list") (hm : X.mg "list" = none) (ha : PE X a (tF X.K T WE Fa)) (he : starEach [a] X.env = (false, eval a X.env) :: starEach [] X.env := by rfl) : PE X (.Call (.Name "list" p) [a] [] pos) (tN X.K T WE (eLst Fa)) := by
  refine PE.w (pe_callTy call_list_of hg hm rfl (pa_cons ha pa_nil he) (by decide) (by decide) he) fun σ H Q h => ?_
  obtain ⟨L, M, ρ, st, s, e, h⟩ := tN_tG h
  refine tG.bind s e h fun d s1 v L1 H1 _ e1 sr er rx h1 => ?_
  cases hq : seqOf s1 d with
  | none => rw [hq] at h1; exact h1.elim
  | some ds =>
    rw [hq] at h1
    obtain ⟨p, xs, rfl, z1, z2⟩ := seqOf_ok sr rx hq
    exact ⟨p, xs, rfl, z1, h1.here sr z2⟩
open Classical in
/-- [..] * n -/
noncomputable def eRep (a : ExL) (b : Ex) : ExL := fun ρ st => (a ρ st).bind fun ds s1 => (b ρ s1).bind fun y s2 => match y with
  | .int k => if k ≤ 16777216 ∧ -16777216 ≤ k ∧ ds.length * k.toNat ≤ 16777216 then .ok (List.replicate k.toNat ds).flatten s2 else .bad
  | _ => .bad
theorem fn_rep (ha : PE X a (tN X.K T WE La)) (hb : PE X b (tF X.K T WE Fb)) : PE X (.BinOp a .Mult b pos) (tN X.K T WE (eRep La Fb)) := by
  refine PE.w (pe_op op_rep ha hb) fun σ H Q h => ?_
  obtain ⟨L, M, ρ, st, s, e, h⟩ := h
  refine ⟨L, M, ρ, st, s, e, ?_⟩
  unfold eRep at h
  cases hF : La ρ st with
  | bad => rw [hF] at h; exact h
  | exc c s1 => rw [hF] at h; exact h
  | ok ds s1 =>
    rw [hF] at h
    intro q xs L1 H1 e1 hq0 hqM hq1 s1' rx
    have g0 : GOk H M (q :: M) := GOk.at_ hq0
    have hM1 : ∀ a ∈ q :: M, MOk T H1 a := s1'.mM
    have e1g : Ext L (q :: M) H L1 H1 := ⟨e1.pre, e1.keep⟩
    have er := (e.guard g0).ext e1g
    simp only [R.bind] at h
    refine ⟨L1, q :: M, ρ, s1, s1', er, ?_⟩
    cases hG : Fb ρ s1 with
    | bad => rw [hG] at h; exact h
    | exc c s2 =>
      rw [hG] at h
      intro L2 H2 e2 sr2
      have g : GOk H2 (q :: M) M := GOk.less fun b z => List.mem_cons_of_mem _ z
      exact h L2 H2 (e1.trans ⟨e2.pre, e2.keep⟩) (sr2.guard g s.tM fun a z => sr2.mM a (List.mem_cons_of_mem _ z))
    | ok y s2 =>
      rw [hG] at h
      intro vy L2 H2 e2 sr2 ry
      have g : GOk H2 (q :: M) M := GOk.less fun b z => List.mem_cons_of_mem _ z
      have sr2' : SRel X.K T L2 M H2 s2 := sr2.guard g s.tM fun a z => sr2.mM a (List.mem_cons_of_mem _ z)
      have e12 : Ext L M H L2 H2 := e1.trans ⟨e2.pre, e2.keep⟩
      cases y with
      | int k =>
        cases (show vy = _ from ry)
        simp only at h
        by_cases hk : k ≤ 16777216 ∧ -16777216 ≤ k ∧ ds.length * k.toNat ≤ 16777216
        · rw [if_pos hk] at h
          have hqL : q ∉ L1 := fun z => s1'.dj q z List.mem_cons_self
          have hq2 : H2 q = some (.lst xs) := (e2.keep q _ hq1 True.intro hqL).1
          have rx2 := (rx.ext e2).guard g
          refine ⟨q, k, xs, rfl, rfl, hq2, by omega, by omega, by rw [← rx.length, sizeLine_eq]; exact hk.2.2, fun p hp => ?_⟩
          obtain ⟨n1, n2, n3⟩ := newL sr2' (rx2.rep k.toNat) hp
          have hp0 : ∀ o, H p = some o → ¬ notTbl o := fun o q t => by
            have hL : p ∉ L := fun z => by
              obtain ⟨r, hr⟩ := e12.pre
              exact absurd (by rw [← hr]; exact List.mem_append_left _ z) (sr2'.fresh hp)
            have := (e12.keep p o q t hL).1
            rw [hp] at this; cases this
          exact h p _ L2 _ (e12.trans n1) hp0 (sr2'.notM hp) upd_same n2 n3
        · rw [if_neg hk] at h; exact h.elim
      | _ => exact h.elim
/-! ### methods of lists -/
abbrev OM := D → List D → Sto → Option (D × Sto)
def eMeth (m : OM) (o : Ex) (as : ExL) : Ex := fun ρ st => (o ρ st).bind fun d s1 => (as ρ s1).bind fun xs s2 => ofO (m d xs s2)
def rM (K : PySem.W.Frag) (T : List (Addr × Str)) (m : OM) : V → List V → Hp → VK → Prop := fun x vs H Q =>
  ∃ L M st d ds, SRel K T L M H st ∧ Rep K L M H d x ∧ RepL K L M H ds vs ∧ Po K T (Rep K) L M H (ofO (m d ds st)) (fun _ _ => False) Q
/-- the value is a list -/
def isL (st : Sto) (d : D) : Bool := (listOf st d).isSome
def eMethL (m : OM) (o : Ex) (as : ExL) : Ex := fun ρ st => (o ρ st).bind fun d s1 => if isL s1 d = true then (as ρ s1).bind fun xs s2 => ofO (m d xs s2) else .bad
theorem tbm {m : OM} {σ : L2.St} {H : Hp} {Q : VK} {K : PySem.W.Frag} (h : tF K T WE (eMethL m Fa La) σ H Q) : tBM K "list" (rM K T m) (tF K T WE Fa) (tFA K T WE La) σ H Q := by
  obtain ⟨L, M, ρ, st, s, e, h⟩ := h
  unfold eMethL at h
  refine tG.bind s e h fun d s1 v L1 H1 _ e1 sr er rx h1 => ?_
  split at h1
  · rename_i hl
    cases hd : listOf s1 d with
    | none => rw [isL, hd] at hl; cases hl
    | some ds =>
      obtain ⟨a, xs, rfl, z1, z2⟩ := listOf_ok sr rx hd
      refine ⟨.inl ⟨rfl, xs, z1⟩, ?_⟩
      exact tG.bind sr er h1 fun es s2 vs L2 H2 _ e2 sr2 er2 re h2 => ⟨L2, M, s2, d, es, sr2, rx.ext e2, re, Po.ofO h2⟩
  · exact h1.elim
theorem fe_meth {name : Str} {apos cpos : Pos} {id : String} {m : OM} {o : Expr} (slot : Slot "list" name id) (hty : typeOf (.builtin id) = pure (.type "method_descriptor")) (hm : MtR X id (rM X.K T m)) (ho : PE X o (tF X.K T WE Fa)) (ha : PA X (e :: es) (tFA X.K T WE La))
    (hbase : attributeBase o name X.env (eval o X.env) = eval o X.env := by rfl)
    (hfew : ((backTo cpos (starEach (e :: es) X.env)).all (fun x => !x.1) && (backToKw cpos (keywordEach [] X.env)).all (fun x => x.1.isSome)
      && decide ((e :: es).length + ([] : List Keyword).length + (if ([] : List Keyword).isEmpty then 0 else 1) < 30)) = true := by rfl)
    (hline : (apos.endLine == cpos.line) = true := by rfl) (hs : starEach (e :: es) X.env = (false, eval e X.env) :: starEach es X.env := by rfl) (hplain : (backTo cpos (starEach es X.env)).any (·.1) = false := by rfl) :
    PE X (.Call (.Attribute o name apos) (e :: es) [] cpos) (tF X.K T WE (eMethL m Fa La)) :=
  PE.w (pe_bm PySem.F.plainAttrs_list slot hty hm ho ha hbase hfew hline hs hplain) fun _ _ _ h => tbm h
/-- the place d holds a list -/
def atLoc (st : Sto) (d : D) : Option (Nat × List D) := match d with
  | .dict [(.int n, .none)] => match st[n.toNat]? with
    | some (.lst ds) => some (n.toNat, ds)
    | _ => none
  | _ => none
theorem atLoc_ok {K : PySem.W.Frag} {d : D} {v : V} {n : Nat} {ds : List D} (s : SRel K T L M H st) (r : Rep K L M H d v) (h : atLoc st d = some (n, ds)) : ∃ a xs, v = .ref a ∧ L[n]? = some a ∧ H a = some (.lst xs) ∧ RepL K L M H ds xs ∧ st[n]? = some (.lst ds) := by
  unfold atLoc at h
  split at h
  · rename_i m
    split at h
    · rename_i es hq
      cases h
      obtain ⟨k, a, em, rfl, e⟩ := r
      have en : m = (k : Int) := PyData.int.inj (Prod.mk.inj (List.cons.inj em).1).1
      subst en
      simp only [Int.toNat_natCast] at hq ⊢
      obtain ⟨xs, z1, z2⟩ := s.lst hq e
      exact ⟨a, xs, rfl, e, z1, z2, hq⟩
    · cases h
  · cases h
/-- the list at a place is written anew -/
theorem Po.put {Q : VK} {n : Nat} {a : Addr} {xs xs' : List V} {ds' : List D} {d : D} {v : V} {K : PySem.W.Frag} (h : Po K T (Rep K) L M H (.ok d (st.set n (.lst ds'))) (fun _ _ => False) Q) (sr : SRel K T L M H st) (e : L[n]? = some a) (z1 : H a = some (.lst xs))
    (r : RepL K L M H ds' xs') (rd : ∀ H', Ext L M H L H' → Rep K L M H' d v) : Q v (upd H a (.lst xs')) :=
  h v L _ (Ext.write (List.mem_of_getElem? e)) (sr.write e z1 True.intro ⟨_, upd_same, r.ext (Ext.write (List.mem_of_getElem? e))⟩) (rd _ (Ext.write (List.mem_of_getElem? e)))
def appM : OM := fun d as st => match as with
  | [y] => (atLoc st d).bind fun p => if p.2.length < 16777216 then some (.none, st.set p.1 (.lst (p.2 ++ [y]))) else none
  | _ => none
theorem mApp : MtR X "list.append" (rM X.K T appM) := by
  intro pins s σ H x vs v us Q I rx rv ⟨L, M, st, d, ds, sr, r1, r2, h⟩
  unfold appM at h
  split at h
  · rename_i y
    cases hl : atLoc st d with
    | none => rw [hl] at h; exact h.elim
    | some q =>
      obtain ⟨n, es⟩ := q
      rw [hl] at h
      simp only [Option.bind_some] at h
      split at h
      · rename_i hz
        obtain ⟨a, xs, rfl, e, z1, z2, z3⟩ := atLoc_ok sr r1 hl
        obtain ⟨w, rfl, rw_⟩ := r2.one
        refine mt_append pins s σ H _ _ v us Q I rx rv ⟨a, xs, w, rfl, rfl, z1, by rw [← z2.length, sizeLine_eq]; exact hz, ?_⟩
        exact h.put sr e z1 (z2.append ⟨w, [], rfl, rw_, rfl⟩) fun _ _ => rfl
      · exact h.elim
  · exact h.elim
theorem fe_app {apos cpos : Pos} {o y : Expr} (ho : PE X o (tF X.K T WE Fa)) (hy : PE X y (tF X.K T WE Fb))
    (hbase : attributeBase o "append" X.env (eval o X.env) = eval o X.env := by rfl)
    (hfew : ((backTo cpos (starEach [y] X.env)).all (fun x => !x.1) && (backToKw cpos (keywordEach [] X.env)).all (fun x => x.1.isSome)
      && decide (([y] : List Expr).length + ([] : List Keyword).length + (if ([] : List Keyword).isEmpty then 0 else 1) < 30)) = true := by rfl)
    (hline : (apos.endLine == cpos.line) = true := by rfl) (hs : starEach [y] X.env = (false, eval y X.env) :: starEach [] X.env := by rfl) :
    PE X (.Call (.Attribute o "append" apos) [y] [] cpos) (tF X.K T WE (eMethL appM Fa (eCons Fb eNil))) :=
  fe_meth PySem.F.slot_list_append PySem.F.type_list_append mApp ho (fa_cons hy fa_nil hs) hbase hfew hline hs
end
end Fl
/-! Fl14: the promise of a def that is called where no display is under way (repr needs it), its calls, the law's own call. -/
namespace Fl
open PySem PySem.Spec PyProof.Rows L2 LamX
/-- a def's promise where no display is under way -/
structure FnG (P : Program) (w : World) (K : PySem.W.Frag) (mg : Str → Option Value) (base : Heap) (CX : CXT) (k : Nat) (f : Addr) (fd : FuncData) (ps : List Str) (sp : Sp) : Prop where
  len : ∀ vs H Q E, sp vs H Q E → vs.length = ps.length
  run : ∀ (A : Around) (outer : List PySem.Env) (s : Shared) (H : Hp) (args : Args) (us : List Value) (vs : List V) (Q : VK) (E : XK), A.guards = some [] → Room k A → Env0 P w K mg base A outer s H → BindsTo s fd args (ps.zip us) → Vals vs us → sp vs H Q E →
    codeAny (model P w) A (.call (.ref f) args) (CR CX outer P w H s Q E) s
section
variable {P : Program} {w : World} {K : PySem.W.Frag} {mg : Str → Option Value} {base : Heap} {CX : CXT} {k : Nat} {f : Addr} {fd : FuncData} {ps : List Str} {T : List (Addr × Str)} {xc : Nat → Addr}
theorem FnG.of {sp : Sp} (F : FnOk P w K mg base CX k f fd ps sp) : FnG P w K mg base CX k f fd ps sp := ⟨F.len, fun A outer s H args us vs Q E _ hr e b v h => F.run A outer s H args us vs Q E hr e b v h⟩
theorem FnG.imp {sp sp' : Sp} (F : FnG P w K mg base CX k f fd ps sp) (h : ∀ vs H Q E, sp' vs H Q E → sp vs H Q E) : FnG P w K mg base CX k f fd ps sp' :=
  ⟨fun vs H Q E q => F.len vs H Q E (h _ _ _ _ q), fun A outer s H args us vs Q E g hr he hb hv hs => F.run A outer s H args us vs Q E g hr he hb hv (h _ _ _ _ hs)⟩
theorem FnG.mono {j : Nat} {sp : Sp} (F : FnG P w K mg base CX j f fd ps sp) (h : j ≤ k) : FnG P w K mg base CX k f fd ps sp := ⟨F.len, fun A outer s H args us vs Q E g hr => F.run A outer s H args us vs Q E g (hr.mono h)⟩
theorem gn_fl {x qual : Str} {st : Stmt} {N : List Str} {G : St'} (F : Fun K x qual st f fd) (S : FnScope N ps (defScope st)) (hps : ps.length ≤ N.length)
    (hb : ∀ (cdv : Value) (A : Around) (outer : List PySem.Env) (s : Shared) (H : Hp) (E : XK), A.guards = some [] → Room k (A.deeper (envOfC qual (defScope st) s.heap.objs.size f cdv)) →
      PSs (cxOf (L2.CX P w) P w K mg base N qual (defScope st) f cdv A outer s H E) (defBody st) (sF K T (fun c H' => E (.ref (xc c)) none H') G)) : FnG P w K mg base (L2.CX P w) (k + 1) f fd ps (spF K T xc ps.length (fnF N.length G)) := by
  obtain ⟨oc, od, kV, doc, pm, an, cdv, ct, osl, rfl, lk, hcd⟩ := F.ex
  refine ⟨fun vs H Q E ⟨L, M, ds, st, hn, s, r, h⟩ => by rw [← r.length]; exact hn, fun A outer s H args us vs Q E g hr e0 hbi hv ⟨L, M, ds, st0, hn, sr, r, h⟩ => ?_⟩
  refine run_ofS lk hcd S hr e0 hbi hv (by rw [← r.length]; exact hn) fun hr' => ⟨_, hb cdv A outer s H E g hr', ?_⟩
  refine ⟨L, M, _, st0, sr, start_rel r (by omega), ?_⟩
  unfold fnF Fl.S.out at h
  split at h
  · rename_i ρ1 s1 q; rw [q]; exact fun σ' L' H' e1 s1 _ => h .non L' H' e1 s1 rfl
  · rename_i d s1 q; rw [q]; exact h
  · rename_i c s1 q; rw [q]; exact h
  · exact h.elim
theorem gn_gc {n : Nat} {F : List D → Sto → R D} (h : FnG P w K mg base CX k f fd ps (spF K T xc n F)) : FnG P w K mg base CX k f fd ps (spF K T xc n (gcF F)) :=
  h.imp fun vs H Q E z => spF_gc z
end
section
variable {X : Cx} {T : List (Addr × Str)} {L M : List Addr} {H : Hp} {st : Sto} {WE : Nat → Hp → Prop} {xc : Nat → Addr} {W : WX}
theorem run_g {CX : CXT} {k : Nat} {f : Addr} {fd : FuncData} {ps : List Str} {sp : Sp} {E : L2.St → XK} {pins : List (Addr × Obj)} {σ : L2.St} {H : Hp} {s : Shared} {Q : VK} {us : List Value} {vs : List V} (F : FnG X.prog X.w X.K X.mg X.base CX k f fd ps sp) (g : X.A.guards = some []) (hr : Room k X.A) (hb : Binds X.K fd ps []) (hx : PassesAt CX X σ (E σ))
    (I : Inv X pins σ H s) (r : Vals vs us) (h : sp vs H Q (E σ)) : wpAny (model X.prog X.w) X.A (call (.ref f) us) (EP X pins σ Q) X.xe s := by
  have b := hb s us I.kIn (by rw [List.append_nil, ← r.length]; exact F.len _ _ _ _ h)
  rw [List.append_nil] at b
  refine wpAny_call (codeAny_mono (F.run X.A X.stack s H ⟨us, []⟩ us vs Q (E σ) g hr I.env0 b r h) fun r s' hq => ?_)
  match r, hq with
  | .error e, hq => exact hx pins H s e s' I hq
  | .ok (.ret u), hq => exact I.after hq
theorem ge_call {k : Nat} {f : Addr} {fd : FuncData} {ps : List Str} {x : Str} {p pos : Pos} {e : Expr} {es : List Expr} {F : List D → Sto → R D} {La : ExL} (hF : FnG X.prog X.w X.K X.mg X.base (L2.CX X.prog X.w) k f fd ps (spF X.K T xc ps.length F)) (g : X.A.guards = some []) (w : Wok X xc WE W) (hr : Room k X.A) (hm : X.mg x = some (.ref f)) (hk : PySem.W.keepIn X.K (.ref f) = true) (hb : Binds X.K fd ps [])
    (ha : PA X (e :: es) (tFA X.K T WE La)) (hg : Gl X x := by rfl) (hdb : (x == ("__debug__" : Str)) = false := by decide) (he : starEach (e :: es) X.env = (false, eval e X.env) :: starEach es X.env := by rfl) (hpl : (backTo pos (starEach es X.env)).any (·.1) = false := by rfl) :
    PE X (.Call (.Name x p) (e :: es) [] pos) (tF X.K T WE (eCall ps.length F La)) := by
  refine ⟨fun pins s σ H Q I h => ?_⟩
  refine wpAny_Call_Name_kw (ld_glob I hg hm ?_ hdb)
  have h' : tCallS (spF X.K T xc ps.length F) (fun σ => fun cls d H => W cls d σ H) (tFA X.K T WE La) σ H Q := by
    obtain ⟨L, M, ρ, st, s, e, h⟩ := h
    exact tG.bind s e h fun ds s1 vs L1 H1 _ e1 sr er rx h1 => by
      split at h1
      · rename_i hn
        refine ⟨L1, M, ds, s1, hn, sr, rx, ?_⟩
        cases hq : F ds s1 with
        | bad => rw [hq] at h1; exact h1
        | ok d s2 => rw [hq] at h1; exact h1
        | exc c s2 => rw [hq] at h1; exact fun L' H' e2 s2' => w.2 c σ H' (h1 L' H' e2 s2')
      · exact h1.elim
  refine PySem.W.callWith_K (h₀ := X.base) I.ok.mod.kin hk (thn (ha.run pos pins s σ H _ I h') fun us s1 ⟨vs, H1, I1, r, q⟩ => ⟨I1.kIn, ?_⟩) he hpl
  exact run_g hF g hr hb (passAt w.1 σ) I1 r q
end
/-! ### the law's call -/
/-- the tables' places -/
def tabsAt (cs : List (Addr × Addr)) : List Addr := cs.map (·.2)
/-- what is tracked at the start: the tables, and the script where the frame does not hold it -/
def H0 (cs : List (Addr × Addr)) (sc : Option (Addr × HO)) : Hp := fun b => match sc with
  | some p => if b = p.1 then some p.2 else if b ∈ tabsAt cs then some (.tbl #[]) else none
  | none => if b ∈ tabsAt cs then some (.tbl #[]) else none
theorem H0_cases {cs : List (Addr × Addr)} {sc : Option (Addr × HO)} {b : Addr} {u : HO} (h : H0 cs sc b = some u) : (b ∈ tabsAt cs ∧ u = .tbl #[]) ∨ ∃ p, sc = some p ∧ b = p.1 ∧ u = p.2 := by
  unfold H0 at h
  split at h
  · rename_i p
    split at h
    · rename_i hb; cases h; exact .inr ⟨p, rfl, hb, rfl⟩
    · split at h
      · rename_i hb; cases h; exact .inl ⟨hb, rfl⟩
      · cases h
  · split at h
    · rename_i hb; cases h; exact .inl ⟨hb, rfl⟩
    · cases h
structure Begin (K : PySem.W.Frag) (mg : Str → Option Value) (h : Heap) (cs : List (Addr × Addr)) : Prop where
  kin : K.In h
  ns : h.Ns mainGlobals mg
  bl : ∃ mb, h.Ns builtinsNs mb ∧ ∀ x : Str, x ≠ "__name__" → mb x = bootBuiltins x
  lim : h.NoLimit
  tab : ∀ p ∈ cs, h.get? p.2 = some { cls := .none, data := .fields #[] }
  notK : ∀ p ∈ cs, K.lookup p.2 = none
  code : ∀ p ∈ cs, PySem.W.CodeHd h p.1 p.2
  bm : ∃ (bm : Addr) (ob : Obj), mg "__builtins__" = some (.ref bm) ∧ bm ≠ builtinsNs ∧ h.get? bm = some ob ∧ ob.cls = .type "module" ∧ ob.dict = some builtinsNs ∧ ob.data = .plain
section
variable {P : Program} {w : World} {K : PySem.W.Frag} {mg : Str → Option Value} {h : Heap} {cs : List (Addr × Addr)} {H : Hp}
/-- what is not tracked is seen from below -/
theorem below {b : Addr} {o : Obj} (e : h.get? b = some o) (n : H b = none) : (hidT h H).get? b = some o := hidT_get e n
theorem begin_mod (B : Begin K mg h cs) (nK : ∀ b o, K.lookup b = some o → H b = none) (nD : ∀ b o es ep, h.get? b = some o → o.data = .dict es ep → H b = none) : L2.Mod K mg (hidT h H) := by
  have ns : ∀ {b : Addr} {m : Str → Option Value}, h.Ns b m → (hidT h H).Ns b m := fun {b m} ⟨o, es, ep, e, d, r⟩ => ⟨o, es, ep, below e (nD b o es ep e d), d, r⟩
  obtain ⟨mb, h1, h2⟩ := B.bl
  obtain ⟨mc, h3, h4⟩ := B.lim
  exact ⟨fun b o e => below (B.kin b o e) (nK b o e), ns B.ns, ⟨mb, ns h1, h2⟩, ⟨mc, ns h3, h4⟩⟩
theorem begin_tab (B : Begin K mg h cs) (nS : ∀ b o, h.get? b = some o → (∀ vs n, o.data ≠ .seq vs n) → o.data ≠ .fields #[] → H b = none) : ∀ p ∈ cs, TabB (hidT h H) mg p.1 p.2 := fun p hp => by
  have hT := B.tab p hp
  refine ⟨?_, ?_, ?_⟩
  · obtain ⟨o, us, file, tf, flags, tg, inF, text, tt, e1, r1, r2, r3, rest⟩ := B.code p hp
    refine ⟨o, us, file, tf, flags, tg, inF, text, tt, below e1 (nS p.1 o e1 (fun vs n z => by rw [r2] at z; cases z) fun z => ?_), r1, r2, r3, rest⟩
    rw [r2] at z
    cases z
    simp at r3
  · obtain ⟨bm, ob, b1, b2, b3, b4, b5, b6⟩ := B.bm
    refine ⟨bm, ob, b1, b2, fun q => ?_, fun q => ?_, below b3 (nS bm ob b3 (fun vs n z => by rw [b6] at z; cases z) fun z => by rw [b6] at z; cases z), b4, b5, b6⟩
    · obtain ⟨o, es, ep, e, hd, _⟩ := B.ns
      rw [q, e] at b3; cases b3; rw [hd] at b6; cases b6
    · rw [q, hT] at b3; cases b3; cases b6
  · intro z
    obtain ⟨o, es, ep, e, hd, _⟩ := B.ns
    rw [z, hT] at e; cases e; cases hd
/-- the law's call: the promise at the start gives the row's end -/
theorem law_g {CX : CXT} {k : Nat} {fa a : Addr} {fd : FuncData} {x : Str} {sp : Sp} {s₁ : Shared} {vs : List Value} {ns : List Int} (B : Begin K mg s₁.heap cs) (hg : s₁.gens = #[])
    (ha : s₁.heap.get? a = some (lsO vs.toArray 0)) (hi : IntsAre vs ns) (hl : ns.length ≤ sizeLine) (hr : Room k callerA)
    (F : ∀ base : Heap, K.In base → base.Ns mainGlobals mg → (∀ p ∈ cs, TabB base mg p.1 p.2) → FnG P w K mg base CX k fa fd [x] sp) (hbind : ∀ (s : Shared) (u : Value), BindsTo s fd ⟨[u], []⟩ [(x, u)])
    (hsp : ∀ H : Hp, (∀ p ∈ cs, H p.2 = some (.tbl #[])) → (Rd H a (.lst (ns.map V.int)) ∨ LKc K a (ns.map V.int)) → sp [.ref a] H (fun v _ => v = .bl true) fun _ _ _ => False)
    (hCX : ∀ H e s', CX [] H s₁ (fun _ _ _ => False) e s' → False) :
    codeAny (model P w) callerA (.call (.ref fa) ⟨[.ref a], []⟩) (fun r s' => r = .ok (.ret (.bool true)) ∧ OldK s₁.heap s'.heap ∧ s'.os = s₁.os ∧ AllBare s'.gens) s₁ := by
  have rv := vals_ints hi
  have lenV := hi.length
  have isT : ∀ b, b ∈ tabsAt cs → s₁.heap.get? b = some { cls := .none, data := .fields #[] } := fun b hb => by
    obtain ⟨p, hp, rfl⟩ := List.mem_map.mp hb
    exact B.tab p hp
  have aT : a ∉ tabsAt cs := fun z => by
    have q := isT a z
    rw [ha] at q
    cases congrArg Obj.data (Option.some.inj q)
  -- the two ways in which the script may stand
  obtain ⟨sc, hsc, hA⟩ : ∃ sc : Option (Addr × HO), (sc = none ∨ sc = some (a, .frz (lsO vs.toArray 0) (.lst (ns.map V.int))) ∧ K.lookup a = none) ∧ (Rd (H0 cs sc) a (.lst (ns.map V.int)) ∨ LKc K a (ns.map V.int)) := by
    cases hk : K.lookup a with
    | none => exact ⟨_, .inr ⟨rfl, rfl⟩, .inl (.inr ⟨lsO vs.toArray 0, by simp [H0]⟩)⟩
    | some o =>
      have e := B.kin a o hk
      rw [ha] at e
      cases e
      exact ⟨none, .inl rfl, .inr ⟨vs.toArray, 0, hk, by rw [List.size_toArray, lenV]; exact hl, by simpa using rv⟩⟩
  have hT : ∀ p ∈ cs, H0 cs sc p.2 = some (.tbl #[]) := fun p hp => by
    have m : p.2 ∈ tabsAt cs := List.mem_map.mpr ⟨p, hp, rfl⟩
    rcases hsc with rfl | ⟨rfl, _⟩
    · simp [H0, m]
    · have : p.2 ≠ a := fun z => aT (by rw [← z]; exact m)
      simp [H0, m, this]
  -- what is tracked is a table or the script
  have kinds : ∀ b u, H0 cs sc b = some u → (b ∈ tabsAt cs ∧ u = .tbl #[]) ∨ (b = a ∧ u = .frz (lsO vs.toArray 0) (.lst (ns.map V.int)) ∧ K.lookup a = none) := fun b u z => by
    rcases H0_cases z with z | ⟨p, ep, eb, eu⟩
    · exact .inl z
    · rcases hsc with rfl | ⟨rfl, hk⟩
      · cases ep
      · cases ep; exact .inr ⟨eb, eu, hk⟩
  have hok : HOk P w (H0 cs sc) s₁.heap := fun b u z => by
    rcases kinds b u z with ⟨hb, rfl⟩ | ⟨rfl, rfl, _⟩
    · exact isT b hb
    · exact ⟨ha, by rw [List.length_map]; exact hl, vs, _, rv, ha⟩
  have nS : ∀ b o, s₁.heap.get? b = some o → (∀ vs n, o.data ≠ .seq vs n) → o.data ≠ .fields #[] → H0 cs sc b = none := fun b o e h1 h2 => by
    cases q : H0 cs sc b with
    | none => rfl
    | some u =>
      rcases kinds b u q with ⟨hb, _⟩ | ⟨rfl, _⟩
      · rw [isT b hb] at e; cases e; exact (h2 rfl).elim
      · rw [ha] at e; cases e; exact (h1 _ _ rfl).elim
  have nD : ∀ b o es ep, s₁.heap.get? b = some o → o.data = .dict es ep → H0 cs sc b = none := fun b o es ep e d => nS b o e (fun vs n z => by rw [d] at z; cases z) fun z => by rw [d] at z; cases z
  have nK : ∀ b o, K.lookup b = some o → H0 cs sc b = none := fun b o e => by
    cases q : H0 cs sc b with
    | none => rfl
    | some u =>
      rcases kinds b u q with ⟨hb, _⟩ | ⟨rfl, _, hk⟩
      · obtain ⟨p, hp, rfl⟩ := List.mem_map.mp hb
        rw [B.notK p hp] at e; cases e
      · rw [hk] at e; cases e
  have M := begin_mod B nK nD
  have e0 : Env0 P w K mg (hidT s₁.heap (H0 cs sc)) callerA [] s₁ (H0 cs sc) :=
    ⟨rfl, M, fun b o e => of_hidT e, Nat.le_of_eq (hidT_size _ _), trivial, fun b hb => absurd (show b ∈ ([] : List Addr) from hb) (by simp), hok, .of_eq hg⟩
  refine codeAny_mono ((F _ M.kin (let ⟨_, n, _, _⟩ := M; n) (begin_tab B nS)).run callerA [] s₁ (H0 cs sc) ⟨[.ref a], []⟩ [.ref a] [.ref a] _ _ rfl hr e0 (hbind s₁ (.ref a)) (.cons rfl .nil) (hsp _ hT hA)) fun r s' hq => ?_
  match r, hq with
  | .error e, hq => exact (hCX _ e s' hq).elim
  | .ok (.ret u), hq =>
    obtain ⟨v, H', os, bare, un, hok', r', q⟩ := hq
    cases (show v = .bl true from q)
    cases (show u = Value.bool true from r')
    have grown : ∀ b, b ∈ tabsAt cs → ∃ more : Array Value, s'.heap.get? b = some { cls := .none, data := .fields more } := fun b hb => by
      obtain ⟨p, hp, rfl⟩ := List.mem_map.mp hb
      obtain ⟨more, z⟩ := un.tbls p.2 #[] (hT p hp)
      exact ⟨_, hok' p.2 _ z⟩
    have old : ∀ b o, b ∉ tabsAt cs → s₁.heap.get? b = some o → s'.heap.get? b = some o := fun b o nb e => by
      cases q : H0 cs sc b with
      | none => exact un.keep b o e q (by intro z; exact absurd (show b ∈ ([] : List Addr) from z) (by simp)) (by simp)
      | some u =>
        rcases kinds b u q with ⟨hb, _⟩ | ⟨rfl, rfl, _⟩
        · exact absurd hb nb
        · obtain ⟨e1, _⟩ := hok b _ q
          obtain ⟨e2, _⟩ := hok' b _ (un.frzs b _ _ q)
          rw [e] at e1; cases e1
          exact e2
    refine ⟨rfl, ⟨fun b o e => ?_, fun b o e => ?_⟩, os, bare⟩
    · by_cases hb : b ∈ tabsAt cs
      · obtain ⟨more, hm⟩ := grown b hb
        obtain ⟨p, hp, rfl⟩ := List.mem_map.mp hb
        rw [B.tab p hp] at e
        cases e
        exact .inr (.inl ⟨((B.code p hp).tab (B.tab p hp)).isCodeTable, rfl, #[], more, rfl, by rw [Array.empty_append]; exact hm⟩)
      · exact .inl (old b o hb e)
    · by_cases hb : b ∈ tabsAt cs
      · obtain ⟨more, hm⟩ := grown b hb
        exact ⟨_, hm⟩
      · exact ⟨o, old b o hb e⟩
end
/-- what is known of the law at the head's heap -/
def LawAtG (l : PySem.W.OpenLaw) (w : World) (K : PySem.W.Frag) (CX : CXT) (k n : Nat) (x : Str) (mg : Str → Option Value) (fa : Addr) (h : Heap) : Prop :=
  ∃ (fd : FuncData) (cs : List (Addr × Addr)) (sp : Sp), (∀ p ∈ cs, h.get? p.2 = some { cls := .none, data := .fields #[] }) ∧ (∀ p ∈ cs, K.lookup p.2 = none) ∧ (∀ p ∈ cs, PySem.W.CodeHd h p.1 p.2) ∧ (∀ (s : Shared) (u : Value), BindsTo s fd ⟨[u], []⟩ [(x, u)]) ∧
    (∀ (H : Hp) (a : Addr) (ns : List Int), ns.length ≤ n → (∀ z ∈ ns, Builtin.Int.intBits z ≤ 1048576) → (∀ p ∈ cs, H p.2 = some (.tbl #[])) → (Rd H a (.lst (ns.map V.int)) ∨ LKc K a (ns.map V.int)) → sp [.ref a] H (fun v _ => v = .bl true) fun _ _ _ => False) ∧
    ∀ base : Heap, K.In base → base.Ns mainGlobals mg → (∀ p ∈ cs, TabB base mg p.1 p.2) → FnG l.prog w K mg base CX k fa fd [x] sp
theorem walk_g {l : PySem.W.OpenLaw} {n k : Nat} {q : Program} {loose : List Str} {XP : (Str → Option Value) → Heap → Prop} {YP : World → Heap → Prop} {d : DefRec} {CX : World → CXT} {x : Str}
    (hn : l.most = some n) (hn2 : n ≤ sizeLine) (hdf : d.params.defaults = []) (hr : Room k callerA)
    (F : ∀ (w : World) (mg : Str → Option Value) (fa : Addr) (h : Heap), YP w h → h.Ns mainGlobals mg → mg d.name = some (.ref fa) → ∃ K : PySem.W.Frag, K.In h ∧ LawAtG l w K (CX w) k n x mg fa h)
    (hCX : ∀ (w : World) (H : Hp) (s : Shared) (e : Value) (s' : Shared), CX w [] H s (fun _ _ _ => False) e s' → False) :
    PySem.W.WalkO q loose XP YP l.row.toRowW d [] (fun f vs => PySem.call f vs) := by
  refine Att.attach_callB hn hdf fun w s₀ s₁ mg mb fa o pm cd doc a vs ns G Y ho hd hcd hmg hobj hints hlen hbits hg => ?_
  obtain ⟨K, KX, fd, cs, sp, hT, nT, C, hb, hsp, hF⟩ := F w mg fa _ Y G.T.g hmg
  exact law_g ⟨KX, G.T.g, ⟨mb, G.T.b, G.T.builtins⟩, G.T.nolimit, hT, nT, C, G.T.bmain⟩ hg hobj hints (Nat.le_trans hlen hn2) hr hF hb (fun H hH hS => hsp H a ns hlen hbits hH hS) fun H e s' => hCX w H s₁ e s'
end Fl
/-! Fl15: defs by name: what the head tells of them, their promises, their calls, lambdas. -/
namespace Fl
open PySem PySem.Spec PyProof.Rows L2 LamX
/-- what is told of the module's names -/
structure Told (fas : List He.Fa) (fns : List He.DefD) (K : PySem.W.Frag) (mg : Str → Option Value) : Prop where
  c : He.SaysD fas fns K
  h : ∃ h : Heap, K.In h ∧ h.Ns mainGlobals mg
section
variable {fas : List He.Fa} {fns : List He.DefD} {K : PySem.W.Frag} {mg : Str → Option Value}
theorem Told.glo (t : Told fas fns K mg) (x : Str) (i : Nat) (h : fas[i]? = some (.glo x) := by rfl) : mg x = some (.ref (He.ga K x)) := let ⟨_, X, G⟩ := t.h; He.glo_ok X G (t.c.fact i h)
theorem Told.free (t : Told fas fns K mg) (x : Str) (i : Nat) (h : fas[i]? = some (.free x) := by rfl) : mg x = none := let ⟨_, X, G⟩ := t.h; He.free_ok X G (t.c.fact i h)
theorem Told.int (t : Told fas fns K mg) (x : Str) (z : Int) (i : Nat) (h : fas[i]? = some (.int x z) := by rfl) : ∃ u, mg x = some u ∧ RelV (.int z) u := let ⟨_, X, G⟩ := t.h; let ⟨tk, e⟩ := He.int_ok X G (t.c.fact i h); ⟨_, e, tk, rfl⟩
theorem Told.exc (t : Told fas fns K mg) (x : Str) (i j : Nat) (h : fas[i]? = some (.exc x) := by rfl) (g : fas[j]? = some (.glo x) := by rfl) : ExcF K mg x (He.ga K x) :=
  let ⟨c1, c2, c3, c4⟩ := He.exc_ok (t.c.fact i h)
  ⟨c1, t.glo x j g, c2, c3, c4⟩
end
/-! ### promises by name -/
structure OkD (P : Program) (w : World) (K : PySem.W.Frag) (mg : Str → Option Value) (base : Heap) (T : List (Addr × Str)) (xc : Nat → Addr) (k : Nat) (x : Str) (ps : List Str) (F : List D → Sto → R D) : Prop where
  ex : ∃ f fd, mg x = some (.ref f) ∧ PySem.W.keepIn K (.ref f) = true ∧ Binds K fd ps [] ∧ FnOk P w K mg base (L2.CX P w) k f fd ps (spF K T xc ps.length F)
structure OkG (P : Program) (w : World) (K : PySem.W.Frag) (mg : Str → Option Value) (base : Heap) (T : List (Addr × Str)) (xc : Nat → Addr) (k : Nat) (x : Str) (ps : List Str) (F : List D → Sto → R D) : Prop where
  ex : ∃ f fd, mg x = some (.ref f) ∧ PySem.W.keepIn K (.ref f) = true ∧ Binds K fd ps [] ∧ FnG P w K mg base (L2.CX P w) k f fd ps (spF K T xc ps.length F)
/-- a def's datum by its statement -/
abbrev dd (x : Str) (st : Stmt) : He.DefD := ⟨(x, none), x, x, defArgs st, defBody st, defScope st, [], []⟩
section
variable {P : Program} {w : World} {K : PySem.W.Frag} {mg : Str → Option Value} {base : Heap} {T : List (Addr × Str)} {xc : Nat → Addr} {fas : List He.Fa} {fns : List He.DefD} {k : Nat} {x : Str} {ps N : List Str}
theorem OkD.gc {F : List D → Sto → R D} (h : OkD P w K mg base T xc k x ps F) : OkD P w K mg base T xc k x ps (gcF F) := ⟨let ⟨f, fd, a, b, c, d⟩ := h.ex; ⟨f, fd, a, b, c, fn_gc d⟩⟩
theorem OkG.gc {F : List D → Sto → R D} (h : OkG P w K mg base T xc k x ps F) : OkG P w K mg base T xc k x ps (gcF F) := ⟨let ⟨f, fd, a, b, c, d⟩ := h.ex; ⟨f, fd, a, b, c, gn_gc d⟩⟩
theorem OkD.g {F : List D → Sto → R D} (h : OkD P w K mg base T xc k x ps F) : OkG P w K mg base T xc k x ps F := ⟨let ⟨f, fd, a, b, c, d⟩ := h.ex; ⟨f, fd, a, b, c, .of d⟩⟩
theorem mk_okD {st : Stmt} (t : Told fas fns K mg) (j i : Nat) (hd : fns[j]? = some (dd x st)) (hg : fas[i]? = some (.glo x)) (S : FnScope N ps (defScope st)) (hps : ps.length ≤ N.length)
    (hb : ∀ (kV doc pm : Value) (an : Option Addr) (cdv ct : Value) (us : List Value), us.length = ps.length → bindArgs (PySem.W.fnOf x x (defArgs st) (defBody st) (defScope st) .none kV doc pm an cdv ct) ⟨us, []⟩ = pure (ps.zip us))
    {G : St'} (body : ∀ (f : Addr) (cdv : Value) (A : Around) (outer : List PySem.Env) (s : Shared) (H : Hp) (E : XK), Room k (A.deeper (envOfC x (defScope st) s.heap.objs.size f cdv)) →
      PSs (cxOf (L2.CX P w) P w K mg base N x (defScope st) f cdv A outer s H E) (defBody st) (sF K T (fun c H' => E (.ref (xc c)) none H') G)) : OkD P w K mg base T xc (k + 1) x ps (fnF N.length G) := by
  obtain ⟨fd, F⟩ := t.c.def_ j hd
  exact ⟨_, fd, t.glo x i hg, F.kp, FunD.bindsN F hb, fn_fl (He5.fun_of F) S hps fun cdv A outer s H E hr => body _ cdv A outer s H E hr⟩
theorem mk_okG {st : Stmt} (t : Told fas fns K mg) (j i : Nat) (hd : fns[j]? = some (dd x st)) (hg : fas[i]? = some (.glo x)) (S : FnScope N ps (defScope st)) (hps : ps.length ≤ N.length)
    (hb : ∀ (kV doc pm : Value) (an : Option Addr) (cdv ct : Value) (us : List Value), us.length = ps.length → bindArgs (PySem.W.fnOf x x (defArgs st) (defBody st) (defScope st) .none kV doc pm an cdv ct) ⟨us, []⟩ = pure (ps.zip us))
    {G : St'} (body : ∀ (f : Addr) (cdv : Value) (A : Around) (outer : List PySem.Env) (s : Shared) (H : Hp) (E : XK), A.guards = some [] → Room k (A.deeper (envOfC x (defScope st) s.heap.objs.size f cdv)) →
      PSs (cxOf (L2.CX P w) P w K mg base N x (defScope st) f cdv A outer s H E) (defBody st) (sF K T (fun c H' => E (.ref (xc c)) none H') G)) : OkG P w K mg base T xc (k + 1) x ps (fnF N.length G) := by
  obtain ⟨fd, F⟩ := t.c.def_ j hd
  exact ⟨_, fd, t.glo x i hg, F.kp, FunD.bindsN F hb, gn_fl (He5.fun_of F) S hps fun cdv A outer s H E g hr => body _ cdv A outer s H E g hr⟩
/-- a promise of nothing -/
theorem okD_bad {st : Stmt} (t : Told fas fns K mg) (j i : Nat) (hd : fns[j]? = some (dd x st)) (hg : fas[i]? = some (.glo x))
    (hb : ∀ (kV doc pm : Value) (an : Option Addr) (cdv ct : Value) (us : List Value), us.length = ps.length → bindArgs (PySem.W.fnOf x x (defArgs st) (defBody st) (defScope st) .none kV doc pm an cdv ct) ⟨us, []⟩ = pure (ps.zip us)) : OkD P w K mg base T xc k x ps (fun _ _ => .bad) := by
  obtain ⟨fd, F⟩ := t.c.def_ j hd
  refine ⟨_, fd, t.glo x i hg, F.kp, FunD.bindsN F hb, ⟨fun vs H Q E ⟨L, M, ds, st, hn, s, r, h⟩ => h.elim, fun A outer s H args us vs Q E hr e b v ⟨L, M, ds, st, hn, s, r, h⟩ => h.elim⟩⟩
/-- .. of the law's def: its code object is known -/
theorem mk_okL {st : Stmt} (t : Told fas fns K mg) (j i : Nat) (hd : fns[j]? = some (dd x st)) (hg : fas[i]? = some (.glo x)) (S : FnScope N ps (defScope st)) (hps : ps.length ≤ N.length)
    (hb : ∀ (kV doc pm : Value) (an : Option Addr) (cdv ct : Value) (us : List Value), us.length = ps.length → bindArgs (PySem.W.fnOf x x (defArgs st) (defBody st) (defScope st) .none kV doc pm an cdv ct) ⟨us, []⟩ = pure (ps.zip us))
    {G : St'} (body : ∀ base, TabB base mg (He.codeOf K (x, none)) (He.tabOf K (He.codeOf K (x, none))) → ∀ (f : Addr) (A : Around) (outer : List PySem.Env) (s : Shared) (H : Hp) (E : XK), A.guards = some [] → Room k (A.deeper (envOfC x (defScope st) s.heap.objs.size f (.ref (He.codeOf K (x, none))))) →
      PSs (cxOf (L2.CX P w) P w K mg base N x (defScope st) f (.ref (He.codeOf K (x, none))) A outer s H E) (defBody st) (sF K T (fun c H' => E (.ref (xc c)) none H') G)) :
    ∃ fd, (∀ (s : Shared) (us : List Value), us.length = ps.length → BindsTo s fd ⟨us, []⟩ (ps.zip us)) ∧ ∀ base, TabB base mg (He.codeOf K (x, none)) (He.tabOf K (He.codeOf K (x, none))) → FnG P w K mg base (L2.CX P w) (k + 1) (He.ga K x) fd ps (spF K T xc ps.length (fnF N.length G)) := by
  obtain ⟨fd, F⟩ := t.c.def_ j hd
  refine ⟨fd, fun s us hl => FunD.bindsA F hb s us hl, fun base TB => ?_⟩
  obtain ⟨oc, od, kV, doc, pm, an, cdv, ct, osl, e, lk, hcd⟩ := (He5.fun_of F).ex
  obtain ⟨c, rfl⟩ := He.codeIn_ref hcd
  have ec : He.codeOf K (x, none) = c := He.codeOf_eq lk (by rw [e])
  subst ec
  subst e
  refine ⟨fun vs H Q E ⟨L, M, ds, st, hn, s, r, h⟩ => by rw [← r.length]; exact hn, fun A outer s H args us vs Q E g hr e0 hbi hv ⟨L, M, ds, st0, hn, sr, r, h⟩ => ?_⟩
  refine run_ofS lk hcd S hr e0 hbi hv (by rw [← r.length]; exact hn) fun hr' => ⟨_, body base TB _ A outer s H E g hr', ?_⟩
  refine ⟨L, M, _, st0, sr, start_rel r (by omega), ?_⟩
  unfold fnF Fl.S.out at h
  split at h
  · rename_i ρ1 s1 q; rw [q]; exact fun σ' L' H' e1 s1 _ => h .non L' H' e1 s1 rfl
  · rename_i d s1 q; rw [q]; exact h
  · rename_i c s1 q; rw [q]; exact h
  · exact h.elim
end
section
variable {X : Cx} {T : List (Addr × Str)} {WE : Nat → Hp → Prop} {xc : Nat → Addr} {W : WX} {k j : Nat} {x : Str} {ps : List Str} {F : List D → Sto → R D} {p pos : Pos} {e a b : Expr} {es : List Expr} {La : ExL} {Fa : Ex}
theorem cD {n : Nat} (o : OkD X.prog X.w X.K X.mg X.base T xc j x ps F) (w : Wok X xc WE W) (hr : Room k X.A) (ha : PA X (e :: es) (tFA X.K T WE La)) (hn : n = ps.length := by rfl) (hj : j ≤ k := by first | decide | omega) (hg : Gl X x := by rfl) (hdb : (x == ("__debug__" : Str)) = false := by decide) (he : starEach (e :: es) X.env = (false, eval e X.env) :: starEach es X.env := by rfl) (hpl : (backTo pos (starEach es X.env)).any (·.1) = false := by rfl) :
    PE X (.Call (.Name x p) (e :: es) [] pos) (tF X.K T WE (eCall n F La)) := by
  subst hn
  obtain ⟨f, fd, a, b, c, d⟩ := o.ex
  exact fe_call d w (hr.mono hj) a b c ha hg hdb he hpl
theorem cG {n : Nat} (o : OkG X.prog X.w X.K X.mg X.base T xc j x ps F) (g : X.A.guards = some []) (w : Wok X xc WE W) (hr : Room k X.A) (ha : PA X (e :: es) (tFA X.K T WE La)) (hn : n = ps.length := by rfl) (hj : j ≤ k := by first | decide | omega) (hg : Gl X x := by rfl) (hdb : (x == ("__debug__" : Str)) = false := by decide) (he : starEach (e :: es) X.env = (false, eval e X.env) :: starEach es X.env := by rfl) (hpl : (backTo pos (starEach es X.env)).any (·.1) = false := by rfl) :
    PE X (.Call (.Name x p) (e :: es) [] pos) (tF X.K T WE (eCall n F La)) := by
  subst hn
  obtain ⟨f, fd, a, b, c, d⟩ := o.ex
  exact ge_call d g w (hr.mono hj) a b c ha hg hdb he hpl
theorem cD0 (o : OkD X.prog X.w X.K X.mg X.base T xc j x [] F) (hr : Room k X.A) (hj : j ≤ k := by first | decide | omega) (hg : Gl X x := by rfl) (hdb : (x == ("__debug__" : Str)) = false := by decide) : PE X (.Call (.Name x p) [] [] pos) (tF X.K T WE (eCall0 F)) := by
  obtain ⟨f, fd, a, b, c, d⟩ := o.ex
  exact fe_call0 d (hr.mono hj) a b c hg hdb
/-- a whole number that the module holds -/
theorem fe_gi {z : Int} (h : ∃ u, X.mg x = some u ∧ RelV (.int z) u) (hg : Gl X x := by rfl) (hd : (x == ("__debug__" : Str)) = false := by decide) : PE X (.Name x p) (tF X.K T WE (eC (.int z))) := by
  obtain ⟨u, h1, h2⟩ := h
  exact fe_c (pe_glob hg h1 h2 hd) fun _ _ _ => rfl
/-- anything at all is read as what is never reached -/
def eBad : Ex := fun _ _ => .bad
theorem fe_bad : PE X e (tF X.K T WE eBad) := ⟨fun _ _ _ _ _ _ ⟨_, _, _, _, _, _, h⟩ => h.elim⟩
theorem pOk {K : Value → Shared → Prop} {E₁ : Value → Shared → Prop} (hx : X.xe = fun e s' => wpAny (model X.prog X.w) X.A (leaving X.env e) (fun _ s'' => K e s'') E₁ s') : PassesOwn (model X.prog X.w) X.A X.env X.xe := passes_of hx
theorem room_u (hr : Room k X.A) : X.A.units + 64 < cLine := by have := hr.un; omega
end
/-! ### the classes of built-in values -/
theorem isa_int {K : PySem.W.Frag} : IsaOk K "int" := fun t h => by
  simp only [List.mem_cons, List.not_mem_nil, or_false] at h
  rcases h with rfl | rfl | rfl | rfl | rfl | rfl | rfl <;> kernel_rfl
theorem isa_bool {K : PySem.W.Frag} : IsaOk K "bool" := fun t h => by
  simp only [List.mem_cons, List.not_mem_nil, or_false] at h
  rcases h with rfl | rfl | rfl | rfl | rfl | rfl | rfl <;> kernel_rfl
theorem isa_tuple {K : PySem.W.Frag} : IsaOk K "tuple" := fun t h => by
  simp only [List.mem_cons, List.not_mem_nil, or_false] at h
  rcases h with rfl | rfl | rfl | rfl | rfl | rfl | rfl <;> kernel_rfl
theorem isa_list {K : PySem.W.Frag} : IsaOk K "list" := fun t h => by
  simp only [List.mem_cons, List.not_mem_nil, or_false] at h
  rcases h with rfl | rfl | rfl | rfl | rfl | rfl | rfl <;> kernel_rfl
theorem isa_str {K : PySem.W.Frag} : IsaOk K "str" := fun t h => by
  simp only [List.mem_cons, List.not_mem_nil, or_false] at h
  rcases h with rfl | rfl | rfl | rfl | rfl | rfl | rfl <;> kernel_rfl
theorem isa_dict {K : PySem.W.Frag} : IsaOk K "dict" := fun t h => by
  simp only [List.mem_cons, List.not_mem_nil, or_false] at h
  rcases h with rfl | rfl | rfl | rfl | rfl | rfl | rfl <;> kernel_rfl
end Fl
/-! Fl16: the end of a row. -/
namespace Fl
open PySem PySem.Spec PyProof.Rows L2 LamX
theorem repl_script {K : PySem.W.Frag} {L M : List Addr} {H : Hp} (ns : List Int) : RepL K L M H (ns.map PyData.int) (ns.map V.int) := by
  induction ns with
  | nil => rfl
  | cons n r ih => exact ⟨_, _, rfl, rfl, ih⟩
/-- the law's promise where it is called -/
theorem law_sp {K : PySem.W.Frag} {xc : Nat → Addr} {F : List D → Sto → R D} {q : Str} {P a : Addr} {H : Hp} {ns : List Int} (hF : ∃ st, F [.list (ns.map PyData.int)] [] = .ok (.bool true) st)
    (hT : H P = some (.tbl #[])) (hA : Rd H a (.lst (ns.map V.int)) ∨ LKc K a (ns.map V.int)) : spF K [(P, q)] xc 1 F [.ref a] H (fun v _ => v = .bl true) fun _ _ _ => False := by
  obtain ⟨st, e⟩ := hF
  refine ⟨[], [P], [.list (ns.map PyData.int)], [], rfl, ?_, ⟨_, _, rfl, ⟨a, ns.map V.int, rfl, ?_, repl_script ns⟩, rfl⟩, ?_⟩
  · exact { nd := List.nodup_nil, dj := fun b h => absurd h List.not_mem_nil, len := rfl, obs := fun n o b h => by simp at h,
            tabs := fun p hp => by rw [List.mem_singleton.mp hp]; exact TabS.nil hT, tM := fun p hp => by rw [List.mem_singleton.mp hp]; exact List.mem_singleton.mpr rfl,
            mM := fun b hb => .inr ⟨_, List.mem_singleton.mpr rfl, (List.mem_singleton.mp hb).symm⟩ }
  · rcases hA with h | h
    · refine .inl ⟨h, List.not_mem_nil, fun z => ?_⟩
      rw [List.mem_singleton.mp z] at h
      rcases h with h | ⟨o, h⟩ <;> (rw [hT] at h; cases h)
    · exact .inr h
  · rw [e]
    exact fun v L' H' _ _ r => r
theorem cx_none {P : Program} {w : World} {H : Hp} {s : Shared} {e : Value} {s' : Shared} (h : L2.CX P w [] H s (fun _ _ _ => False) e s') : False := by
  obtain ⟨_, _, _, _, _, _, _, _, _, _, _, _, z⟩ := h
  exact z.elim
end Fl
/-! Fm1: running the functions: rules for the rewriter, loops, comprehensions. -/
namespace Fl
open PySem PySem.Spec PyProof.Rows L2
@[simp] theorem u_eV (i : Nat) (ρ : Env) (st : Sto) : eV i ρ st = (match ρ[i]? with
  | some (some d) => .ok d st
  | _ => .bad) := rfl
@[simp] theorem u_eC (d : D) (x0 : Env) (st : Sto) : eC d x0 st = .ok d st := rfl
@[simp] theorem u_eB (op : O2) (a b : Ex) (ρ : Env) (st : Sto) : eB op a b ρ st = (a ρ st).bind fun x s1 => (b ρ s1).bind fun y s2 => ofO (op x y s2) := rfl
@[simp] theorem u_eU (op : O1) (a : Ex) (ρ : Env) (st : Sto) : eU op a ρ st = (a ρ st).bind fun x s1 => ofO (op x s1) := rfl
@[simp] theorem u_eTup (as : ExL) (ρ : Env) (st : Sto) : eTup as ρ st = (as ρ st).bind fun xs s1 => if xs.length ≤ 16777216 then .ok (.tuple xs) s1 else .bad := rfl
@[simp] theorem u_eFrz (as : ExL) (ρ : Env) (st : Sto) : eFrz as ρ st = (as ρ st).bind fun xs s1 => .ok (.list xs) s1 := rfl
@[simp] theorem u_eMut (as : ExL) (ρ : Env) (st : Sto) : eMut as ρ st = (as ρ st).bind fun xs s1 => .ok (.loc s1.length) (s1 ++ [.lst xs]) := rfl
@[simp] theorem u_eDisp (as : ExL) (ρ : Env) (st : Sto) : eDisp as ρ st = (as ρ st).bind fun xs s1 => if xs.length ≤ 16777216 then .ok xs s1 else .bad := rfl
@[simp] theorem u_eNil  (x0 : Env) (st : Sto) : eNil  x0 st = .ok [] st := rfl
@[simp] theorem u_eCons (a : Ex) (as : ExL) (ρ : Env) (st : Sto) : eCons a as ρ st = (a ρ st).bind fun x s1 => (as ρ s1).bind fun xs s2 => .ok (x :: xs) s2 := rfl
@[simp] theorem u_eIf (c : ExB) (a b : Ex) (ρ : Env) (st : Sto) : eIf c a b ρ st = (c ρ st).bind fun k s1 => if k = true then a ρ s1 else b ρ s1 := rfl
@[simp] theorem u_bVal (a : Ex) (ρ : Env) (st : Sto) : bVal a ρ st = ((a ρ st).bind fun x s1 => match x with
  | .bool k => .ok k s1
  | _ => .bad) := rfl
@[simp] theorem u_bAnd (a b : ExB) (ρ : Env) (st : Sto) : bAnd a b ρ st = (a ρ st).bind fun k s1 => if k = true then b ρ s1 else .ok false s1 := rfl
@[simp] theorem u_bOr (a b : ExB) (ρ : Env) (st : Sto) : bOr a b ρ st = (a ρ st).bind fun k s1 => if k = true then .ok true s1 else b ρ s1 := rfl
@[simp] theorem u_bNot (a : ExB) (ρ : Env) (st : Sto) : bNot a ρ st = (a ρ st).bind fun k s1 => .ok (!k) s1 := rfl
@[simp] theorem u_eBl (a : ExB) (ρ : Env) (st : Sto) : eBl a ρ st = (a ρ st).bind fun k s1 => .ok (.bool k) s1 := rfl
@[simp] theorem u_eAnd (a b : Ex) (ρ : Env) (st : Sto) : eAnd a b ρ st = ((a ρ st).bind fun x s1 => match x with
  | .bool k => if k = true then b ρ s1 else .ok (.bool false) s1
  | _ => .bad) := rfl
@[simp] theorem u_eOr (a b : Ex) (ρ : Env) (st : Sto) : eOr a b ρ st = ((a ρ st).bind fun x s1 => match x with
  | .bool k => if k = true then .ok (.bool true) s1 else b ρ s1
  | _ => .bad) := rfl
@[simp] theorem u_eNot (a : Ex) (ρ : Env) (st : Sto) : eNot a ρ st = ((a ρ st).bind fun x s1 => match x with
  | .bool k => .ok (.bool (!k)) s1
  | _ => .bad) := rfl
@[simp] theorem u_eFn (f : OL) (as : ExL) (ρ : Env) (st : Sto) : eFn f as ρ st = (as ρ st).bind fun xs s1 => ofO (f xs s1) := rfl
@[simp] theorem u_bYes  (x0 : Env) (st : Sto) : bYes  x0 st = .ok true st := rfl
@[simp] theorem u_sNx  (ρ : Env) (st : Sto) : sNx  ρ st = .nx ρ st := rfl
@[simp] theorem u_sSeq (a b : St') (ρ : Env) (st : Sto) : sSeq a b ρ st = (a ρ st).thn b := rfl
@[simp] theorem u_sIf (c : ExB) (a b : St') (ρ : Env) (st : Sto) : sIf c a b ρ st = (c ρ st).bindS fun k s1 => if k = true then a ρ s1 else b ρ s1 := rfl
@[simp] theorem u_sExpr (e : Ex) (ρ : Env) (st : Sto) : sExpr e ρ st = (e ρ st).bindS fun _ s1 => .nx ρ s1 := rfl
@[simp] theorem u_sRet (e : Ex) (ρ : Env) (st : Sto) : sRet e ρ st = (e ρ st).bindS fun d s1 => .ret d s1 := rfl
@[simp] theorem u_sRetN  (ρ : Env) (st : Sto) : sRetN  ρ st = .ret .none st := rfl
@[simp] theorem u_sAsg (e : Ex) (g : Tg) (ρ : Env) (st : Sto) : sAsg e g ρ st = (e ρ st).bindS fun d s1 => (g d ρ s1).bindS fun ρ' s2 => .nx ρ' s2 := rfl
@[simp] theorem u_sBrk  (ρ : Env) (st : Sto) : sBrk  ρ st = .brk ρ st := rfl
@[simp] theorem u_sCnt  (ρ : Env) (st : Sto) : sCnt  ρ st = .cnt ρ st := rfl
@[simp] theorem u_sAug (i : Nat) (op : O2) (e : Ex) (ρ : Env) (st : Sto) : sAug i op e ρ st = (eV i ρ st).bindS fun x _ => (e ρ st).bindS fun y s1 => (ofO (op x y s1)).bindS fun z s2 => .nx (ρ.set i (some z)) s2 := rfl
@[simp] theorem u_gN (i : Nat) (d : D) (ρ : Env) (st : Sto) : gN i d ρ st = .ok (ρ.set i (some d)) st := rfl
@[simp] theorem u_gsNil  (ds : List D) (ρ : Env) (st : Sto) : gsNil  ds ρ st = if ds.isEmpty then .ok ρ st else .bad := rfl
@[simp] theorem u_gsCons (g : Tg) (gs : List D → Env → Sto → R Env) (ds : List D) (ρ : Env) (st : Sto) : gsCons g gs ds ρ st = (match ds with
  | d :: r => (g d ρ st).bind fun ρ' s1 => gs r ρ' s1
  | [] => .bad) := rfl
@[simp] theorem u_gTp (gs : List D → Env → Sto → R Env) (d : D) (ρ : Env) (st : Sto) : gTp gs d ρ st = (match d with
  | .tuple ds => gs ds ρ st
  | _ => .bad) := rfl
@[simp] theorem u_gLs (gs : List D → Env → Sto → R Env) (d : D) (ρ : Env) (st : Sto) : gLs gs d ρ st = (match listOf st d with
  | some ds => gs ds ρ st
  | _ => .bad) := rfl
@[simp] theorem u_gLen (n : Nat) (gs : List D → Env → Sto → R Env) (ds : List D) (ρ : Env) (st : Sto) : gLen n gs ds ρ st = if ds.length = n then gs ds ρ st else .bad := rfl
@[simp] theorem u_gIx (op : O3) (o i : Ex) (d : D) (ρ : Env) (st : Sto) : gIx op o i d ρ st = ((o ρ st).bind fun x s1 => (i ρ s1).bind fun y s2 => match op x y d s2 with
  | some s3 => .ok ρ s3
  | none => .bad) := rfl
@[simp] theorem u_sExc (c : Nat) (x0 : Env) (st : Sto) : sExc c x0 st = .exc c st := rfl
@[simp] theorem u_eCall (n : Nat) (F : List D → Sto → R D) (as : ExL) (ρ : Env) (st : Sto) : eCall n F as ρ st = (as ρ st).bind fun ds s1 => if ds.length = n then F ds s1 else .bad := rfl
@[simp] theorem u_ofO1 {α : Type} (d : α) (s : Sto) : ofO (some (d, s)) = R.ok d s := rfl
@[simp] theorem u_ofO0 {α : Type} : ofO (none : Option (α × Sto)) = R.bad := rfl
@[simp] theorem u_out1 (ρ : Env) (s : Sto) : (S.nx ρ s).out = .ok .none s := rfl
@[simp] theorem u_out2 (d : D) (s : Sto) : (S.ret d s).out = .ok d s := rfl
@[simp] theorem u_out3 (c : Nat) (s : Sto) : (S.exc c s).out = .exc c s := rfl
@[simp] theorem u_wp0 (ρ : Env) : wp [] ρ = ρ := rfl
@[simp] theorem u_wp1 (k : Nat) (ks : List Nat) (ρ : Env) : wp (k :: ks) ρ = wp ks (ρ.set k none) := rfl
@[simp] theorem u_pair (as : ExL) (i j : Nat) (ρ : Env) (st : Sto) : ePair as i j ρ st = (as ρ st).bindS fun xs s1 => match xs with
  | [x, y] => .nx ((ρ.set i (some x)).set j (some y)) s1
  | _ => .bad := rfl
/-! ### data -/
mutual
theorem fz_self {m : Nat} {st : Sto} : ∀ (d : D) (k : Nat), d.plain = true → d.depth < k → fzD m st k d = some d
  | .none, k + 1, _, _ => rfl
  | .bool _, k + 1, _, _ => rfl
  | .int _, k + 1, _, _ => rfl
  | .str _, k + 1, _, _ => rfl
  | .tuple xs, k + 1, h, hd => by
    simp only [PyData.plain] at h
    simp only [PyData.depth] at hd
    simp only [fzD]
    rw [fzL_self xs k h (by omega)]
    rfl
  | .list xs, k + 1, h, hd => by
    simp only [PyData.plain] at h
    simp only [PyData.depth] at hd
    simp only [fzD]
    rw [fzL_self xs k h (by omega)]
    rfl
  | .dict _, _ + 1, h, _ => by simp [PyData.plain] at h
  | _, 0, _, h => absurd h (Nat.not_lt_zero _)
theorem fzL_self {m : Nat} {st : Sto} : ∀ (ds : List D) (k : Nat), PyData.plainAll ds = true → PyData.depthAll ds < k → fzL (fzD m st k) ds = some ds
  | [], _, _, _ => rfl
  | d :: ds, k, h, hd => by
    simp only [PyData.plainAll, Bool.and_eq_true] at h
    simp only [PyData.depthAll] at hd
    unfold fzL
    rw [fz_self d k h.1 (by omega), fzL_self ds k h.2 (by omega)]
    rfl
end
theorem dv_self {st : Sto} {d : D} (h : d.plain = true) (hd : d.depth < 40) : dv st d = some d := fz_self d 40 h hd
@[simp] theorem dv_int {st : Sto} {i : Int} : dv st (.int i) = some (.int i) := rfl
@[simp] theorem dv_bool {st : Sto} {i : Bool} : dv st (.bool i) = some (.bool i) := rfl
@[simp] theorem dv_none {st : Sto} : dv st .none = some .none := rfl
@[simp] theorem dv_str {st : Sto} {x : Str} : dv st (.str x) = some (.str x) := rfl
@[simp] theorem eqv_int {a b : Int} : PyData.eqv (.int a) (.int b) = decide (a = b) := by
  unfold PyData.eqv
  by_cases h : a = b <;> simp [h]
@[simp] theorem alike_int {a b : Int} : PySem.W.alike (.int a) (.int b) = true := rfl
@[simp] theorem lt_int {a b : Int} : PySem.W.dataLt (.int a) (.int b) = decide (a < b) := by
  simpa using PySem.W.dataLt_int a b
/-! ### operators -/
@[simp] theorem eqO_int {a b : Int} {st : Sto} : eqO (.int a) (.int b) st = some (.bool (decide (a = b)), st) := by simp [eqO]
@[simp] theorem neO_int {a b : Int} {st : Sto} : neO (.int a) (.int b) st = some (.bool (!decide (a = b)), st) := by simp [neO]
@[simp] theorem ltO_int {a b : Int} {st : Sto} : ltO (.int a) (.int b) st = some (.bool (decide (a < b)), st) := by simp [ltO]
@[simp] theorem gtO_int {a b : Int} {st : Sto} : gtO (.int a) (.int b) st = some (.bool (decide (b < a)), st) := by simp [gtO]
@[simp] theorem leO_int {a b : Int} {st : Sto} : leO (.int a) (.int b) st = some (.bool (decide (a ≤ b)), st) := by
  have : (!decide (b < a)) = decide (a ≤ b) := by rw [Bool.eq_iff_iff]; simp
  simp [leO, this]
@[simp] theorem geO_int {a b : Int} {st : Sto} : geO (.int a) (.int b) st = some (.bool (decide (b ≤ a)), st) := by
  have : (!decide (a < b)) = decide (b ≤ a) := by rw [Bool.eq_iff_iff]; simp
  simp [geO, this]
@[simp] theorem addO_int {a b : Int} {st : Sto} : addO (.int a) (.int b) st = some (.int (a + b), st) := rfl
@[simp] theorem subO_int {a b : Int} {st : Sto} : subO (.int a) (.int b) st = some (.int (a - b), st) := rfl
@[simp] theorem negO_int {a : Int} {st : Sto} : negO (.int a) st = some (.int (-a), st) := rfl
theorem mulO_int {a b : Int} {st : Sto} (h : mulOk a b) : mulO (.int a) (.int b) st = some (.int (a * b), st) := by simp [mulO, h]
theorem log2_lt {n k : Nat} (h : n < 2 ^ k) (hk : 0 < k) : n.log2 < k := by
  by_cases h0 : n = 0
  · subst h0; simpa using hk
  · exact (Nat.log2_lt h0).mpr h
theorem mulOk_small {a b : Int} (ha : a.natAbs < 2 ^ 499999) (hb : b.natAbs < 2 ^ 499999) : mulOk a b := by
  unfold mulOk
  have h1 := log2_lt ha (by omega)
  have h2 := log2_lt hb (by omega)
  omega
theorem big_pow : (10 : Nat) ^ 40 < 2 ^ 499999 := by
  have h : (10 : Nat) ^ 40 < 2 ^ 133 := by decide
  exact Nat.lt_of_lt_of_le h (Nat.pow_le_pow_right (by omega) (by omega))
theorem mulOk_40 {a b : Int} (ha : a.natAbs ≤ 10 ^ 40) (hb : b.natAbs ≤ 10 ^ 40) : mulOk a b := mulOk_small (Nat.lt_of_le_of_lt ha big_pow) (Nat.lt_of_le_of_lt hb big_pow)
theorem fdivO_int {a b : Int} {st : Sto} (h : 0 < b) (hb : b < 1073741824) : fdivO (.int a) (.int b) st = some (.int (a / b), st) := by
  have : divOk b := ⟨by omega, .inl (by omega)⟩
  simp only [fdivO, this, if_true]
  rw [Int.fdiv_eq_ediv_of_nonneg a (by omega)]
theorem modO_int {a b : Int} {st : Sto} (h : 0 < b) : modO (.int a) (.int b) st = some (.int (a % b), st) := by
  have : b ≠ 0 := by omega
  simp only [modO, this, ne_eq, not_false_eq_true, if_true]
  rw [Int.fmod_eq_emod_of_nonneg a (by omega)]
@[simp] theorem lenO_tuple {ds : List D} {st : Sto} : lenO [.tuple ds] st = some (.int ds.length, st) := rfl
@[simp] theorem lenO_list {ds : List D} {st : Sto} : lenO [.list ds] st = some (.int ds.length, st) := rfl
@[simp] theorem tupO_list {ds : List D} {st : Sto} : tupO [.list ds] st = some (.tuple ds, st) := rfl
@[simp] theorem tupO_tuple {ds : List D} {st : Sto} : tupO [.tuple ds] st = some (.tuple ds, st) := rfl
@[simp] theorem intO_int {a : Int} {st : Sto} : intO [.int a] st = some (.int a, st) := rfl
@[simp] theorem absO_int {a : Int} {st : Sto} : absO [.int a] st = some (.int (if a < 0 then -a else a), st) := rfl
/-! ### subscripts -/
theorem ixD_nat {ds : List D} {k : Nat} {d : D} (h : ds[k]? = some d) : ixD ds (k : Int) = some d := by
  obtain ⟨hl, _⟩ := List.getElem?_eq_some_iff.mp h
  have : ixN ds.length (k : Int) = some k := by
    unfold ixN
    rw [if_pos (by omega), if_pos (by omega)]
    simp
  simp [ixD, this, h]
theorem ixD_pos {ds : List D} {i : Int} {d : D} (h0 : 0 ≤ i) (h : ds[i.toNat]? = some d) : ixD ds i = some d := by
  have := ixD_nat h
  rwa [Int.toNat_of_nonneg h0] at this
theorem ixO_tup {ds : List D} {i : Int} {d : D} {st : Sto} (h0 : 0 ≤ i) (h : ds[i.toNat]? = some d) : ixO (.tuple ds) (.int i) st = some (d, st) := by simp [ixO, seqOf, ixD_pos h0 h]
theorem ixO_lst {ds : List D} {i : Int} {d : D} {st : Sto} (h0 : 0 ≤ i) (h : ds[i.toNat]? = some d) : ixO (.list ds) (.int i) st = some (d, st) := by simp [ixO, seqOf, listOf, ixD_pos h0 h]
theorem ixO_loc {n : Nat} {ds : List D} {i : Int} {d : D} {st : Sto} (hs : st[n]? = some (.lst ds)) (h0 : 0 ≤ i) (h : ds[i.toNat]? = some d) : ixO (D.loc n) (.int i) st = some (d, st) := by simp [ixO, seqOf, listOf, D.loc, hs, ixD_pos h0 h]
theorem setO_loc {n : Nat} {ds : List D} {i : Int} {d : D} {st : Sto} (hs : st[n]? = some (.lst ds)) (h0 : 0 ≤ i) (h : i.toNat < ds.length) : setO (D.loc n) (.int i) d st = some (st.set n (.lst (ds.set i.toNat d))) := by
  have : ixN ds.length i = some i.toNat := by
    unfold ixN
    rw [if_pos h0, if_pos (by omega)]
  simp [setO, D.loc, hs, this]
/-! ### loops -/
open Classical in
@[simp] theorem forL_nil {src : Sto → Prop} {ks : List Nat} {tg : Tg} {body : St'} {ρ : Env} {st : Sto} (h : src st) : forL src ks tg body [] ρ st = .nx ρ st := by simp [forL, h]
open Classical in
theorem forL_cons {src : Sto → Prop} {ks : List Nat} {tg : Tg} {body : St'} {d : D} {ds : List D} {ρ : Env} {st : Sto} (h : src st) : forL src ks tg body (d :: ds) ρ st = (tg d ρ st).bindS fun ρ1 s1 => (body ρ1 s1).turn ks fun ρ2 s2 => forL src ks tg body ds ρ2 s2 := by simp [forL, h]
/-- a loop that runs through: a state of its own, one step at a time -/
theorem forL_fold {A : Type} (E : A → Env) (Z : A → Sto) (f : D → A → A) (I : A → Prop) {src : Sto → Prop} {ks : List Nat} {tg : Tg} {body : St'} : ∀ (ds : List D) (a : A), I a → (∀ a, I a → src (Z a)) →
    (∀ d ∈ ds, ∀ a, I a → I (f d a) ∧ ∀ F, ((tg d (E a) (Z a)).bindS fun ρ1 s1 => (body ρ1 s1).turn ks F) = F (E (f d a)) (Z (f d a))) →
    forL src ks tg body ds (E a) (Z a) = .nx (E (ds.foldl (fun a d => f d a) a)) (Z (ds.foldl (fun a d => f d a) a)) ∧ I (ds.foldl (fun a d => f d a) a) := by
  intro ds
  induction ds with
  | nil => intro a h0 hs _; exact ⟨forL_nil (hs a h0), h0⟩
  | cons d ds ih =>
    intro a h0 hs h
    obtain ⟨h1, h2⟩ := h d List.mem_cons_self a h0
    rw [forL_cons (hs a h0), h2, List.foldl_cons]
    exact ih (f d a) h1 hs fun x hx => h x (List.mem_cons_of_mem _ hx)
/-- a loop with a count -/
theorem forL_ind {I : Nat → Env → Sto → Prop} {src : Sto → Prop} {ks : List Nat} {tg : Tg} {body : St'} : ∀ (ds : List D) (k : Nat) (ρ : Env) (st : Sto), I k ρ st → (∀ i ρ st, I i ρ st → src st) →
    (∀ (i : Nat) d, ds[i]? = some d → ∀ ρ st, I (k + i) ρ st → ∃ ρ' st', I (k + i + 1) ρ' st' ∧ ∀ F, ((tg d ρ st).bindS fun ρ1 s1 => (body ρ1 s1).turn ks F) = F ρ' st') →
    ∃ ρ' st', forL src ks tg body ds ρ st = .nx ρ' st' ∧ I (k + ds.length) ρ' st' := by
  intro ds
  induction ds with
  | nil => intro k ρ st h0 hs _; exact ⟨ρ, st, forL_nil (hs _ _ _ h0), h0⟩
  | cons d ds ih =>
    intro k ρ st h0 hs h
    obtain ⟨ρ1, st1, h1, h2⟩ := h 0 d rfl ρ st h0
    rw [forL_cons (hs _ _ _ h0), h2]
    obtain ⟨ρ', st', e, h3⟩ := ih (k + 1) ρ1 st1 h1 hs fun i x hx ρ st hI => by
      have := h (i + 1) x (by simpa using hx) ρ st (by rw [← Nat.add_assoc, Nat.add_right_comm]; exact hI)
      rwa [show k + (i + 1) + 1 = k + 1 + i + 1 by omega] at this
    exact ⟨ρ', st', e, by rw [List.length_cons, show k + (ds.length + 1) = k + 1 + ds.length by omega]; exact h3⟩
/-! ### comprehensions -/
open Classical in
theorem compL_nil {src : Sto → Prop} {tg : Tg} {cd : ExB} {el : Ex} {ρ : Env} {st : Sto} (h : src st) : compL src tg cd el [] ρ st = .ok [] st := by simp [compL, h]
open Classical in
theorem compL_cons {src : Sto → Prop} {tg : Tg} {cd : ExB} {el : Ex} {d : D} {ds : List D} {ρ : Env} {st : Sto} (h : src st) : compL src tg cd el (d :: ds) ρ st = (tg d ρ st).bind fun ρ1 s1 => (cd ρ1 s1).bind fun k s2 =>
      if k = true then (el ρ1 s2).bind fun y s3 => (compL src tg cd el ds ρ s3).bind fun ys s4 => .ok (y :: ys) s4 else compL src tg cd el ds ρ s2 := by simp [compL, h]
/-- one that changes nothing -/
theorem compL_map {src : Sto → Prop} {tg : Tg} {cd : ExB} {el : Ex} {ρ : Env} {st : Sto} (p : D → Bool) (g : D → D) (hs : src st) : ∀ ds : List D,
    (∀ d ∈ ds, ∃ ρ1, tg d ρ st = .ok ρ1 st ∧ cd ρ1 st = .ok (p d) st ∧ (p d = true → el ρ1 st = .ok (g d) st)) → compL src tg cd el ds ρ st = .ok ((ds.filter p).map g) st := by
  intro ds
  induction ds with
  | nil => intro _; exact compL_nil hs
  | cons d ds ih =>
    intro h
    obtain ⟨ρ1, h1, h2, h3⟩ := h d List.mem_cons_self
    have := ih fun x hx => h x (List.mem_cons_of_mem _ hx)
    rw [compL_cons hs, h1]
    simp only [R.bind, h2]
    by_cases hp : p d = true
    · rw [if_pos hp, h3 hp]
      simp [this, hp]
    · rw [if_neg hp, this]
      simp [hp]
/-- .. without a test -/
theorem compL_all {src : Sto → Prop} {tg : Tg} {el : Ex} {ρ : Env} {st : Sto} (g : D → D) (hs : src st) (ds : List D)
    (h : ∀ d ∈ ds, ∃ ρ1, tg d ρ st = .ok ρ1 st ∧ el ρ1 st = .ok (g d) st) : compL src tg bYes el ds ρ st = .ok (ds.map g) st := by
  have := compL_map (tg := tg) (cd := bYes) (el := el) (ρ := ρ) (fun _ => true) g hs ds fun d hd => by
    obtain ⟨ρ1, h1, h2⟩ := h d hd
    exact ⟨ρ1, h1, rfl, fun _ => h2⟩
  have e : ds.filter (fun _ => true) = ds := List.filter_eq_self.mpr fun _ _ => rfl
  rw [e] at this
  exact this
/-- .. one whose items change the store -/
theorem compL_some {src : Sto → Prop} {tg : Tg} {el : Ex} {ρ : Env} (J : Sto → Prop) (Q : D → Prop) (hs : ∀ st, J st → src st) : ∀ (ds : List D) (st : Sto), J st →
    (∀ d ∈ ds, ∀ st, J st → ∃ ρ1 y st', tg d ρ st = .ok ρ1 st ∧ el ρ1 st = .ok y st' ∧ Q y ∧ J st') → ∃ ys st', compL src tg bYes el ds ρ st = .ok ys st' ∧ ys.length = ds.length ∧ (∀ y ∈ ys, Q y) ∧ J st' := by
  intro ds
  induction ds with
  | nil => intro st h0 _; exact ⟨[], st, compL_nil (hs st h0), rfl, fun _ h => absurd h List.not_mem_nil, h0⟩
  | cons d ds ih =>
    intro st h0 h
    obtain ⟨ρ1, y, s1, h1, h2, h3, h4⟩ := h d List.mem_cons_self st h0
    obtain ⟨ys, s2, e, l, q, j⟩ := ih s1 h4 fun x hx => h x (List.mem_cons_of_mem _ hx)
    refine ⟨y :: ys, s2, ?_, by simp [l], fun z hz => ?_, j⟩
    · rw [compL_cons (hs st h0), h1]
      simp [h2, e]
    · rcases List.mem_cons.mp hz with rfl | hz
      · exact h3
      · exact q z hz
end Fl
/-! Fm2: the laws' own box of numbers. -/
namespace Fl
open PySem PySem.Spec PyProof.Rows L2
noncomputable def F_box : List D → Sto → R D := fnF 2 (sRet (eMut (eDisp (eCons (eC (.int 0)) (eCons (eC (.int 0)) (eCons (eC (.int 0)) (eCons (eFrz (eComp (iSeq (eV 0)) [1] (gN 1) bYes (eFn absO (eCons (eFn intO (eCons (eV 1) eNil)) eNil)))) eNil)))))))
noncomputable def G_takeR : St' := (sSeq (sIf (bVal (eB gtO (eB ixO (eV 0) (eC (.int 1))) (eC (.int 0)))) (sSeq (sAsg (eB modO (eFn intO (eCons (eB ixO (eV 0) (eC (.int 0))) eNil)) (eV 1)) (gN 4)) (sSeq (sAsg (eB fdivO (eB ixO (eV 0) (eC (.int 0))) (eV 1)) (gIx setO (eV 0) (eC (.int 0)))) (sSeq (sAsg (eIf (bVal (eB gtO (eB ixO (eV 0) (eC (.int 0))) (eC (.int 0)))) (eB subO (eB ixO (eV 0) (eC (.int 1))) (eC (.int 1))) (eC (.int 0))) (gIx setO (eV 0) (eC (.int 1)))) (sRet (eV 4))))) sNx) (sSeq (sAsg (eB addO (eB ixO (eV 0) (eC (.int 1))) (eC (.int 1))) (gIx setO (eV 0) (eC (.int 1)))) (sSeq (sAsg (eB modO (eFn intO (eCons (eB addO (eB mulO (eB ixO (eV 0) (eC (.int 0))) (eC (.int 48271))) (eB mulO (eC (.int 69621)) (eB addO (eB ixO (eV 0) (eC (.int 1))) (eC (.int 20))))) eNil)) (eC (.int 2147483647))) (gIx setO (eV 0) (eC (.int 0)))) (sRet (eB modO (eB modO (eFn intO (eCons (eB addO (eB fdivO (eB ixO (eV 0) (eC (.int 0))) (eC (.int 7))) (eB ixO (eV 0) (eC (.int 0)))) eNil)) (eC (.int 1000003))) (eV 1))))))
noncomputable def F_take : List D → Sto → R D := fnF 5 (sSeq (sIf (bVal (eB eqO (eB ixO (eV 0) (eC (.int 1))) (eC (.int 0)))) (sSeq (sAsg (eB ixO (eV 0) (eC (.int 2))) (gN 2)) (sSeq (sAsg (eC (.int 0)) (gN 3)) (sSeq (sIf (bVal (eB ltO (eV 2) (eFn lenO (eCons (eB ixO (eV 0) (eC (.int 3))) eNil)))) (sSeq (sAsg (eB ixO (eB ixO (eV 0) (eC (.int 3))) (eV 2)) (gN 3)) (sAsg (eIf (bVal (eB geO (eV 3) (eB powO (eC (.int 10)) (eC (.int 18))))) (eC (.int 60)) (eU negO (eC (.int 9)))) (gIx setO (eV 0) (eC (.int 1))))) sNx) (sSeq (sAsg (eB addO (eV 2) (eC (.int 1))) (gIx setO (eV 0) (eC (.int 2)))) (sSeq (sAsg (eV 3) (gIx setO (eV 0) (eC (.int 0)))) (sIf (bVal (eB eqO (eB ixO (eV 0) (eC (.int 1))) (eC (.int 0)))) (sRet (eC (.int 0))) sNx)))))) sNx) G_takeR)
noncomputable def F_pick : List D → Sto → R D := fnF 2 (sRet (eB ixO (eV 1) (eCall 2 F_take (eCons (eV 0) (eCons (eFn lenO (eCons (eV 1) eNil)) eNil)))))
/-- the box -/
def Bx (o : Ob) : Prop := ∃ (a b c : Int) (cs : List Int), o = .lst [.int a, .int b, .int c, .list (cs.map PyData.int)] ∧ 0 ≤ a ∧ -9 ≤ b ∧ b ≤ 60 ∧ 0 ≤ c ∧ (∀ x ∈ cs, 0 ≤ x) ∧ (b < 0 → a < 10 ^ 18)
theorem box_ok (ns : List Int) (st : Sto) (hl : ns.length ≤ 63) : ∃ o, F_box [.list (ns.map PyData.int)] st = .ok (D.loc st.length) (st ++ [o]) ∧ Bx o := by
  refine ⟨.lst [.int 0, .int 0, .int 0, .list ((ns.map fun n => if n < 0 then -n else n).map PyData.int)], ?_, 0, 0, 0, _, rfl, by omega, by omega, by omega, by omega, fun x hx => ?_, by omega⟩
  · have h := compL_all (src := fun _ => True) (tg := gN 1) (el := eFn absO (eCons (eFn intO (eCons (eV 1) eNil)) eNil)) (ρ := [some (.list (ns.map PyData.int)), none]) (st := st) (fun d => match d with | .int i => .int (if i < 0 then -i else i) | d => d) True.intro (ns.map PyData.int) fun d hd => by
      obtain ⟨n, _, rfl⟩ := List.mem_map.mp hd
      exact ⟨_, rfl, by simp⟩
    have hn : ns.length ≤ 16777216 := by omega
    unfold F_box fnF
    simp only [sRet, eMut, eDisp, eCons, eC, eNil, eFrz, eComp, iSeq, eV]
    simp [h, hn, noX, D.loc, Function.comp_def]
  · obtain ⟨n, _, rfl⟩ := List.mem_map.mp hx
    split <;> omega
theorem take_rest {m a b c : Int} {cs : List Int} {x y : Option D} (h1 : 1 ≤ m) (h2 : m < 1073741824) (rest : Sto) (ha : 0 ≤ a) (hb1 : -9 ≤ b) (hb2 : b ≤ 60) (hc : 0 ≤ c) (hcs : ∀ x ∈ cs, 0 ≤ x) (hab : b < 0 → a < 10 ^ 18) (hb : b ≠ 0) :
    ∃ t o', G_takeR [some (D.loc 0), some (.int m), x, y, none] (.lst [.int a, .int b, .int c, .list (cs.map PyData.int)] :: rest) = .ret (.int t) (o' :: rest) ∧ 0 ≤ t ∧ t < m ∧ Bx o' := by
  unfold G_takeR
  by_cases hbp : 0 < b
  · have e1 : ∀ st, modO (.int a) (.int m) st = some (.int (a % m), st) := fun st => modO_int (by omega)
    have e2 : ∀ st, fdivO (.int a) (.int m) st = some (.int (a / m), st) := fun st => fdivO_int (by omega) h2
    have hq : 0 ≤ a / m := Int.ediv_nonneg ha (by omega)
    by_cases hd : 0 < a / m
    · refine ⟨a % m, .lst [.int (a / m), .int (b - 1), .int c, .list (cs.map PyData.int)], ?_, Int.emod_nonneg a (by omega), Int.emod_lt_of_pos a (by omega), _, _, _, _, rfl, hq, by omega, by omega, hc, hcs, by omega⟩
      simp [hbp, hd, D.loc, ixO, seqOf, listOf, ixD, ixN, setO, e1, e2]
    · refine ⟨a % m, .lst [.int (a / m), .int 0, .int c, .list (cs.map PyData.int)], ?_, Int.emod_nonneg a (by omega), Int.emod_lt_of_pos a (by omega), _, _, _, _, rfl, hq, by omega, by omega, hc, hcs, by omega⟩
      simp [hbp, hd, D.loc, ixO, seqOf, listOf, ixD, ixN, setO, e1, e2]
  · have ha2 := hab (by omega)
    have e1 : ∀ st, mulO (.int a) (.int 48271) st = some (.int (a * 48271), st) := fun st => mulO_int (mulOk_40 (by omega) (by omega))
    have e2 : ∀ st, mulO (.int 69621) (.int (b + 1 + 20)) st = some (.int (69621 * (b + 1 + 20)), st) := fun st => mulO_int (mulOk_40 (by omega) (by omega))
    have e3 : ∀ z st, modO (.int z) (.int 2147483647) st = some (.int (z % 2147483647), st) := fun z st => modO_int (by omega)
    have e4 : ∀ z st, fdivO (.int z) (.int 7) st = some (.int (z / 7), st) := fun z st => fdivO_int (by omega) (by omega)
    have e5 : ∀ z st, modO (.int z) (.int 1000003) st = some (.int (z % 1000003), st) := fun z st => modO_int (by omega)
    have e6 : ∀ z st, modO (.int z) (.int m) st = some (.int (z % m), st) := fun z st => modO_int (by omega)
    generalize hz : (a * 48271 + 69621 * (b + 1 + 20)) % 2147483647 = z at *
    have hz0 : 0 ≤ z := by rw [← hz]; exact Int.emod_nonneg _ (by omega)
    have hz1 : z < 2147483647 := by rw [← hz]; exact Int.emod_lt_of_pos _ (by omega)
    refine ⟨(z / 7 + z) % 1000003 % m, .lst [.int z, .int (b + 1), .int c, .list (cs.map PyData.int)], ?_, Int.emod_nonneg _ (by omega), Int.emod_lt_of_pos _ (by omega), _, _, _, _, rfl, hz0, by omega, by omega, hc, hcs, fun _ => by omega⟩
    simp [hbp, D.loc, ixO, seqOf, listOf, ixD, ixN, setO, e1, e2, e3, e4, e5, e6, hz]
theorem take_ok {m : Int} (h1 : 1 ≤ m) (h2 : m < 1073741824) {o : Ob} (rest : Sto) (hb : Bx o) : ∃ t o', F_take [D.loc 0, .int m] (o :: rest) = .ok (.int t) (o' :: rest) ∧ 0 ≤ t ∧ t < m ∧ Bx o' := by
  obtain ⟨a, b, c, cs, rfl, ha, hb1, hb2, hc, hcs, hab⟩ := hb
  have ep : ∀ st, powO (.int 10) (.int 18) st = some (.int (10 ^ 18), st) := fun st => by
    have : powOk 10 18 := ⟨by omega, by omega, by decide⟩
    simp [powO, this]
  by_cases hb0 : b = 0
  · subst hb0
    by_cases hl : c < (cs.length : Int)
    · have hcl : c.toNat < cs.length := by omega
      have hg : (cs.map PyData.int)[c.toNat]? = some (.int cs[c.toNat]) := by simp [hcl]
      have hx : ∀ st, ixO (.list (cs.map PyData.int)) (.int c) st = some (.int cs[c.toNat], st) := fun st => ixO_lst hc hg
      have hn := hcs cs[c.toNat] (List.getElem_mem hcl)
      generalize cs[c.toNat] = v at *
      have hi : ∀ (i : Int) (ds : List D) st, ixO (.dict [(.int 0, .none)]) (.int i) (.lst ds :: st) = (ixD ds i).map fun d => (d, .lst ds :: st) := fun i ds st => by simp [ixO, seqOf, listOf]
      have hs : ∀ (i : Int) d (ds : List D) st, setO (.dict [(.int 0, .none)]) (.int i) d (.lst ds :: st) = (ixN ds.length i).map fun j => (.lst (ds.set j d) :: st) := fun i d ds st => by simp [setO]
      by_cases hbig : 10 ^ 18 ≤ v
      · obtain ⟨t, o', e, r⟩ := take_rest (a := v) (b := 60) (c := c + 1) (cs := cs) (x := some (.int c)) (y := some (.int v)) h1 h2 rest hn (by omega) (by omega) (by omega) hcs (by omega) (by omega)
        refine ⟨t, o', ?_, r⟩
        unfold F_take fnF
        have hbig' : (1000000000000000000 : Int) ≤ v := hbig
        simp [D.loc, hi, hs, ixD, ixN, hl, hx, hbig', ep]
        simp [D.loc] at e
        simp [e]
      · obtain ⟨t, o', e, r⟩ := take_rest (a := v) (b := -9) (c := c + 1) (cs := cs) (x := some (.int c)) (y := some (.int v)) h1 h2 rest hn (by omega) (by omega) (by omega) hcs (by omega) (by omega)
        refine ⟨t, o', ?_, r⟩
        unfold F_take fnF
        have hbig' : ¬ (1000000000000000000 : Int) ≤ v := hbig
        simp [D.loc, hi, hs, ixD, ixN, hl, hx, hbig', ep]
        simp [D.loc] at e
        simp [e]
    · refine ⟨0, .lst [.int 0, .int 0, .int (c + 1), .list (cs.map PyData.int)], ?_, by omega, by omega, 0, 0, c + 1, cs, rfl, by omega, by omega, by omega, by omega, hcs, by omega⟩
      unfold F_take fnF
      simp [D.loc, ixO, seqOf, listOf, setO, ixD, ixN, hl]
  · obtain ⟨t, o', e, r⟩ := take_rest (x := none) (y := none) h1 h2 rest ha hb1 hb2 hc hcs hab hb0
    refine ⟨t, o', ?_, r⟩
    unfold F_take fnF
    simp [hb0, D.loc, ixO, seqOf, listOf, ixD, ixN]
    simp [D.loc] at e
    simp [e]
end Fl
namespace Fl
open PySem PySem.Spec PyProof.Rows L2
theorem pick_ok {ds : List D} (h1 : ds ≠ []) (h2 : ds.length < 1073741824) {o : Ob} (rest : Sto) (hb : Bx o) : ∃ (i : Nat) (d : D) (o' : Ob), F_pick [D.loc 0, .list ds] (o :: rest) = .ok d (o' :: rest) ∧ ds[i]? = some d ∧ Bx o' := by
  have hl : 0 < ds.length := List.length_pos_iff.mpr h1
  obtain ⟨t, o', e, t0, t1, hb'⟩ := take_ok (m := ds.length) (by omega) (by omega) rest hb
  have hi : t.toNat < ds.length := by omega
  refine ⟨t.toNat, ds[t.toNat], o', ?_, List.getElem?_eq_getElem hi, hb'⟩
  have hx := ixO_lst (ds := ds) (i := t) (st := o' :: rest) t0 (List.getElem?_eq_getElem hi)
  unfold F_pick fnF
  simp [D.loc] at e
  simp [D.loc, e, hx]
/-! ### numbers, heights -/
/-- a whole number, no truth value -/
def isNum : D → Bool
  | .int _ => true
  | _ => false
def isIn (lo hi : Int) : D → Bool
  | .int i => decide (lo ≤ i) && decide (i ≤ hi)
  | _ => false
noncomputable def F_isnum : List D → Sto → R D := fnF 1 (sRet (eAnd (eU (isiO "int") (eV 0)) (eNot (eU (isiO "bool") (eV 0)))))
noncomputable def F_isheight : List D → Sto → R D := fnF 1 (sRet (eAnd (eCall 1 F_isnum (eCons (eV 0) eNil)) (eChain leO leO (eC (.int 0)) (eV 0) (eC (.int 127)))))
theorem isnum_ok {d : D} (h : d.plain = true) (st : Sto) : F_isnum [d] st = .ok (.bool (isNum d)) st := by
  unfold F_isnum fnF
  cases d <;> simp [isiO, tyN, isa, isNum, PyData.plain] at h ⊢
theorem chain_int {o o' : O2} {a b c : Ex} {ρ : Env} {st : Sto} {x y z : Int} (ha : a ρ st = .ok (.int x) st) (hb : b ρ st = .ok (.int y) st) (hc : c ρ st = .ok (.int z) st) {p q : Bool} (h1 : o (.int x) (.int y) st = some (.bool p, st)) (h2 : o' (.int y) (.int z) st = some (.bool q, st)) :
    eChain o o' a b c ρ st = .ok (.bool (p && q)) st := by
  unfold eChain
  cases p <;> simp [ha, hb, hc, h1, h2]
theorem isheight_ok {d : D} (h : d.plain = true) (st : Sto) : F_isheight [d] st = .ok (.bool (isIn 0 127 d)) st := by
  unfold F_isheight fnF
  have e := isnum_ok h st
  cases hd : isNum d with
  | false =>
    have : isIn 0 127 d = false := by cases d <;> simp [isNum, isIn] at hd ⊢
    simp [e, hd, this]
  | true =>
    cases d with
    | int i =>
      have := chain_int (o := leO) (o' := leO) (a := eC (.int 0)) (b := eV 0) (c := eC (.int 127)) (ρ := [some (.int i)]) (st := st) rfl rfl rfl leO_int leO_int
      simp [e, hd, this, isIn]
    | _ => simp [isNum] at hd
end Fl
/-! Fm3: more rules: garbage, comprehensions over one name, slices, ranges, texts. -/
namespace Fl
open PySem PySem.Spec PyProof.Rows L2
/-! ### what a def made is let go -/
theorem gcS_ext (st ext : Sto) : ∀ n, n ≤ st.length → gcS st (st ++ ext) n = some (st.take n) := by
  intro n
  induction n with
  | zero => intro _; rfl
  | succ n ih =>
    intro h
    have e : (st ++ ext)[n]? = st[n]? := List.getElem?_append_left (by omega)
    unfold gcS
    rw [ih (by omega), e]
    simp only [Option.bind_some, if_true]
    rw [List.getElem?_eq_getElem (by omega), Option.map_some, List.take_add_one, List.getElem?_eq_getElem (by omega)]
    rfl
theorem gcF_ok {F : List D → Sto → R D} {ds : List D} {d : D} {st ext : Sto} (h : F ds st = .ok d (st ++ ext)) (hp : d.plain = true) (hd : d.depth < 40) : gcF F ds st = .ok d st := by
  unfold gcF gcR
  rw [h]
  simp only
  rw [gcS_ext st ext st.length (Nat.le_refl _), fz_self d 40 hp hd, List.take_length]
theorem gcF_exc {F : List D → Sto → R D} {ds : List D} {c : Nat} {st ext : Sto} (h : F ds st = .exc c (st ++ ext)) : gcF F ds st = .exc c st := by
  unfold gcF gcR
  rw [h]
  simp only
  rw [gcS_ext st ext st.length (Nat.le_refl _), List.take_length]
/-! ### comprehensions over one name -/
theorem comp_map {a el : Ex} {j : Nat} {ρ : Env} {st : Sto} {ds : List D} {src : Sto → Prop} (g : D → D) (ha : iSeq a ρ st = .ok (ds, src) st) (hs : src st) (hl : ds.length ≤ 16777216) (h : ∀ d ∈ ds, el ((ρ.set j none).set j (some d)) st = .ok (g d) st) :
    eComp (iSeq a) [j] (gN j) bYes el ρ st = .ok (ds.map g) st := by
  have := compL_all (src := src) (tg := gN j) (el := el) (ρ := ρ.set j none) (st := st) g hs ds fun d hd => ⟨_, rfl, h d hd⟩
  unfold eComp
  rw [ha]
  simp [hl, this, noX]
theorem comp_filter {a el : Ex} {cd : ExB} {j : Nat} {ρ : Env} {st : Sto} {ds : List D} {src : Sto → Prop} (p : D → Bool) (g : D → D) (ha : iSeq a ρ st = .ok (ds, src) st) (hs : src st) (hl : ds.length ≤ 16777216) (h : ∀ d ∈ ds, cd ((ρ.set j none).set j (some d)) st = .ok (p d) st ∧ (p d = true → el ((ρ.set j none).set j (some d)) st = .ok (g d) st)) :
    eComp (iSeq a) [j] (gN j) cd el ρ st = .ok ((ds.filter p).map g) st := by
  have := compL_map (src := src) (tg := gN j) (cd := cd) (el := el) (ρ := ρ.set j none) (st := st) p g hs ds fun d hd => ⟨_, rfl, h d hd⟩
  unfold eComp
  rw [ha]
  simp [hl, this, noX]
theorem seq_tup {a : Ex} {ρ : Env} {st st' : Sto} {ds : List D} (h : a ρ st = .ok (.tuple ds) st') : iSeq a ρ st = .ok (ds, fun _ => True) st' := by simp [iSeq, h]
theorem seq_lst {a : Ex} {ρ : Env} {st st' : Sto} {ds : List D} (h : a ρ st = .ok (.list ds) st') : iSeq a ρ st = .ok (ds, fun _ => True) st' := by simp [iSeq, h]
theorem rng1_ok {n : Int} (h0 : 0 ≤ n) (h1 : n < 4611686018427387904) : rng1 [.int n] = some (rangeD 0 1 n.toNat) := by
  have : okR n := ⟨by omega, h1⟩
  simp [rng1, this]
theorem rng2_ok {a b : Int} (h0 : -4611686018427387904 ≤ a) (h1 : a < 4611686018427387904) (h2 : -4611686018427387904 ≤ b) (h3 : b < 4611686018427387904) : rng2 [.int a, .int b] = some (rangeD a 1 (b - a).toNat) := by
  have : okR a ∧ okR b := ⟨⟨h0, h1⟩, h2, h3⟩
  simp [rng2, this]
theorem rangeD_len (lo c : Int) (n : Nat) : (rangeD lo c n).length = n := by simp [rangeD]
theorem rangeD_get {lo c : Int} {n i : Nat} {d : D} (h : (rangeD lo c n)[i]? = some d) : i < n ∧ d = .int (lo + (i : Int) * c) := by
  obtain ⟨hl, e⟩ := List.getElem?_eq_some_iff.mp h
  rw [rangeD_len] at hl
  refine ⟨hl, ?_⟩
  rw [← e]
  simp [rangeD]
theorem rangeD_mem {lo c : Int} {n : Nat} {d : D} (h : d ∈ rangeD lo c n) : ∃ i, i < n ∧ d = .int (lo + (i : Int) * c) := by
  obtain ⟨i, hi⟩ := List.getElem?_of_mem h
  exact ⟨i, rangeD_get hi⟩
/-! ### all of a test -/
theorem all_bools {ds : List D} {p : D → Bool} {st : Sto} : allO [.list (ds.map fun d => .bool (p d))] st = some (.bool (ds.all p), st) := by
  have e : (ds.map fun d => PyData.bool (p d)) = (ds.map p).map PyData.bool := by simp
  unfold allO
  simp only [seqOf, listOf, Option.bind_some]
  rw [e, boolsOf_map]
  simp [List.all_map, Function.comp_def]
theorem plain_of {ds : List D} (h : PyData.plainAll ds = true) : ∀ d ∈ ds, d.plain = true := fun d hd => PySem.W.plain_mem h hd
theorem all_plain {ds : List D} (h : ∀ d ∈ ds, d.plain = true) : PyData.plainAll ds = true := by
  induction ds with
  | nil => rfl
  | cons d r ih => simp [PyData.plainAll, h d List.mem_cons_self, ih fun x hx => h x (List.mem_cons_of_mem _ hx)]
theorem plain_ints (ns : List Int) : PyData.plainAll (ns.map PyData.int) = true := all_plain fun d hd => by obtain ⟨n, _, rfl⟩ := List.mem_map.mp hd; rfl
theorem depth_ints (ns : List Int) : PyData.depthAll (ns.map PyData.int) = 0 := by
  induction ns with
  | nil => simp [PyData.depthAll]
  | cons n r ih => simp [PyData.depthAll, PyData.depth, ih]
theorem dv_tupI {ns : List Int} {st : Sto} : dv st (.tuple (ns.map PyData.int)) = some (.tuple (ns.map PyData.int)) := dv_self (by simp [PyData.plain, plain_ints]) (by simp [PyData.depth, depth_ints])
theorem dv_lstI {ns : List Int} {st : Sto} : dv st (.list (ns.map PyData.int)) = some (.list (ns.map PyData.int)) := dv_self (by simp [PyData.plain, plain_ints]) (by simp [PyData.depth, depth_ints])
theorem eqvAll_ints (a b : List Int) : PyData.eqvAll (a.map PyData.int) (b.map PyData.int) = decide (a = b) := by
  induction a generalizing b with
  | nil => cases b <;> simp [PyData.eqvAll]
  | cons x a ih =>
    cases b with
    | nil => simp [PyData.eqvAll]
    | cons y b => simp [PyData.eqvAll, ih]
theorem eqv_tupI (a b : List Int) : PyData.eqv (.tuple (a.map PyData.int)) (.tuple (b.map PyData.int)) = decide (a = b) := by simp [PyData.eqv, eqvAll_ints]
theorem eqO_tupI {a b : List Int} {st : Sto} : eqO (.tuple (a.map PyData.int)) (.tuple (b.map PyData.int)) st = some (.bool (decide (a = b)), st) := by simp [eqO, dv_tupI, eqv_tupI]
theorem neO_tupI {a b : List Int} {st : Sto} : neO (.tuple (a.map PyData.int)) (.tuple (b.map PyData.int)) st = some (.bool (!decide (a = b)), st) := by simp [neO, dv_tupI, eqv_tupI]
theorem lt_tupI (a b : List Int) : PySem.W.dataLt (.tuple (a.map PyData.int)) (.tuple (b.map PyData.int)) = decide (a < b) := by
  rw [PySem.W.dataLt_tuple]
  exact PySem.W.dataLt_ints a b
theorem alikeAll_ints : ∀ a b : List Int, PySem.W.alikeAll (a.map PyData.int) (b.map PyData.int) = true
  | [], [] => rfl
  | [], _ :: _ => rfl
  | _ :: _, [] => rfl
  | x :: a, y :: b => by simp [PySem.W.alikeAll, alikeAll_ints a b]
theorem alike_tupI (a b : List Int) : PySem.W.alike (.tuple (a.map PyData.int)) (.tuple (b.map PyData.int)) = true := by
  simp [PySem.W.alike, alikeAll_ints]
theorem gtO_tupI {a b : List Int} {st : Sto} : gtO (.tuple (a.map PyData.int)) (.tuple (b.map PyData.int)) st = some (.bool (decide (b < a)), st) := by simp [gtO, dv_tupI, lt_tupI, alike_tupI]
theorem ltO_tupI {a b : List Int} {st : Sto} : ltO (.tuple (a.map PyData.int)) (.tuple (b.map PyData.int)) st = some (.bool (decide (a < b)), st) := by simp [ltO, dv_tupI, lt_tupI, alike_tupI]
theorem lt3 {a b c a' b' c' : Int} : ([a, b, c] < [a', b', c']) ↔ (a < a' ∨ (a = a' ∧ (b < b' ∨ (b = b' ∧ c < c')))) := by
  simp [List.cons_lt_cons_iff]
theorem gtO_3 {a b c a' b' c' : Int} {st : Sto} : gtO (.tuple [.int a, .int b, .int c]) (.tuple [.int a', .int b', .int c']) st = some (.bool (decide (a' < a ∨ (a' = a ∧ (b' < b ∨ (b' = b ∧ c' < c))))), st) := by
  have := gtO_tupI (a := [a, b, c]) (b := [a', b', c']) (st := st)
  simpa only [List.map_cons, List.map_nil, lt3] using this
/-! ### slices -/
theorem cut_from (ds : List D) (k : Nat) : cutD ds (some (k : Int)) none = ds.drop k := by
  unfold cutD
  rw [HT.sIx_nat, HT.sIx_none]
  by_cases h : k ≤ ds.length
  · rw [Nat.min_eq_left h, List.take_of_length_le (by simp)]
  · rw [Nat.min_eq_right (by omega), List.drop_eq_nil_of_le (Nat.le_refl _), List.drop_eq_nil_of_le (by omega)]; simp
theorem cut_to (ds : List D) (k : Nat) : cutD ds none (some (k : Int)) = ds.take k := by
  unfold cutD
  rw [HT.sIx_nat, HT.sIx_none]
  simp only [List.drop_zero, Nat.sub_zero]
  by_cases h : k ≤ ds.length
  · rw [Nat.min_eq_left h]
  · rw [Nat.min_eq_right (by omega), List.take_of_length_le (Nat.le_refl _), List.take_of_length_le (by omega)]
/-! ### texts of data -/
theorem eqv_str (a b : Str) : PyData.eqv (.str a) (.str b) = (a == b) := rfl
theorem eqO_str {a b : Str} {st : Sto} : eqO (.str a) (.str b) st = some (.bool (a == b), st) := by simp [eqO, eqv_str]
theorem neO_str {a b : Str} {st : Sto} : neO (.str a) (.str b) st = some (.bool (!(a == b)), st) := by simp [neO, eqv_str]
theorem reprO_ok {d : D} {st : Sto} (h1 : d.plain = true) (h2 : d.depth < 40) (h3 : d.showable = true) (h4 : d.shown.length ≤ 16777216) : reprO [d] st = some (.str d.shown, st) := by simp [reprO, dv_self h1 h2, h3, h4]
theorem flat_one (n : Nat) (x : D) : (List.replicate n [x]).flatten = List.replicate n x := by
  induction n with
  | zero => rfl
  | succ n ih => rw [List.replicate_succ, List.flatten_cons, ih, List.replicate_succ]; rfl
theorem eRep_ok {a : ExL} {b : Ex} {ρ : Env} {st s1 s2 : Sto} {ds : List D} {n : Nat} (ha : a ρ st = .ok ds s1) (hb : b ρ s1 = .ok (.int (n : Int)) s2) (h1 : n ≤ 16777216) (h2 : ds.length * n ≤ 16777216) : eRep a b ρ st = .ok (List.replicate n ds).flatten s2 := by
  have h : ((n : Int) ≤ 16777216 ∧ (-16777216 : Int) ≤ n ∧ ds.length * (n : Int).toNat ≤ 16777216) := ⟨by omega, by omega, by simpa using h2⟩
  unfold eRep
  rw [ha]
  simp only [R.bind]
  rw [hb]
  simp only
  rw [if_pos h]
  simp
theorem eMut_ok {a : ExL} {ρ : Env} {st s1 : Sto} {ds : List D} (ha : a ρ st = .ok ds s1) : eMut a ρ st = .ok (D.loc s1.length) (s1 ++ [.lst ds]) := by
  unfold eMut
  rw [ha]
  rfl
theorem eComp_ok {it : ExI} {ks : List Nat} {tg : Tg} {cd : ExB} {el : Ex} {ρ : Env} {st s1 s2 : Sto} {ds ys : List D} {src : Sto → Prop} (hi : it ρ st = .ok (ds, src) s1) (hl : ds.length ≤ 16777216) (hc : compL src tg cd el ds (wp ks ρ) s1 = .ok ys s2) : eComp it ks tg cd el ρ st = .ok ys s2 := by
  unfold eComp
  rw [hi]
  simp only [R.bind]
  rw [if_pos hl, hc]
  rfl
theorem iRng_ok {f : List D → Option (List D)} {as : ExL} {ρ : Env} {st s1 : Sto} {ds l : List D} (ha : as ρ st = .ok ds s1) (hf : f ds = some l) : iRng f as ρ st = .ok (l, fun _ => True) s1 := by
  unfold iRng
  rw [ha]
  simp only [R.bind]
  rw [hf]
theorem sFor_ok {it : ExI} {ks : List Nat} {tg : Tg} {body : St'} {ρ : Env} {st s1 : Sto} {ds : List D} {src : Sto → Prop} {r : S} (hi : it ρ st = .ok (ds, src) s1) (h : forL src ks tg body ds (wp ks ρ) s1 = r) : sFor it ks tg body ρ st = r := by
  unfold sFor
  rw [hi]
  exact h
theorem sq {a b : St'} {ρ ρ' : Env} {st st' : Sto} (h : a ρ st = .nx ρ' st') : sSeq a b ρ st = b ρ' st' := by
  unfold sSeq
  rw [h]
  rfl
theorem ints_of {lo hi : Int} : ∀ ys : List D, (∀ y ∈ ys, ∃ v, y = PyData.int v ∧ lo ≤ v ∧ v ≤ hi) → ∃ T : List Int, ys = T.map PyData.int ∧ T.length = ys.length ∧ ∀ v ∈ T, lo ≤ v ∧ v ≤ hi
  | [], _ => ⟨[], rfl, rfl, fun v h => absurd h List.not_mem_nil⟩
  | y :: ys, h => by
    obtain ⟨v, rfl, h1, h2⟩ := h y List.mem_cons_self
    obtain ⟨T, e, l, h3⟩ := ints_of ys fun z hz => h z (List.mem_cons_of_mem _ hz)
    refine ⟨v :: T, by rw [e]; rfl, by simp [l], fun w hw => ?_⟩
    rcases List.mem_cons.mp hw with rfl | hw
    · exact ⟨h1, h2⟩
    · exact h3 w hw
/-- [.. take(box, ..) .. for k in range(n)]: n whole numbers between lo and hi -/
theorem draws_ok {it : ExI} {j : Nat} {el : Ex} {ρ : Env} {st : Sto} {n : Nat} {lo hi : Int} {o : Ob} {rest : Sto} (hi' : it ρ st = .ok (rangeD 0 1 n, fun _ => True) (o :: rest)) (hb : Bx o) (hn : n ≤ 1000)
    (h : ∀ (k : Nat) o, k < n → Bx o → ∃ v o', el ((ρ.set j none).set j (some (.int (k : Int)))) (o :: rest) = .ok (.int v) (o' :: rest) ∧ lo ≤ v ∧ v ≤ hi ∧ Bx o') :
    ∃ (T : List Int) (o' : Ob), eComp it [j] (gN j) bYes el ρ st = .ok (T.map PyData.int) (o' :: rest) ∧ T.length = n ∧ (∀ v ∈ T, lo ≤ v ∧ v ≤ hi) ∧ Bx o' := by
  obtain ⟨ys, st', e, l, q, o', rfl, hb'⟩ := compL_some (src := fun _ => True) (tg := gN j) (el := el) (ρ := ρ.set j none) (fun st => ∃ o, st = o :: rest ∧ Bx o) (fun y => ∃ v, y = PyData.int v ∧ lo ≤ v ∧ v ≤ hi) (fun _ _ => True.intro) (rangeD 0 1 n) (o :: rest) ⟨o, rfl, hb⟩ fun d hd st hJ => by
    obtain ⟨k, hk, rfl⟩ := rangeD_mem hd
    obtain ⟨o, rfl, hb⟩ := hJ
    obtain ⟨v, o', e, h1, h2, hb'⟩ := h k o hk hb
    refine ⟨_, .int v, o' :: rest, rfl, ?_, ⟨v, rfl, h1, h2⟩, o', rfl, hb'⟩
    have c : (0 : Int) + (k : Int) * 1 = (k : Int) := by omega
    rw [c]
    exact e
  obtain ⟨T, rfl, lT, hT⟩ := ints_of ys q
  rw [rangeD_len] at l
  exact ⟨T, o', eComp_ok hi' (by rw [rangeD_len]; omega) e, by rw [lT, l], hT, hb'⟩
/-! ### comprehensions over whole numbers -/
def onI {α : Type} [Inhabited α] (g : Int → α) : D → α
  | .int v => g v
  | _ => default
theorem onI_map {α : Type} [Inhabited α] (g : Int → α) (T : List Int) : (T.map PyData.int).map (onI g) = T.map g := by
  rw [List.map_map]
  exact List.map_congr_left fun v _ => rfl
theorem onI_filter (p : Int → Bool) (T : List Int) : (T.map PyData.int).filter (onI p) = (T.filter p).map PyData.int := by
  rw [List.filter_map]
  rfl
instance : Inhabited D := ⟨.none⟩
/-- [g(v) for v in T if p(v)] -/
theorem comp_ints {a el : Ex} {cd : ExB} {j : Nat} {ρ : Env} {st : Sto} {T : List Int} {src : Sto → Prop} (p : Int → Bool) (g : Int → D) (ha : iSeq a ρ st = .ok (T.map PyData.int, src) st) (hs : src st) (hl : T.length ≤ 16777216)
    (h : ∀ v ∈ T, cd ((ρ.set j none).set j (some (.int v))) st = .ok (p v) st ∧ (p v = true → el ((ρ.set j none).set j (some (.int v))) st = .ok (g v) st)) :
    eComp (iSeq a) [j] (gN j) cd el ρ st = .ok ((T.filter p).map g) st := by
  have e := comp_filter (cd := cd) (el := el) (j := j) (onI p) (onI g) ha hs (by simpa using hl) fun d hd => by
    obtain ⟨v, hv, rfl⟩ := List.mem_map.mp hd
    exact h v hv
  rw [e, onI_filter, onI_map]
/-- [g(v) for v in T] -/
theorem comp_intsA {a el : Ex} {j : Nat} {ρ : Env} {st : Sto} {T : List Int} {src : Sto → Prop} (g : Int → D) (ha : iSeq a ρ st = .ok (T.map PyData.int, src) st) (hs : src st) (hl : T.length ≤ 16777216)
    (h : ∀ v ∈ T, el ((ρ.set j none).set j (some (.int v))) st = .ok (g v) st) : eComp (iSeq a) [j] (gN j) bYes el ρ st = .ok (T.map g) st := by
  have e := comp_map (el := el) (j := j) (onI g) ha hs (by simpa using hl) fun d hd => by
    obtain ⟨v, hv, rfl⟩ := List.mem_map.mp hd
    exact h v hv
  rw [e, onI_map]
end Fl
/-! Fm4: how long a datum's text may be. -/
namespace Fl
open PySem PySem.Spec PyProof.Rows L2
mutual
/-- whole numbers below 10^k in nests -/
def smal (k : Nat) : D → Bool
  | .none => true
  | .bool _ => true
  | .int i => decide (i.natAbs < 10 ^ k)
  | .tuple ds => smalL k ds
  | .list ds => smalL k ds
  | .str z => decide ((reprText z).length ≤ k + 1)
  | .dict _ => false
def smalL (k : Nat) : List D → Bool
  | [] => true
  | d :: ds => smal k d && smalL k ds
end
mutual
def wt (k : Nat) : D → Nat
  | .none => 4
  | .bool _ => 5
  | .int _ => k + 1
  | .tuple ds => wtL k ds + 4
  | .list ds => wtL k ds + 4
  | .str _ => k + 1
  | .dict _ => 0
def wtL (k : Nat) : List D → Nat
  | [] => 0
  | d :: ds => wt k d + 2 + wtL k ds
end
theorem textFrom_le : ∀ (ts : List Str) (k : Nat) (acc : Str), (textFrom k acc ts).length ≤ acc.length + piled ts
  | [], k, acc => by simp [textFrom]
  | t :: r, k, acc => by
    have h := textFrom_le r (k + 1) (acc ++ (if k > 0 then ", " else "" : String) ++ t)
    have e : ((if k > 0 then ", " else "" : String) : Str).length ≤ 2 := by split <;> decide +kernel
    rw [strLen_append, strLen_append] at h
    simp only [piled, List.map_cons, List.sum_cons] at *
    simp only [textFrom]
    omega
mutual
theorem shown_le {k : Nat} (hk : 4 ≤ k) : ∀ d : D, smal k d = true → d.shown.length ≤ wt k d
  | .none, _ => by simp only [wt, PyData.shown]; decide +kernel
  | .bool b, _ => by simp only [wt, PyData.shown]; cases b <;> decide +kernel
  | .int i, h => by
    simp only [smal, decide_eq_true_eq] at h
    simp only [wt, PyData.shown]
    rw [PySem.ofString_length]
    exact int_text_length_le10 (by omega) h
  | .tuple ds, h => by
    simp only [smal] at h
    have h1 := shownL_le hk ds h
    have h2 := fmt_text (PyData.shownAll ds)
    simp only [wt, PyData.shown]
    omega
  | .list ds, h => by
    simp only [smal] at h
    have h1 := shownL_le hk ds h
    have h2 := textFrom_le (PyData.shownAll ds) 0 "["
    have e : (("[" : String) : Str).length = 1 := rfl
    have e2 : (("]" : String) : Str).length = 1 := rfl
    simp only [wt, PyData.shown, listText]
    rw [strLen_append, e2]
    omega
  | .str z, h => by simp only [smal, decide_eq_true_eq] at h; simp only [wt, PyData.shown]; exact h
  | .dict _, h => by simp [smal] at h
theorem shownL_le {k : Nat} (hk : 4 ≤ k) : ∀ ds : List D, smalL k ds = true → piled (PyData.shownAll ds) ≤ wtL k ds
  | [], _ => by simp [PyData.shownAll, piled, wtL]
  | d :: ds, h => by
    simp only [smalL, Bool.and_eq_true] at h
    have h1 := shown_le hk d h.1
    have h2 := shownL_le hk ds h.2
    simp only [PyData.shownAll, piled, wtL, List.map_cons, List.sum_cons] at *
    omega
end
mutual
theorem smal_plain {k : Nat} : ∀ d : D, smal k d = true → d.plain = true
  | .none, _ => rfl
  | .bool _, _ => rfl
  | .int _, _ => rfl
  | .tuple ds, h => by simp only [smal] at h; simp only [PyData.plain]; exact smalL_plain ds h
  | .list ds, h => by simp only [smal] at h; simp only [PyData.plain]; exact smalL_plain ds h
  | .str _, _ => rfl
  | .dict _, h => by simp [smal] at h
theorem smalL_plain {k : Nat} : ∀ ds : List D, smalL k ds = true → PyData.plainAll ds = true
  | [], _ => rfl
  | x :: ds, h => by
    simp only [smalL, Bool.and_eq_true] at h
    simp [PyData.plainAll, smal_plain x h.1, smalL_plain ds h.2]
end
theorem pow_line {k : Nat} (hk : k ≤ 200) : 10 ^ k ≤ 2 ^ 1920 := by
  have h1 : (10 : Nat) ^ k ≤ 10 ^ 200 := Nat.pow_le_pow_right (by omega) hk
  have h2 : (10 : Nat) ^ 200 ≤ 2 ^ 1920 := by decide +kernel
  omega
mutual
theorem smal_shows {k : Nat} (hk : k ≤ 200) : ∀ d : D, smal k d = true → d.showable = true
  | .none, _ => rfl
  | .bool _, _ => rfl
  | .int i, h => by
    simp only [smal, decide_eq_true_eq] at h
    simp only [PyData.showable, decide_eq_true_eq]
    exact log2_lt (Nat.lt_of_lt_of_le h (pow_line hk)) (by omega)
  | .tuple ds, h => by simp only [smal] at h; simp only [PyData.showable]; exact smalL_shows hk ds h
  | .list ds, h => by simp only [smal] at h; simp only [PyData.showable]; exact smalL_shows hk ds h
  | .str _, _ => rfl
  | .dict _, h => by simp [smal] at h
theorem smalL_shows {k : Nat} (hk : k ≤ 200) : ∀ ds : List D, smalL k ds = true → PyData.showableAll ds = true
  | [], _ => rfl
  | x :: ds, h => by
    simp only [smalL, Bool.and_eq_true] at h
    simp [PyData.showableAll, smal_shows hk x h.1, smalL_shows hk ds h.2]
end
/-- repr of a datum of small numbers -/
theorem repr_smal {k : Nat} {d : D} {st : Sto} (h : smal k d = true) (h1 : 4 ≤ k) (h2 : k ≤ 200) (hd : d.depth < 40) (hw : wt k d ≤ 16777216) : reprO [d] st = some (.str d.shown, st) :=
  reprO_ok (smal_plain d h) hd (smal_shows h2 d h) (Nat.le_trans (shown_le h1 d h) hw)
theorem smalL_ints {k : Nat} {ns : List Int} (h : ∀ n ∈ ns, n.natAbs < 10 ^ k) : smalL k (ns.map PyData.int) = true := by
  induction ns with
  | nil => rfl
  | cons n r ih => simp [smalL, smal, h n List.mem_cons_self]; exact ih fun x hx => h x (List.mem_cons_of_mem _ hx)
theorem wtL_ints {k : Nat} (ns : List Int) : wtL k (ns.map PyData.int) = ns.length * (k + 3) := by
  induction ns with
  | nil => simp [wtL]
  | cons n r ih => simp only [List.map_cons, wtL, wt, ih, List.length_cons, Nat.succ_mul]; omega
end Fl
/-! Fm5: data at random, and data bent a little, as some of the laws make them. -/
namespace Fl
open PySem PySem.Spec PyProof.Rows L2
noncomputable def F_says : List D → Sto → R D := fnF 2 (sRet (eAnd (eOr (eB isO (eV 0) (eC (.bool true))) (eB isO (eV 0) (eC (.bool false)))) (eB eqO (eV 0) (eV 1))))
theorem eqO_bool {a b : Bool} {st : Sto} : eqO (.bool a) (.bool b) st = some (.bool (a == b), st) := by simp [eqO, PyData.eqv]
theorem says_ok (a b : Bool) (st : Sto) : F_says [.bool a, .bool b] st = .ok (.bool (a == b)) st := by
  unfold F_says fnF
  cases a <;> simp [isO, eqO_bool]
noncomputable def C_odd (F_odd : List D → Sto → R D) : ExL := (eComp (iRng rng1 (eCons (eCall 2 F_take (eCons (eV 0) (eCons (eC (.int 4)) eNil))) eNil)) [3] (gN 3) bYes (eCall 2 F_odd (eCons (eV 0) (eCons (eB subO (eV 1) (eC (.int 1))) eNil))))
noncomputable def G_odd (F_odd : List D → Sto → R D) : St' := sSeq (sAsg (eCall 2 F_take (eCons (eV 0) (eCons (eIf (bVal (eB gtO (eV 1) (eC (.int 0)))) (eC (.int 8)) (eC (.int 6))) eNil))) (gN 2))
  (sSeq (sIf (bVal (eB eqO (eV 2) (eC (.int 0)))) (sRet (eCall 2 F_pick (eCons (eV 0) (eCons (eFrz (eDisp (eCons (eC .none) (eCons (eC (.bool true)) (eCons (eC (.bool false)) (eCons (eC (.str "")) (eCons (eC (.str "1")) (eCons (eC (.str "none")) eNil)))))))) eNil)))) sNx)
  (sSeq (sIf (bVal (eB ltO (eV 2) (eC (.int 6)))) (sRet (eB subO (eCall 2 F_take (eCons (eV 0) (eCons (eC (.int 9)) eNil))) (eC (.int 2)))) sNx) (sRet (eFn tupO (eCons (eFrz (C_odd F_odd)) eNil)))))
noncomputable def F_odd : Nat → List D → Sto → R D
  | 0 => fun _ _ => .bad
  | n + 1 => fnF 4 (G_odd (F_odd n))
/-- small data of a small text -/
def Sm (w e : Nat) (d : D) : Prop := smal 6 d = true ∧ wt 6 d ≤ w ∧ d.depth ≤ e
theorem Sm.mono {w w' e e' : Nat} {d : D} (h : Sm w e d) (h1 : w ≤ w') (h2 : e ≤ e') : Sm w' e' d := ⟨h.1, Nat.le_trans h.2.1 h1, Nat.le_trans h.2.2 h2⟩
theorem Sm.plain {w e : Nat} {d : D} (h : Sm w e d) : d.plain = true := smal_plain d h.1
theorem Sm.int {i : Int} (h : i.natAbs < 10 ^ 6) : Sm 7 0 (.int i) := ⟨by simp [smal, h], by simp [wt], by simp [PyData.depth]⟩
theorem smL_of {w e : Nat} : ∀ {ds : List D}, (∀ d ∈ ds, Sm w e d) → smalL 6 ds = true ∧ wtL 6 ds ≤ ds.length * (w + 2) ∧ PyData.depthAll ds ≤ e
  | [], _ => ⟨rfl, by simp [wtL], by simp [PyData.depthAll]⟩
  | d :: ds, h => by
    obtain ⟨h1, h2, h3⟩ := h d List.mem_cons_self
    obtain ⟨q1, q2, q3⟩ := smL_of fun x hx => h x (List.mem_cons_of_mem _ hx)
    refine ⟨by simp [smalL, h1, q1], ?_, by simp only [PyData.depthAll]; omega⟩
    simp only [wtL, List.length_cons, Nat.succ_mul]
    omega
theorem Sm.tup {w e : Nat} {ds : List D} (h : ∀ d ∈ ds, Sm w e d) : Sm (ds.length * (w + 2) + 4) (e + 1) (.tuple ds) := by
  obtain ⟨h1, h2, h3⟩ := smL_of h
  exact ⟨by simp only [smal]; exact h1, by simp only [wt]; omega, by simp only [PyData.depth]; omega⟩
theorem odd0_menu : ∀ d ∈ [PyData.none, .bool true, .bool false, .str "", .str "1", .str "none"], Sm 7 0 d := by
  intro d hd
  simp only [List.mem_cons, List.not_mem_nil, or_false] at hd
  rcases hd with rfl | rfl | rfl | rfl | rfl | rfl
  · exact ⟨rfl, by decide, by decide⟩
  · exact ⟨rfl, by decide, by decide⟩
  · exact ⟨rfl, by decide, by decide⟩
  · exact ⟨by simp only [smal]; decide +kernel, by simp [wt], by simp [PyData.depth]⟩
  · exact ⟨by simp only [smal]; decide +kernel, by simp [wt], by simp [PyData.depth]⟩
  · exact ⟨by simp only [smal]; decide +kernel, by simp [wt], by simp [PyData.depth]⟩
/-- the weight of what odd makes at a depth -/
def oddW : Nat → Nat
  | 0 => 7
  | n + 1 => 3 * (oddW n + 2) + 4
theorem oddW_7 : ∀ n, 7 ≤ oddW n
  | 0 => Nat.le_refl _
  | n + 1 => by have := oddW_7 n; simp only [oddW]; omega
theorem odd_ok : ∀ (dep n : Nat) {o : Ob} (rest : Sto), dep < n → dep ≤ 3 → Bx o → ∃ d o', F_odd n [D.loc 0, .int (dep : Int)] (o :: rest) = .ok d (o' :: rest) ∧ Sm (oddW dep) dep d ∧ Bx o' := by
  intro dep
  induction dep with
  | zero =>
    intro n o rest hn _ hb
    obtain ⟨m, rfl⟩ : ∃ m, n = m + 1 := ⟨n - 1, by omega⟩
    obtain ⟨t, o1, e1, t0, t1, b1⟩ := take_ok (m := 6) (by omega) (by omega) rest hb
    by_cases h0 : t = 0
    · obtain ⟨i, d, o2, e2, hd, b2⟩ := pick_ok (ds := [PyData.none, .bool true, .bool false, .str "", .str "1", .str "none"]) (by simp) (by simp) rest b1
      refine ⟨d, o2, ?_, odd0_menu d (List.mem_of_getElem? hd), b2⟩
      subst h0
      simp only [F_odd, fnF, G_odd]
      simp [e1, e2]
    · obtain ⟨v, o2, e2, v0, v1, b2⟩ := take_ok (m := 9) (by omega) (by omega) rest b1
      have h6 : t < 6 := t1
      refine ⟨.int (v - 2), o2, ?_, Sm.int (by omega), b2⟩
      simp only [F_odd, fnF, G_odd]
      simp [e1, e2, h0, h6]
  | succ dep ih =>
    intro n o rest hn hd3 hb
    obtain ⟨m, rfl⟩ : ∃ m, n = m + 1 := ⟨n - 1, by omega⟩
    obtain ⟨t, o1, e1, t0, t1, b1⟩ := take_ok (m := 8) (by omega) (by omega) rest hb
    have hpos : (0 : Int) < (dep : Int) + 1 := by omega
    by_cases h0 : t = 0
    · obtain ⟨i, d, o2, e2, hd, b2⟩ := pick_ok (ds := [PyData.none, .bool true, .bool false, .str "", .str "1", .str "none"]) (by simp) (by simp) rest b1
      refine ⟨d, o2, ?_, (odd0_menu d (List.mem_of_getElem? hd)).mono (oddW_7 _) (by omega), b2⟩
      subst h0
      simp only [F_odd, fnF, G_odd]
      simp [e1, e2, hpos]
    · by_cases h6 : t < 6
      · obtain ⟨v, o2, e2, v0, v1, b2⟩ := take_ok (m := 9) (by omega) (by omega) rest b1
        refine ⟨.int (v - 2), o2, ?_, (Sm.int (by omega)).mono (oddW_7 _) (by omega), b2⟩
        simp only [F_odd, fnF, G_odd]
        simp [e1, e2, h0, h6, hpos]
      · obtain ⟨k, o2, e2, k0, k1, b2⟩ := take_ok (m := 4) (by omega) (by omega) rest b1
        have hr : rng1 [.int k] = some (rangeD 0 1 k.toNat) := rng1_ok k0 (by omega)
        have hi : iRng rng1 (eCons (eCall 2 F_take (eCons (eV 0) (eCons (eC (.int 4)) eNil))) eNil) [some (D.loc 0), some (.int ((dep : Int) + 1)), some (.int t), none] (o1 :: rest) = .ok (rangeD 0 1 k.toNat, fun _ => True) (o2 :: rest) := iRng_ok (ds := [.int k]) (by simp [e2]) hr
        obtain ⟨ys, st', e3, l3, q3, o3, rfl, b3⟩ := compL_some (src := fun _ => True) (tg := gN 3) (el := eCall 2 (F_odd m) (eCons (eV 0) (eCons (eB subO (eV 1) (eC (.int 1))) eNil))) (ρ := wp [3] [some (D.loc 0), some (.int ((dep : Int) + 1)), some (.int t), none]) (fun st => ∃ o, st = o :: rest ∧ Bx o) (fun y => Sm (oddW dep) dep y) (fun _ _ => True.intro) (rangeD 0 1 k.toNat) (o2 :: rest) ⟨o2, rfl, b2⟩ fun d hd st hJ => by
          obtain ⟨o, rfl, hb⟩ := hJ
          obtain ⟨y, o', e, hs, hb'⟩ := ih m rest (by omega) (by omega) hb
          have c : (dep : Int) + 1 - 1 = dep := by omega
          exact ⟨_, y, o' :: rest, rfl, by simp [c, e], hs, o', rfl, hb'⟩
        rw [rangeD_len] at l3
        have hc := eComp_ok (ks := [3]) hi (by rw [rangeD_len]; omega) e3
        refine ⟨.tuple ys, o3, ?_, (Sm.tup q3).mono ?_ (Nat.le_refl _), b3⟩
        · simp only [F_odd, fnF, G_odd, C_odd]
          simp [e1, h0, h6, hpos, hc]
        · have : ys.length ≤ 3 := by omega
          have := Nat.mul_le_mul_right (oddW dep + 2) this
          simp only [oddW]; omega
/-! ### bent data -/
noncomputable def G_bent (F_bent : List D → Sto → R D) : St' := sSeq (sIf (bAnd (bTru (eCall 1 F_isnum (eCons (eV 1) eNil))) (bVal (eB gtO (eCall 2 F_take (eCons (eV 0) (eCons (eC (.int 3)) eNil))) (eC (.int 0))))) (sRet (eCall 2 F_pick (eCons (eV 0) (eCons (eFrz (eDisp (eCons (eB addO (eV 1) (eC (.int 1))) (eCons (eB subO (eV 1) (eC (.int 1))) (eCons (eC (.int 0)) (eCons (eC (.int 1)) eNil)))))) eNil)))) sNx)
  (sSeq (sIf (bOr (bNot (bTru (eU (isiO "tuple") (eV 1)))) (bOr (bVal (eB eqO (eV 1) (eTup eNil))) (bVal (eB eqO (eCall 2 F_take (eCons (eV 0) (eCons (eC (.int 8)) eNil))) (eC (.int 7)))))) (sRet (eCall 2 (F_odd 40) (eCons (eV 0) (eCons (eC (.int 2)) eNil)))) sNx)
  (sSeq (ePair (eCons (eCall 2 F_take (eCons (eV 0) (eCons (eFn lenO (eCons (eV 1) eNil)) eNil))) (eCons (eCall 2 F_take (eCons (eV 0) (eCons (eC (.int 6)) eNil))) eNil)) 2 3)
  (sSeq (sIf (bVal (eB eqO (eV 3) (eC (.int 0)))) (sRet (eB addO (eCut (eV 1) oNone (oSome (eV 2))) (eCut (eV 1) (oSome (eB addO (eV 2) (eC (.int 1)))) oNone))) sNx)
  (sSeq (sIf (bVal (eB eqO (eV 3) (eC (.int 1)))) (sRet (eB addO (eCut (eV 1) oNone (oSome (eB addO (eV 2) (eC (.int 1))))) (eCut (eV 1) (oSome (eV 2)) oNone))) sNx)
  (sRet (eB addO (eB addO (eCut (eV 1) oNone (oSome (eV 2))) (eTup (eCons (eCall 2 F_bent (eCons (eV 0) (eCons (eB ixO (eV 1) (eV 2)) eNil))) eNil))) (eCut (eV 1) (oSome (eB addO (eV 2) (eC (.int 1)))) oNone)))))))
noncomputable def F_bent : Nat → List D → Sto → R D
  | 0 => fun _ _ => .bad
  | n + 1 => fnF 4 (G_bent (F_bent n))
/-- what is bent: data of numbers below 10^4 -/
def In (w e : Nat) (d : D) : Prop := smal 4 d = true ∧ wt 6 d ≤ w ∧ d.depth ≤ e
mutual
theorem smal_up : ∀ d : D, smal 4 d = true → smal 6 d = true
  | .none, _ => rfl
  | .bool _, _ => rfl
  | .int i, h => by simp only [smal, decide_eq_true_eq] at h ⊢; omega
  | .str z, h => by simp only [smal, decide_eq_true_eq] at h ⊢; omega
  | .tuple ds, h => by simp only [smal] at h ⊢; exact smalL_up ds h
  | .list ds, h => by simp only [smal] at h ⊢; exact smalL_up ds h
  | .dict _, h => by simp [smal] at h
theorem smalL_up : ∀ ds : List D, smalL 4 ds = true → smalL 6 ds = true
  | [], _ => rfl
  | d :: ds, h => by
    simp only [smalL, Bool.and_eq_true] at h ⊢
    exact ⟨smal_up d h.1, smalL_up ds h.2⟩
end
theorem In.sm {w e : Nat} {d : D} (h : In w e d) : Sm w e d := ⟨smal_up d h.1, h.2.1, h.2.2⟩
theorem wtL_append (a b : List D) : wtL 6 (a ++ b) = wtL 6 a + wtL 6 b := by
  induction a with
  | nil => simp [wtL]
  | cons d a ih => simp only [List.cons_append, wtL, ih]; omega
theorem smalL_append {k : Nat} (a b : List D) : smalL k (a ++ b) = (smalL k a && smalL k b) := by
  induction a with
  | nil => simp [smalL]
  | cons d a ih => simp only [List.cons_append, smalL, ih, Bool.and_assoc]
theorem depthAll_append (a b : List D) : PyData.depthAll (a ++ b) = max (PyData.depthAll a) (PyData.depthAll b) := by
  induction a with
  | nil => simp [PyData.depthAll]
  | cons d a ih => simp only [List.cons_append, PyData.depthAll, ih]; omega
theorem wtL_len (ds : List D) : 2 * ds.length ≤ wtL 6 ds := by
  induction ds with
  | nil => simp
  | cons d ds ih => simp only [wtL, List.length_cons]; omega
/-- a list of data, told all at once -/
def SmL (w e : Nat) (ds : List D) : Prop := smalL 6 ds = true ∧ wtL 6 ds ≤ w ∧ PyData.depthAll ds ≤ e
theorem SmL.app {w w' e : Nat} {a b : List D} (h1 : SmL w e a) (h2 : SmL w' e b) : SmL (w + w') e (a ++ b) := by
  refine ⟨by rw [smalL_append, h1.1, h2.1]; rfl, by rw [wtL_append]; have := h1.2.1; have := h2.2.1; omega, by rw [depthAll_append]; have := h1.2.2; have := h2.2.2; omega⟩
theorem SmL.tup {w e : Nat} {a : List D} (h : SmL w e a) : Sm (w + 4) (e + 1) (.tuple a) := by
  refine ⟨by simp only [smal]; exact h.1, by simp only [wt]; have := h.2.1; omega, by simp only [PyData.depth]; have := h.2.2; omega⟩
theorem SmL.parts {w e : Nat} {a b : List D} (h : SmL w e (a ++ b)) : SmL (wtL 6 a) e a ∧ SmL (wtL 6 b) e b := by
  obtain ⟨h1, h2, h3⟩ := h
  rw [smalL_append, Bool.and_eq_true] at h1
  rw [depthAll_append] at h3
  exact ⟨⟨h1.1, Nat.le_refl _, by omega⟩, h1.2, Nat.le_refl _, by omega⟩
theorem SmL.mono {w w' e e' : Nat} {a : List D} (h : SmL w e a) (h1 : w ≤ w') (h2 : e ≤ e') : SmL w' e' a := ⟨h.1, Nat.le_trans h.2.1 h1, Nat.le_trans h.2.2 h2⟩
theorem SmL.one {w e : Nat} {d : D} (h : Sm w e d) : SmL (w + 2) e [d] := ⟨by simp only [smalL, h.1, Bool.and_true], by simp only [wtL]; have := h.2.1; omega, by simp only [PyData.depthAll]; have := h.2.2; omega⟩
def isTup : D → Bool
  | .tuple _ => true
  | _ => false
theorem isi_tup {d : D} (h : d.plain = true) (st : Sto) : isiO "tuple" d st = some (.bool (isTup d), st) := by
  cases d <;> simp [isiO, tyN, isa, isTup, PyData.plain] at h ⊢
theorem eq_nil {ds : List D} (h : (PyData.tuple ds).plain = true) (hd : (PyData.tuple ds).depth < 40) (st : Sto) : eqO (.tuple ds) (.tuple []) st = some (.bool ds.isEmpty, st) := by
  have e : dv st (.tuple []) = some (.tuple []) := rfl
  cases ds <;> simp [eqO, dv_self h hd, e, PyData.eqv, PyData.eqvAll]
theorem cut_tup {ds : List D} {lo hi : Option Int} {ρ : Env} {st : Sto} {a : Ex} {Lo Hi : ExO} (ha : a ρ st = .ok (.tuple ds) st) (hl : Lo ρ st = .ok lo st) (hh : Hi ρ st = .ok hi st) : eCut a Lo Hi ρ st = .ok (.tuple (cutD ds lo hi)) st := by
  unfold eCut
  rw [ha]
  simp only [R.bind]
  rw [hl]
  simp only
  rw [hh]
  rfl
theorem add_tup {a b : List D} {st : Sto} (h : a.length + b.length ≤ 16777216) : addO (.tuple a) (.tuple b) st = some (.tuple (a ++ b), st) := by simp [addO, h]
theorem odd2_ok {o : Ob} (rest : Sto) (hb : Bx o) : ∃ d o', F_odd 40 [D.loc 0, .int 2] (o :: rest) = .ok d (o' :: rest) ∧ Sm 109 2 d ∧ Bx o' := by
  obtain ⟨d, o', e, h, b⟩ := odd_ok 2 40 rest (by omega) (by omega) hb
  exact ⟨d, o', e, h.mono (by decide) (by omega), b⟩
theorem bent_ok : ∀ (n : Nat) (d : D) (w e : Nat) {o : Ob} (rest : Sto), e < n → e ≤ 20 → w ≤ 1000000 → In w e d → Bx o → ∃ d' o', F_bent n [D.loc 0, d] (o :: rest) = .ok d' (o' :: rest) ∧ Sm (2 * w + 109) (e + 2) d' ∧ Bx o' := by
  intro n
  induction n with
  | zero => intro d w e o rest h; omega
  | succ n ih =>
    intro d w e o rest hn he hw hd hb
    have hp := hd.sm.plain
    have q1 : ∀ st, F_isnum [d] st = .ok (.bool (isNum d)) st := fun st => isnum_ok hp st
    have q2 := isi_tup hp
    have wide : ∀ {w1 e1 : Nat} {d' : D}, Sm w1 e1 d' → w1 ≤ 109 → e1 ≤ 2 → Sm (2 * w + 109) (e + 2) d' := fun h h1 h2 => h.mono (by omega) (by omega)
    -- odd data in its place
    have odds : ∀ {o : Ob}, Bx o → ∃ d o', F_odd 40 [D.loc 0, .int 2] (o :: rest) = .ok d (o' :: rest) ∧ Sm (2 * w + 109) (e + 2) d ∧ Bx o' := fun hb => by
      obtain ⟨d, o', e1, h, b⟩ := odd2_ok rest hb
      exact ⟨d, o', e1, wide h (by omega) (by omega), b⟩
    cases hi : isNum d with
    | true =>
      cases d with
      | int z =>
        have hz : z.natAbs < 10 ^ 4 := by have := hd.1; simpa [smal] using this
        obtain ⟨t, o1, e1, t0, t1, b1⟩ := take_ok (m := 3) (by omega) (by omega) rest hb
        by_cases ht : 0 < t
        · obtain ⟨i, y, o2, e2, hy, b2⟩ := pick_ok (ds := [PyData.int (z + 1), .int (z - 1), .int 0, .int 1]) (by simp) (by simp) rest b1
          refine ⟨y, o2, ?_, ?_, b2⟩
          · simp only [F_bent, fnF, G_bent]
            simp [q1, hi, bTru, truD, e1, ht, e2]
          · have hm := List.mem_of_getElem? hy
            simp only [List.mem_cons, List.not_mem_nil, or_false] at hm
            rcases hm with rfl | rfl | rfl | rfl <;> exact wide (Sm.int (by omega)) (by omega) (by omega)
        · obtain ⟨y, o2, e2, h2, b2⟩ := odds b1
          refine ⟨y, o2, ?_, h2, b2⟩
          simp only [F_bent, fnF, G_bent]
          simp [q1, hi, bTru, truD, e1, ht, q2, isTup, e2]
      | _ => simp [isNum] at hi
    | false =>
      cases ht : isTup d with
      | false =>
        obtain ⟨y, o2, e2, h2, b2⟩ := odds hb
        refine ⟨y, o2, ?_, h2, b2⟩
        simp only [F_bent, fnF, G_bent]
        simp [q1, hi, bTru, truD, q2, ht, e2]
      | true =>
        cases d with
        | tuple ds =>
          have hdep := hd.2.2
          have hemp := eq_nil hp (by omega)
          by_cases h0 : ds = []
          · obtain ⟨y, o2, e2, h2, b2⟩ := odds hb
            refine ⟨y, o2, ?_, h2, b2⟩
            subst h0
            simp only [F_bent, fnF, G_bent]
            simp [q1, hi, bTru, truD, q2, isTup, hemp, e2]
          · have h0' : ds.isEmpty = false := by cases ds with | nil => exact absurd rfl h0 | cons => rfl
            obtain ⟨t, o1, e1, t0, t1, b1⟩ := take_ok (m := 8) (by omega) (by omega) rest hb
            by_cases h7 : t = 7
            · obtain ⟨y, o2, e2, h2, b2⟩ := odds b1
              refine ⟨y, o2, ?_, h2, b2⟩
              simp only [F_bent, fnF, G_bent]
              simp [q1, hi, bTru, truD, q2, isTup, hemp, h0, e1, h7, e2]
            · have hlen : 0 < ds.length := List.length_pos_iff.mpr h0
              have hww := hd.2.1
              simp only [wt] at hww
              have hwl := wtL_len ds
              obtain ⟨a, o2, e2, a0, a1, b2⟩ := take_ok (m := (ds.length : Int)) (by omega) (by omega) rest b1
              obtain ⟨s, o3, e3, s0, s1, b3⟩ := take_ok (m := 6) (by omega) (by omega) rest b2
              -- the parts
              obtain ⟨k, rfl⟩ : ∃ k : Nat, a = k := ⟨a.toNat, by omega⟩
              have hk : k < ds.length := by omega
              have hde : PyData.depthAll ds + 1 ≤ e := by simpa [PyData.depth, Nat.add_comm] using hdep
              have hall : SmL (wtL 6 ds) (e - 1) ds := ⟨by have := hd.sm.1; simpa [smal] using this, Nat.le_refl _, by omega⟩
              have hsplit : ds = ds.take k ++ (ds[k] :: ds.drop (k + 1)) := by rw [← List.drop_eq_getElem_cons hk, List.take_append_drop]
              have hw3 : wtL 6 ds = wtL 6 (ds.take k) + (wt 6 ds[k] + 2 + wtL 6 (ds.drop (k + 1))) := by
                conv => lhs; rw [hsplit]
                rw [wtL_append]; rfl
              obtain ⟨pa, pb⟩ := SmL.parts (w := wtL 6 ds) (e := e - 1) (a := ds.take k) (b := ds[k] :: ds.drop (k + 1)) (by rw [← hsplit]; exact hall)
              obtain ⟨pc, pd⟩ := SmL.parts (a := [ds[k]]) (b := ds.drop (k + 1)) pb
              have pda : SmL (wt 6 ds[k] + 2 + wtL 6 (ds.drop (k + 1))) (e - 1) (ds.drop k) := by rw [List.drop_eq_getElem_cons hk]; exact pb.mono (Nat.le_refl _) (Nat.le_refl _)
              have pta : SmL (wtL 6 (ds.take k) + (wt 6 ds[k] + 2)) (e - 1) (ds.take (k + 1)) := by
                rw [List.take_add_one, List.getElem?_eq_getElem hk]
                exact pa.app (pc.mono (by simp [wtL]) (Nat.le_refl _))
              have ct : cutD ds none (some (k : Int)) = ds.take k := cut_to ds k
              have ct1 : cutD ds none (some ((k : Int) + 1)) = ds.take (k + 1) := cut_to ds (k + 1)
              have cf : cutD ds (some (k : Int)) none = ds.drop k := cut_from ds k
              have cf1 : cutD ds (some ((k : Int) + 1)) none = ds.drop (k + 1) := cut_from ds (k + 1)
              have l1 : (ds.take k).length + (ds.drop (k + 1)).length ≤ 16777216 := by simp; omega
              have l2 : (ds.take (k + 1)).length + (ds.drop k).length ≤ 16777216 := by simp; omega
              have E : ∀ (x : D), [some (D.loc 0), some (.tuple ds), some (.int (k : Int)), some x] = [some (D.loc 0), some (.tuple ds), some (.int (k : Int)), some x] := fun _ => rfl
              by_cases hs0 : s = 0
              · have r1 := cut_tup (a := eV 1) (Lo := oNone) (Hi := oSome (eV 2)) (ρ := [some (D.loc 0), some (.tuple ds), some (.int (k : Int)), some (.int s)]) (st := o3 :: rest) (lo := none) (hi := some (k : Int)) rfl rfl rfl
                have r2 := cut_tup (a := eV 1) (Lo := oSome (eB addO (eV 2) (eC (.int 1)))) (Hi := oNone) (ρ := [some (D.loc 0), some (.tuple ds), some (.int (k : Int)), some (.int s)]) (st := o3 :: rest) (lo := some ((k : Int) + 1)) (hi := none) rfl rfl rfl
                rw [ct] at r1
                rw [cf1] at r2
                have ad := add_tup (st := o3 :: rest) l1
                refine ⟨.tuple (ds.take k ++ ds.drop (k + 1)), o3, ?_, (pa.app pd).tup.mono (by omega) (by omega), b3⟩
                simp only [F_bent, fnF, G_bent]
                simp [q1, hi, bTru, truD, q2, isTup, hemp, h0, e1, h7, e2, e3]
                simp [hs0] at r1 r2
                simp [hs0, r1, r2, ad]
              · by_cases hs1 : s = 1
                · have r1 := cut_tup (a := eV 1) (Lo := oNone) (Hi := oSome (eB addO (eV 2) (eC (.int 1)))) (ρ := [some (D.loc 0), some (.tuple ds), some (.int (k : Int)), some (.int s)]) (st := o3 :: rest) (lo := none) (hi := some ((k : Int) + 1)) rfl rfl rfl
                  have r2 := cut_tup (a := eV 1) (Lo := oSome (eV 2)) (Hi := oNone) (ρ := [some (D.loc 0), some (.tuple ds), some (.int (k : Int)), some (.int s)]) (st := o3 :: rest) (lo := some (k : Int)) (hi := none) rfl rfl rfl
                  rw [ct1] at r1
                  rw [cf] at r2
                  have ad := add_tup (st := o3 :: rest) l2
                  refine ⟨.tuple (ds.take (k + 1) ++ ds.drop k), o3, ?_, (pta.app pda).tup.mono (by omega) (by omega), b3⟩
                  simp only [F_bent, fnF, G_bent]
                  simp [q1, hi, bTru, truD, q2, isTup, hemp, h0, e1, h7, e2, e3]
                  simp [hs1] at r1 r2
                  simp [hs1, r1, r2, ad]
                · have hin : In (wt 6 ds[k]) (e - 1) ds[k] := by
                    refine ⟨?_, Nat.le_refl _, ?_⟩
                    · have h4 := hd.1
                      simp only [smal] at h4
                      rw [hsplit, smalL_append, Bool.and_eq_true] at h4
                      have h5 := h4.2
                      simp only [smalL, Bool.and_eq_true] at h5
                      exact h5.1
                    · have := pc.2.2
                      simp only [PyData.depthAll] at this
                      omega
                  obtain ⟨y, o4, e4, h4, b4⟩ := ih ds[k] (wt 6 ds[k]) (e - 1) rest (by omega) (by omega) (by omega) hin b3
                  have hx := ixO_tup (ds := ds) (i := (k : Int)) (d := ds[k]) (st := o3 :: rest) (by omega) (by rw [Int.toNat_natCast]; exact List.getElem?_eq_getElem hk)
                  have r1 := cut_tup (a := eV 1) (Lo := oNone) (Hi := oSome (eV 2)) (ρ := [some (D.loc 0), some (.tuple ds), some (.int (k : Int)), some (.int s)]) (st := o3 :: rest) (lo := none) (hi := some (k : Int)) rfl rfl rfl
                  have r2 := cut_tup (a := eV 1) (Lo := oSome (eB addO (eV 2) (eC (.int 1)))) (Hi := oNone) (ρ := [some (D.loc 0), some (.tuple ds), some (.int (k : Int)), some (.int s)]) (st := o4 :: rest) (lo := some ((k : Int) + 1)) (hi := none) rfl rfl rfl
                  rw [ct] at r1
                  rw [cf1] at r2
                  have l3 : (ds.take k).length + [y].length ≤ 16777216 := by simp; omega
                  have l4 : (ds.take k ++ [y]).length + (ds.drop (k + 1)).length ≤ 16777216 := by simp; omega
                  have ad1 := add_tup (st := o4 :: rest) l3
                  have ad2 := add_tup (st := o4 :: rest) l4
                  refine ⟨.tuple (ds.take k ++ [y] ++ ds.drop (k + 1)), o4, ?_, ((((pa.mono (Nat.le_refl _) (show e - 1 ≤ e + 1 by omega)).app (SmL.one (h4.mono (Nat.le_refl _) (show e - 1 + 2 ≤ e + 1 by omega)))).app (pd.mono (Nat.le_refl _) (show e - 1 ≤ e + 1 by omega))).tup).mono (by omega) (by omega), b4⟩
                  simp only [F_bent, fnF, G_bent]
                  simp [q1, hi, bTru, truD, q2, isTup, hemp, h0, e1, h7, e2, e3, hs0, hs1]
                  simp at r1 r2 hx e4 ad1 ad2
                  simp [r1, r2, hx, e4, ad1, ad2]
        | _ => simp [isTup] at ht
end Fl
/-! Fm6: tunes as some of the laws judge them; walks with a count. -/
namespace Fl
open PySem PySem.Spec PyProof.Rows L2
noncomputable def F_istune : List D → Sto → R D := fnF 2 (sRet (eAnd (eU (isiO "tuple") (eV 0)) (eAnd (eB leO (eFn lenO (eCons (eV 0) eNil)) (eC (.int 200))) (eFn allO (eCons (eFrz (eComp (iSeq (eV 0)) [1] (gN 1) bYes (eCall 1 F_isheight (eCons (eV 1) eNil)))) eNil)))))
noncomputable def F_cktune : List D → Sto → R D := fnF 1 (sIf (bNot (bTru (eCall 1 F_istune (eCons (eV 0) eNil)))) (sExc 0) sNx)
def isTune : D → Bool
  | .tuple ds => decide ((ds.length : Int) ≤ 200) && ds.all (isIn 0 127)
  | _ => false
theorem istune_ok {d : D} (h : d.plain = true) (st : Sto) : F_istune [d] st = .ok (.bool (isTune d)) st := by
  unfold F_istune fnF
  cases d with
  | tuple ds =>
    simp only [PyData.plain] at h
    by_cases hl : (ds.length : Int) ≤ 200
    · have hc := comp_map (a := eV 0) (el := eCall 1 F_isheight (eCons (eV 1) eNil)) (j := 1) (ρ := [some (.tuple ds), none]) (st := st) (fun d => .bool (isIn 0 127 d)) (seq_tup rfl) True.intro (by omega) fun d hd => by
        simp [isheight_ok (plain_of h d hd) st]
      simp only [sRet, eAnd, eU, eB, eFn, eCons, eNil, eFrz]
      simp [isiO, tyN, isa, isTune, hl, hc, all_bools]
    · simp [isiO, tyN, isa, isTune, hl]
  | dict _ => simp [PyData.plain] at h
  | _ => simp [isiO, tyN, isa, isTune]
theorem cktune_ok {d : D} (h : d.plain = true) (st : Sto) : F_cktune [d] st = if isTune d = true then .ok .none st else .exc 0 st := by
  have e := istune_ok h st
  unfold F_cktune fnF
  by_cases hd : isTune d = true <;> simp [e, hd, bTru, truD]
theorem isTune_of {t : List Int} (hl : t.length ≤ 200) (h : ∀ v ∈ t, 0 ≤ v ∧ v ≤ 127) : isTune (.tuple (t.map PyData.int)) = true := by
  have h1 : ((t.length : Nat) : Int) ≤ 200 := by omega
  simp only [isTune, List.length_map, h1, decide_true, Bool.true_and, List.all_map, List.all_eq_true, Function.comp]
  intro v hv
  have := h v hv
  simp [isIn, this.1, this.2]
theorem enumD_at : ∀ (ds : List D) (k : Int) (q : Nat) (d : D), (enumD k ds)[q]? = some d → ∃ x, ds[q]? = some x ∧ d = .tuple [.int (k + q), x]
  | [], _, q, d, h => by simp [enumD] at h
  | x :: ds, k, 0, d, h => by
    simp only [enumD, List.getElem?_cons_zero, Option.some.injEq] at h
    exact ⟨x, rfl, by rw [← h]; simp⟩
  | x :: ds, k, q + 1, d, h => by
    simp only [enumD, List.getElem?_cons_succ] at h
    obtain ⟨y, h1, h2⟩ := enumD_at ds (k + 1) q d h
    refine ⟨y, by simpa using h1, ?_⟩
    rw [h2]
    congr 2
    have : k + 1 + (q : Int) = k + ((q + 1 : Nat) : Int) := by omega
    rw [this]
theorem ixD_last {ds : List D} {d : D} : ixD (ds ++ [d]) (-1) = some d := by
  have : ixN (ds ++ [d]).length (-1) = some ds.length := by
    unfold ixN
    rw [List.length_append, List.length_singleton, if_neg (by omega), if_pos (by omega)]
    congr 1
    omega
  unfold ixD
  rw [this]
  simp
theorem ixO_lastT {ds : List D} {d : D} {st : Sto} : ixO (.tuple (ds ++ [d])) (.int (-1)) st = some (d, st) := by simp [ixO, seqOf, ixD_last]
theorem ixO_lastL {ds : List D} {d : D} {st : Sto} : ixO (.list (ds ++ [d])) (.int (-1)) st = some (d, st) := by simp [ixO, seqOf, listOf, ixD_last]
theorem ixO_lastP {n : Nat} {ds : List D} {d : D} {st : Sto} (h : st[n]? = some (.lst (ds ++ [d]))) : ixO (D.loc n) (.int (-1)) st = some (d, st) := by simp [ixO, seqOf, listOf, D.loc, h, ixD_last]
theorem app_loc {n : Nat} {ds : List D} {y : D} {st : Sto} (h : st[n]? = some (.lst ds)) (hl : ds.length < 16777216) : appM (D.loc n) [y] st = some (.none, st.set n (.lst (ds ++ [y]))) := by simp [appM, atLoc, D.loc, h, hl]
theorem isL_loc {n : Nat} {ds : List D} {st : Sto} (h : st[n]? = some (.lst ds)) : isL st (D.loc n) = true := by simp [isL, listOf, D.loc, h]
/-- xs.append(y) -/
theorem app_ok {o y : Ex} {ρ : Env} {st s1 : Sto} {n : Nat} {ds : List D} {d : D} (ho : o ρ st = .ok (D.loc n) st) (h : st[n]? = some (.lst ds)) (hy : y ρ st = .ok d s1) (h1 : s1[n]? = some (.lst ds)) (hl : ds.length < 16777216) :
    sExpr (eMethL appM o (eCons y eNil)) ρ st = .nx ρ (s1.set n (.lst (ds ++ [d]))) := by
  unfold sExpr eMethL
  rw [ho]
  simp only [R.bind, isL_loc h, if_true]
  simp only [eCons, hy, R.bind, eNil, app_loc h1 hl, ofO, R.bindS]
theorem cut_last {ds : List D} : cutD ds none (some (-1)) = ds.dropLast := by
  unfold cutD
  have : HT.sIx ds.length ds.length (some (-1)) = ds.length - 1 := by
    simp only [HT.sIx]
    rw [if_pos (by omega)]
    omega
  rw [this, HT.sIx_none]
  simp [List.dropLast_eq_take]
theorem last_set {B : Sto} {o o' : Ob} : (B ++ [o]).set B.length o' = B ++ [o'] := by
  rw [List.set_append_right _ _ (Nat.le_refl _), Nat.sub_self]; rfl
theorem last_get {B : Sto} {o : Ob} : (B ++ [o])[B.length]? = some o := by
  rw [List.getElem?_append_right (Nat.le_refl _), Nat.sub_self]; rfl
theorem min3O (a b d : Int) (st : Sto) : minO [.int a, .int b, .int d] st = some (.int (if b < a then (if d < b then d else b) else (if d < a then d else a)), st) := by
  have h := minD3 a b d
  unfold minO pickO
  simp only [h]
theorem min2O (a b : Int) (st : Sto) : minO [.int a, .int b] st = some (.int (if b < a then b else a), st) := by
  have h := minD2 a b
  unfold minO pickO
  simp only [h]
theorem max2O (a b : Int) (st : Sto) : maxO [.int a, .int b] st = some (.int (if b > a then b else a), st) := by
  have h := maxD2 a b
  unfold maxO pickO
  simp only [h]
/-- [el for x in xs], by place -/
theorem compL_ix {src : Sto → Prop} {tg : Tg} {el : Ex} {ρ : Env} {st : Sto} (hs : src st) : ∀ (ds : List D) (k : Nat) (g : Nat → D), (∀ (i : Nat) d, ds[i]? = some d → ∃ ρ1, tg d ρ st = .ok ρ1 st ∧ el ρ1 st = .ok (g (k + i)) st) →
    compL src tg bYes el ds ρ st = .ok ((List.range ds.length).map fun i => g (k + i)) st := by
  intro ds
  induction ds with
  | nil => intro k g _; exact compL_nil hs
  | cons d ds ih =>
    intro k g h
    obtain ⟨ρ1, h1, h2⟩ := h 0 d rfl
    have e := ih (k + 1) g fun i x hx => by
      have := h (i + 1) x (by simpa using hx)
      rwa [show k + (i + 1) = k + 1 + i by omega] at this
    rw [compL_cons hs, h1]
    simp only [R.bind, bYes, if_true, h2, e, Nat.add_zero]
    rw [List.length_cons, List.range_succ_eq_map, List.map_cons, List.map_map]
    congr 2
    apply List.map_congr_left
    intro i _
    show g (k + 1 + i) = g (k + (i + 1))
    congr 1
    omega
theorem comp_ix {it : ExI} {el : Ex} {j : Nat} {ρ : Env} {st : Sto} {ds : List D} {src : Sto → Prop} (g : Nat → D) (ha : it ρ st = .ok (ds, src) st) (hs : src st) (hl : ds.length ≤ 16777216) (h : ∀ (i : Nat) d, ds[i]? = some d → el ((ρ.set j none).set j (some d)) st = .ok (g i) st) :
    eComp it [j] (gN j) bYes el ρ st = .ok ((List.range ds.length).map g) st := by
  have e := compL_ix (src := src) (tg := gN j) (el := el) (ρ := wp [j] ρ) (st := st) hs ds 0 g fun i d hd => ⟨_, rfl, by rw [Nat.zero_add]; exact h i d hd⟩
  simp only [Nat.zero_add] at e
  exact eComp_ok ha hl e
theorem seq_loc {a : Ex} {ρ : Env} {st st' : Sto} {n : Nat} {ds : List D} (h : a ρ st = .ok (D.loc n) st') (hs : st'[n]? = some (.lst ds)) : iSeq a ρ st = .ok (ds, fun s => s[n]? = some (.lst ds)) st' := by
  simp [iSeq, h, D.loc, hs]
theorem tupO_loc {n : Nat} {ds : List D} {st : Sto} (h : st[n]? = some (.lst ds)) : tupO [D.loc n] st = some (.tuple ds, st) := by simp [tupO, seqOf, listOf, D.loc, h]
def locsD (n m : Nat) : List D := (List.range m).map fun r => D.loc (n + r)
theorem locsD_succ (n m : Nat) : locsD n (m + 1) = locsD n m ++ [D.loc (n + m)] := by simp [locsD, List.range_succ]
theorem locsD_len (n m : Nat) : (locsD n m).length = m := by simp [locsD]
theorem locsD_get {n m r : Nat} (h : r < m) : (locsD n m)[r]? = some (D.loc (n + r)) := by simp [locsD, h]
/-- tuple([base + take(box, m) for turn in range(take(box, k))]) -/
theorem draw_tune {j : Nat} {base m k : Int} {ρ : Env} (h1 : ρ[1]? = some (some (D.loc 0))) (hj : j ≠ 1) (hm : 1 ≤ m) (hm2 : m < 1000000) (hk : 1 ≤ k) (hk2 : k < 1000) {o : Ob} (rest : Sto) (hb : Bx o) :
    ∃ (T : List Int) (o' : Ob), eFn tupO (eCons (eFrz (eComp (iRng rng1 (eCons (eCall 2 F_take (eCons (eV 1) (eCons (eC (.int k)) eNil))) eNil)) [j] (gN j) bYes (eB addO (eC (.int base)) (eCall 2 F_take (eCons (eV 1) (eCons (eC (.int m)) eNil)))))) eNil) ρ (o :: rest) = .ok (.tuple (T.map PyData.int)) (o' :: rest) ∧
      (T.length : Int) < k ∧ (∀ v ∈ T, base ≤ v ∧ v ≤ base + m - 1) ∧ Bx o' := by
  obtain ⟨n, o1, e1, n0, n1, b1⟩ := take_ok (m := k) hk (by omega) rest hb
  have hr : rng1 [.int n] = some (rangeD 0 1 n.toNat) := rng1_ok n0 (by omega)
  have hi : iRng rng1 (eCons (eCall 2 F_take (eCons (eV 1) (eCons (eC (.int k)) eNil))) eNil) ρ (o :: rest) = .ok (rangeD 0 1 n.toNat, fun _ => True) (o1 :: rest) := iRng_ok (ds := [.int n]) (by simp [h1, e1]) hr
  obtain ⟨T, o', e, l, h, b⟩ := draws_ok (j := j) (el := eB addO (eC (.int base)) (eCall 2 F_take (eCons (eV 1) (eCons (eC (.int m)) eNil)))) (lo := base) (hi := base + m - 1) hi b1 (by omega) fun k o hk hb => by
    obtain ⟨t, o', e, t0, t1, hb'⟩ := take_ok (m := m) hm (by omega) rest hb
    have h2 : (ρ.set j (some (.int (k : Int))))[1]? = some (some (D.loc 0)) := by
      rw [List.getElem?_set_ne hj]; exact h1
    exact ⟨base + t, o', by rw [List.set_set]; simp [h2, e], by omega, by omega, hb'⟩
  refine ⟨T, o', ?_, by omega, h, b⟩
  simp only [eFn, eCons, eFrz, e, R.bind]
  simp
theorem sq2 {a b w : St'} {ρ ρ' : Env} {st st' : Sto} (h : sSeq a (sSeq b sNx) ρ st = .nx ρ' st') : sSeq a (sSeq b w) ρ st = w ρ' st' := by
  cases hx : a ρ st with
  | nx ρ1 s1 =>
    rw [sq hx] at h ⊢
    cases hy : b ρ1 s1 with
    | nx ρ2 s2 => rw [sq hy] at h ⊢; cases h; rfl
    | _ => unfold sSeq at h; rw [hy] at h; cases h
  | _ => unfold sSeq at h; rw [hx] at h; cases h
theorem sq3 {a b c w : St'} {ρ ρ' : Env} {st st' : Sto} (h : sSeq a (sSeq b (sSeq c sNx)) ρ st = .nx ρ' st') : sSeq a (sSeq b (sSeq c w)) ρ st = w ρ' st' := by
  cases hx : a ρ st with
  | nx ρ1 s1 => rw [sq hx] at h ⊢; exact sq2 h
  | _ => unfold sSeq at h; rw [hx] at h; cases h
end Fl
namespace K88
open PySem PySem.Spec PyProof.Rows L2 LamX Fl
def top (i : Nat) : Stmt := PySem.Challenge.pw_tunehouse_k88_tunes_changed_into_others.main.body.getD i (.Pass ⟨0, 0, 0, 0⟩)
abbrev st__law_box : Stmt := top 19
abbrev st__law_take : Stmt := top 20
abbrev st__law_pick : Stmt := top 21
abbrev st__law_whole : Stmt := top 23
abbrev st__law_odd : Stmt := top 24
abbrev st__law_bent : Stmt := top 25
abbrev st_is_number : Stmt := top 6
abbrev st_is_height : Stmt := top 9
abbrev st_is_tune : Stmt := top 12
abbrev st_check_tune : Stmt := top 13
abbrev st_check_costs : Stmt := top 14
abbrev st_table_of : Stmt := top 15
abbrev st_change : Stmt := top 16
abbrev st__law_refusal : Stmt := top 26
abbrev st__law_least : Stmt := top 27
abbrev st__law_says : Stmt := top 22
abbrev st_is_change : Stmt := top 17
abbrev st_law : Stmt := top 28
def fns : List He.DefD := [dd "_law_box" st__law_box, dd "_law_take" st__law_take, dd "_law_pick" st__law_pick, dd "_law_whole" st__law_whole, dd "_law_odd" st__law_odd, dd "_law_bent" st__law_bent, dd "is_number" st_is_number, dd "is_height" st_is_height, dd "is_tune" st_is_tune, dd "check_tune" st_check_tune, dd "check_costs" st_check_costs, dd "table_of" st_table_of, dd "change" st_change, dd "_law_refusal" st__law_refusal, dd "_law_least" st__law_least, dd "_law_says" st__law_says, dd "is_change" st_is_change, dd "law" st_law]
def fas : List He.Fa := [.free "abs", .free "int", .glo "_law_box", .free "len", .glo "_law_take", .glo "_law_pick", .free "isinstance", .free "bool", .glo "_law_whole", .free "tuple", .free "range", .glo "_law_odd", .glo "_law_bent", .glo "is_number", .int "HIGHEST" 127, .glo "is_height", .int "MOST_HEIGHTS" 200, .free "all", .glo "is_tune", .exc "BadTune", .glo "BadTune", .glo "check_tune", .glo "check_costs", .free "enumerate", .free "min", .glo "table_of", .glo "change", .glo "_law_refusal", .glo "NotSo", .glo "TooMuch", .exm "BadTune" "BadTune" true, .exm "BadTune" "NotSo" false, .exm "BadTune" "TooMuch" false, .exm "NotSo" "BadTune" false, .exm "NotSo" "NotSo" true, .exm "NotSo" "TooMuch" false, .exm "TooMuch" "BadTune" false, .exm "TooMuch" "NotSo" false, .exm "TooMuch" "TooMuch" true, .glo "_law_least", .glo "_law_says", .free "repr", .glo "is_change", .glo "law"]
def xcs (K : PySem.W.Frag) : Nat → Addr := fun c => match c with | 0 => He.ga K "BadTune" | 1 => He.ga K "NotSo" | _ => He.ga K "TooMuch"
abbrev lawT (K : PySem.W.Frag) : Addr := He.tabOf K (He.codeOf K ("law", none))
abbrev TT (K : PySem.W.Frag) : List (Addr × Str) := [(lawT K, "law.<locals>.<lambda>")]
section
variable {P : Program} {w : World} {K : PySem.W.Frag} {mg : Str → Option Value} {base : Heap} {T : List (Addr × Str)}
/-! ### _law_box -/
def N__law_box : List Str := ["script", "x"]
noncomputable def C__law_box_0 : ExL := (eComp (iSeq (eV 0)) [1] (gN 1) bYes (eFn absO (eCons (eFn intO (eCons (eV 1) eNil)) eNil)))
noncomputable def G__law_box : St' := (sRet (eMut (eDisp (eCons (eC (.int 0)) (eCons (eC (.int 0)) (eCons (eC (.int 0)) (eCons (eFrz C__law_box_0) eNil)))))))
noncomputable def F__law_box : List D → Sto → R D := fnF 2 G__law_box
theorem sc__law_box : FnScope N__law_box ["script"] (defScope st__law_box) := ⟨rfl, rfl, rfl, by decide +kernel, rfl, by decide +kernel, by decide +kernel⟩
theorem ok__law_box (t : Told fas fns K mg) : OkD P w K mg base T (xcs K) 1 "_law_box" ["script"] F__law_box := by
  refine mk_okD (k := 0) (N := N__law_box) t 0 2 rfl rfl sc__law_box (by decide) (fun _ _ _ _ _ _ us hl => match us, hl with | [_], _ => rfl) fun f cdv A outer s H E hr => ?_
  have hu : (A.deeper (envOfC "_law_box" (defScope st__law_box) s.heap.objs.size f cdv)).units + 64 < cLine := by have := hr.un; omega
  unfold G__law_box
  exact (fss_one (fs_ret (fe_mut (fn_disp (fa_cons fe_int (fa_cons fe_int (fa_cons fe_int (fa_cons (fe_frz (fn_lc rfl sc__law_box.nd (own := [("x", 1)]) (blkOk_by (by rfl)) (fi_seq (fe_var 0)) (fun _ _ _ _ _ => (cg_name (i := 1) sc__law_box.nd rfl (by first | exact Or.inl rfl | exact Or.inr rfl) (by decide))) (fun _ _ _ _ _ => fts_nil) (fun _ _ _ _ _ => (fe_blt cAbs (by rfl) (t.free "abs" 0) (by rfl) (fa_cons (fe_ty cInt (by rfl) (t.free "int" 1) (by rfl) (fa_cons (fe_var 1) fa_nil)) fa_nil))))) fa_nil))))))))
/-! ### _law_take -/
def N__law_take : List Str := ["box", "m", "at", "cell", "told"]
noncomputable def G__law_take_s0 : St' := (sIf (bVal (eB eqO (eB ixO (eV 0) (eC (.int 1))) (eC (.int 0)))) (sSeq (sAsg (eB ixO (eV 0) (eC (.int 2))) (gN 2)) (sSeq (sAsg (eC (.int 0)) (gN 3)) (sSeq (sIf (bVal (eB ltO (eV 2) (eFn lenO (eCons (eB ixO (eV 0) (eC (.int 3))) eNil)))) (sSeq (sAsg (eB ixO (eB ixO (eV 0) (eC (.int 3))) (eV 2)) (gN 3)) (sAsg (eIf (bVal (eB geO (eV 3) (eB powO (eC (.int 10)) (eC (.int 18))))) (eC (.int 60)) (eU negO (eC (.int 9)))) (gIx setO (eV 0) (eC (.int 1))))) sNx) (sSeq (sAsg (eB addO (eV 2) (eC (.int 1))) (gIx setO (eV 0) (eC (.int 2)))) (sSeq (sAsg (eV 3) (gIx setO (eV 0) (eC (.int 0)))) (sIf (bVal (eB eqO (eB ixO (eV 0) (eC (.int 1))) (eC (.int 0)))) (sRet (eC (.int 0))) sNx)))))) sNx)
noncomputable def G__law_take_s1 : St' := (sIf (bVal (eB gtO (eB ixO (eV 0) (eC (.int 1))) (eC (.int 0)))) (sSeq (sAsg (eB modO (eFn intO (eCons (eB ixO (eV 0) (eC (.int 0))) eNil)) (eV 1)) (gN 4)) (sSeq (sAsg (eB fdivO (eB ixO (eV 0) (eC (.int 0))) (eV 1)) (gIx setO (eV 0) (eC (.int 0)))) (sSeq (sAsg (eIf (bVal (eB gtO (eB ixO (eV 0) (eC (.int 0))) (eC (.int 0)))) (eB subO (eB ixO (eV 0) (eC (.int 1))) (eC (.int 1))) (eC (.int 0))) (gIx setO (eV 0) (eC (.int 1)))) (sRet (eV 4))))) sNx)
noncomputable def G__law_take_s2 : St' := (sAsg (eB addO (eB ixO (eV 0) (eC (.int 1))) (eC (.int 1))) (gIx setO (eV 0) (eC (.int 1))))
noncomputable def G__law_take_s3 : St' := (sAsg (eB modO (eFn intO (eCons (eB addO (eB mulO (eB ixO (eV 0) (eC (.int 0))) (eC (.int 48271))) (eB mulO (eC (.int 69621)) (eB addO (eB ixO (eV 0) (eC (.int 1))) (eC (.int 20))))) eNil)) (eC (.int 2147483647))) (gIx setO (eV 0) (eC (.int 0))))
noncomputable def G__law_take_s4 : St' := (sRet (eB modO (eB modO (eFn intO (eCons (eB addO (eB fdivO (eB ixO (eV 0) (eC (.int 0))) (eC (.int 7))) (eB ixO (eV 0) (eC (.int 0)))) eNil)) (eC (.int 1000003))) (eV 1)))
noncomputable def G__law_take : St' := (sSeq G__law_take_s0 (sSeq G__law_take_s1 (sSeq G__law_take_s2 (sSeq G__law_take_s3 G__law_take_s4))))
noncomputable def F__law_take : List D → Sto → R D := fnF 5 G__law_take
theorem sc__law_take : FnScope N__law_take ["box", "m"] (defScope st__law_take) := ⟨rfl, rfl, rfl, by decide +kernel, rfl, by decide +kernel, by decide +kernel⟩
theorem ok__law_take (t : Told fas fns K mg) : OkD P w K mg base T (xcs K) 1 "_law_take" ["box", "m"] F__law_take := by
  refine mk_okD (k := 0) (N := N__law_take) t 1 4 rfl rfl sc__law_take (by decide) (fun _ _ _ _ _ _ us hl => match us, hl with | [_, _], _ => rfl) fun f cdv A outer s H E hr => ?_
  have hu : (A.deeper (envOfC "_law_take" (defScope st__law_take) s.heap.objs.size f cdv)).units + 64 < cLine := by have := hr.un; omega
  unfold G__law_take
  exact (fss_cons (fs_if (ft_cmp (oEq hu) (fe_ix (fe_var 0) fe_int) fe_int (nomark _)) (fss_cons (fs_set (i := 2) sc__law_take.nd rfl (by first | exact Or.inl rfl | exact Or.inr rfl) (fe_ix (fe_var 0) fe_int)) (fss_cons (fs_set (i := 3) sc__law_take.nd rfl (by first | exact Or.inl rfl | exact Or.inr rfl) fe_int) (fss_cons (fs_if (ft_cmp (oLt hu) (fe_var 2) (fe_blt cLen (by rfl) (t.free "len" 3) (by rfl) (fa_cons (fe_ix (fe_var 0) fe_int) fa_nil)) (nomark _)) (fss_cons (fs_set (i := 3) sc__law_take.nd rfl (by first | exact Or.inl rfl | exact Or.inr rfl) (fe_ix (fe_ix (fe_var 0) fe_int) (fe_var 2))) (fss_one (fs_asg (fe_ifExp (ft_cmp (oGe hu) (fe_var 3) (fe_op oPow fe_int fe_int) (nomark _)) fe_int (fe_un oNeg fe_int)) (fg_sub (fe_var 0) fe_int oSet)))) fss_nil) (fss_cons (fs_asg (fe_op oAdd (fe_var 2) fe_int) (fg_sub (fe_var 0) fe_int oSet)) (fss_cons (fs_asg (fe_var 3) (fg_sub (fe_var 0) fe_int oSet)) (fss_one (fs_if (ft_cmp (oEq hu) (fe_ix (fe_var 0) fe_int) fe_int (nomark _)) (fss_one (fs_ret fe_int)) fss_nil))))))) fss_nil) (fss_cons (fs_if (ft_cmp (oGt hu) (fe_ix (fe_var 0) fe_int) fe_int (nomark _)) (fss_cons (fs_set (i := 4) sc__law_take.nd rfl (by first | exact Or.inl rfl | exact Or.inr rfl) (fe_op oMod (fe_ty cInt (by rfl) (t.free "int" 1) (by rfl) (fa_cons (fe_ix (fe_var 0) fe_int) fa_nil)) (fe_var 1))) (fss_cons (fs_asg (fe_op oFdiv (fe_ix (fe_var 0) fe_int) (fe_var 1)) (fg_sub (fe_var 0) fe_int oSet)) (fss_cons (fs_asg (fe_ifExp (ft_cmp (oGt hu) (fe_ix (fe_var 0) fe_int) fe_int (nomark _)) (fe_op oSub (fe_ix (fe_var 0) fe_int) fe_int) fe_int) (fg_sub (fe_var 0) fe_int oSet)) (fss_one (fs_ret (fe_var 4)))))) fss_nil) (fss_cons (fs_asg (fe_op oAdd (fe_ix (fe_var 0) fe_int) fe_int) (fg_sub (fe_var 0) fe_int oSet)) (fss_cons (fs_asg (fe_op oMod (fe_ty cInt (by rfl) (t.free "int" 1) (by rfl) (fa_cons (fe_op oAdd (fe_op oMul (fe_ix (fe_var 0) fe_int) fe_int) (fe_op oMul fe_int (fe_op oAdd (fe_ix (fe_var 0) fe_int) fe_int))) fa_nil)) fe_int) (fg_sub (fe_var 0) fe_int oSet)) (fss_one (fs_ret (fe_op oMod (fe_op oMod (fe_ty cInt (by rfl) (t.free "int" 1) (by rfl) (fa_cons (fe_op oAdd (fe_op oFdiv (fe_ix (fe_var 0) fe_int) fe_int) (fe_ix (fe_var 0) fe_int)) fa_nil)) fe_int) (fe_var 1))))))))
/-! ### _law_pick -/
def N__law_pick : List Str := ["box", "menu"]
noncomputable def G__law_pick : St' := (sRet (eB ixO (eV 1) (eCall 2 F__law_take (eCons (eV 0) (eCons (eFn lenO (eCons (eV 1) eNil)) eNil)))))
noncomputable def F__law_pick : List D → Sto → R D := fnF 2 G__law_pick
theorem sc__law_pick : FnScope N__law_pick ["box", "menu"] (defScope st__law_pick) := ⟨rfl, rfl, rfl, by decide +kernel, rfl, by decide +kernel, by decide +kernel⟩
theorem ok__law_pick (t : Told fas fns K mg) : OkD P w K mg base T (xcs K) 2 "_law_pick" ["box", "menu"] F__law_pick := by
  refine mk_okD (k := 1) (N := N__law_pick) t 2 5 rfl rfl sc__law_pick (by decide) (fun _ _ _ _ _ _ us hl => match us, hl with | [_, _], _ => rfl) fun f cdv A outer s H E hr => ?_
  have hu : (A.deeper (envOfC "_law_pick" (defScope st__law_pick) s.heap.objs.size f cdv)).units + 64 < cLine := by have := hr.un; omega
  unfold G__law_pick
  exact (fss_one (fs_ret (fe_ix (fe_var 1) (cD (ok__law_take t) wok_fn hr (fa_cons (fe_var 0) (fa_cons (fe_blt cLen (by rfl) (t.free "len" 3) (by rfl) (fa_cons (fe_var 1) fa_nil)) fa_nil))))))
/-! ### _law_whole -/
def N__law_whole : List Str := ["x"]
noncomputable def G__law_whole : St' := (sRet (eAnd (eU (isiO "int") (eV 0)) (eNot (eU (isiO "bool") (eV 0)))))
noncomputable def F__law_whole : List D → Sto → R D := fnF 1 G__law_whole
theorem sc__law_whole : FnScope N__law_whole ["x"] (defScope st__law_whole) := ⟨rfl, rfl, rfl, by decide +kernel, rfl, by decide +kernel, by decide +kernel⟩
theorem ok__law_whole (t : Told fas fns K mg) : OkD P w K mg base T (xcs K) 1 "_law_whole" ["x"] F__law_whole := by
  refine mk_okD (k := 0) (N := N__law_whole) t 3 8 rfl rfl sc__law_whole (by decide) (fun _ _ _ _ _ _ us hl => match us, hl with | [_], _ => rfl) fun f cdv A outer s H E hr => ?_
  have hu : (A.deeper (envOfC "_law_whole" (defScope st__law_whole) s.heap.objs.size f cdv)).units + 64 < cLine := by have := hr.un; omega
  unfold G__law_whole
  exact (fss_one (fs_ret (fe_and (fe_isi isa_int (by rfl) (t.free "isinstance" 6) (by rfl) (t.free "int" 1) (by rfl) (fe_var 0)) (fe_one (fe_not (fe_isi isa_bool (by rfl) (t.free "isinstance" 6) (by rfl) (t.free "bool" 7) (by rfl) (fe_var 0)))))))
/-! ### _law_odd -/
def N__law_odd : List Str := ["box", "depth", "sort", "k"]
noncomputable def C__law_odd_0 (F__law_odd : List D → Sto → R D) : ExL := (eComp (iRng rng1 (eCons (eCall 2 F__law_take (eCons (eV 0) (eCons (eC (.int 4)) eNil))) eNil)) [3] (gN 3) bYes (eCall 2 F__law_odd (eCons (eV 0) (eCons (eB subO (eV 1) (eC (.int 1))) eNil))))
noncomputable def G__law_odd_s0 (F__law_odd : List D → Sto → R D) : St' := (sAsg (eCall 2 F__law_take (eCons (eV 0) (eCons (eIf (bVal (eB gtO (eV 1) (eC (.int 0)))) (eC (.int 8)) (eC (.int 6))) eNil))) (gN 2))
noncomputable def G__law_odd_s1 (F__law_odd : List D → Sto → R D) : St' := (sIf (bVal (eB eqO (eV 2) (eC (.int 0)))) (sRet (eCall 2 F__law_pick (eCons (eV 0) (eCons (eFrz (eDisp (eCons (eC .none) (eCons (eC (.bool true)) (eCons (eC (.bool false)) (eCons (eC (.str "")) (eCons (eC (.str "1")) (eCons (eC (.str "none")) eNil)))))))) eNil)))) sNx)
noncomputable def G__law_odd_s2 (F__law_odd : List D → Sto → R D) : St' := (sIf (bVal (eB ltO (eV 2) (eC (.int 6)))) (sRet (eB subO (eCall 2 F__law_take (eCons (eV 0) (eCons (eC (.int 9)) eNil))) (eC (.int 2)))) sNx)
noncomputable def G__law_odd_s3 (F__law_odd : List D → Sto → R D) : St' := (sRet (eFn tupO (eCons (eFrz (C__law_odd_0 F__law_odd)) eNil)))
noncomputable def G__law_odd (F__law_odd : List D → Sto → R D) : St' := (sSeq (G__law_odd_s0 F__law_odd) (sSeq (G__law_odd_s1 F__law_odd) (sSeq (G__law_odd_s2 F__law_odd) (G__law_odd_s3 F__law_odd))))
noncomputable def F__law_odd : Nat → List D → Sto → R D
  | 0 => fun _ _ => .bad
  | n + 1 => fnF 4 (G__law_odd (F__law_odd n))
theorem sc__law_odd : FnScope N__law_odd ["box", "depth"] (defScope st__law_odd) := ⟨rfl, rfl, rfl, by decide +kernel, rfl, by decide +kernel, by decide +kernel⟩
theorem ok__law_odd (t : Told fas fns K mg) (n : Nat) : OkD P w K mg base T (xcs K) (2 + n) "_law_odd" ["box", "depth"] (F__law_odd n) := by
  induction n with
  | zero => exact okD_bad t (k := 2) 4 11 rfl rfl (fun _ _ _ _ _ _ us hl => match us, hl with | [_, _], _ => rfl)
  | succ n ih =>
    refine mk_okD (k := 2 + n) (N := N__law_odd) t 4 11 rfl rfl sc__law_odd (by decide) (fun _ _ _ _ _ _ us hl => match us, hl with | [_, _], _ => rfl) fun f cdv A outer s H E hr => ?_
    have hu : (A.deeper (envOfC "_law_odd" (defScope st__law_odd) s.heap.objs.size f cdv)).units + 64 < cLine := by have := hr.un; omega
    unfold G__law_odd
    exact (fss_cons (fs_set (i := 2) sc__law_odd.nd rfl (by first | exact Or.inl rfl | exact Or.inr rfl) (cD (ok__law_take t) wok_fn hr (fa_cons (fe_var 0) (fa_cons (fe_ifExp (ft_cmp (oGt hu) (fe_var 1) fe_int (nomark _)) fe_int fe_int) fa_nil)))) (fss_cons (fs_if (ft_cmp (oEq hu) (fe_var 2) fe_int (nomark _)) (fss_one (fs_ret (cD (ok__law_pick t) wok_fn hr (fa_cons (fe_var 0) (fa_cons (fe_frz (fn_disp (fa_cons fe_non (fa_cons fe_bl (fa_cons fe_bl (fa_cons fe_str (fa_cons fe_str (fa_cons fe_str fa_nil)))))))) fa_nil))))) fss_nil) (fss_cons (fs_if (ft_cmp (oLt hu) (fe_var 2) fe_int (nomark _)) (fss_one (fs_ret (fe_op oSub (cD (ok__law_take t) wok_fn hr (fa_cons (fe_var 0) (fa_cons fe_int fa_nil))) fe_int))) fss_nil) (fss_one (fs_ret (fe_ty cTup (by rfl) (t.free "tuple" 9) (by rfl) (fa_cons (fe_frz (fn_lc rfl sc__law_odd.nd (own := [("k", 3)]) (blkOk_by (by rfl)) (fi_rng1 (fa_cons (cD (ok__law_take t) wok_fn hr (fa_cons (fe_var 0) (fa_cons fe_int fa_nil))) fa_nil) (t.free "range" 10)) (fun _ _ _ _ _ => (cg_name (i := 3) sc__law_odd.nd rfl (by first | exact Or.inl rfl | exact Or.inr rfl) (by decide))) (fun _ _ _ _ _ => fts_nil) (fun _ _ _ _ _ => (cD ih Wok.none hr (fa_cons (fe_var 0) (fa_cons (fe_op oSub (fe_var 1) fe_int) fa_nil)))))) fa_nil)))))))
/-! ### _law_bent -/
def N__law_bent : List Str := ["box", "told", "at", "sort"]
noncomputable def G__law_bent_s0 (F__law_bent : List D → Sto → R D) : St' := (sIf (bAnd (bTru (eCall 1 F__law_whole (eCons (eV 1) eNil))) (bVal (eB gtO (eCall 2 F__law_take (eCons (eV 0) (eCons (eC (.int 3)) eNil))) (eC (.int 0))))) (sRet (eCall 2 F__law_pick (eCons (eV 0) (eCons (eFrz (eDisp (eCons (eB addO (eV 1) (eC (.int 1))) (eCons (eB subO (eV 1) (eC (.int 1))) (eCons (eC (.int 0)) (eCons (eC (.int 1)) eNil)))))) eNil)))) sNx)
noncomputable def G__law_bent_s1 (F__law_bent : List D → Sto → R D) : St' := (sIf (bOr (bNot (bTru (eU (isiO "tuple") (eV 1)))) (bOr (bVal (eB eqO (eV 1) (eTup eNil))) (bVal (eB eqO (eCall 2 F__law_take (eCons (eV 0) (eCons (eC (.int 8)) eNil))) (eC (.int 7)))))) (sRet (eCall 2 (F__law_odd 40) (eCons (eV 0) (eCons (eC (.int 2)) eNil)))) sNx)
noncomputable def G__law_bent_s2 (F__law_bent : List D → Sto → R D) : St' := (ePair (eCons (eCall 2 F__law_take (eCons (eV 0) (eCons (eFn lenO (eCons (eV 1) eNil)) eNil))) (eCons (eCall 2 F__law_take (eCons (eV 0) (eCons (eC (.int 6)) eNil))) eNil)) 2 3)
noncomputable def G__law_bent_s3 (F__law_bent : List D → Sto → R D) : St' := (sIf (bVal (eB eqO (eV 3) (eC (.int 0)))) (sRet (eB addO (eCut (eV 1) oNone (oSome (eV 2))) (eCut (eV 1) (oSome (eB addO (eV 2) (eC (.int 1)))) oNone))) sNx)
noncomputable def G__law_bent_s4 (F__law_bent : List D → Sto → R D) : St' := (sIf (bVal (eB eqO (eV 3) (eC (.int 1)))) (sRet (eB addO (eCut (eV 1) oNone (oSome (eB addO (eV 2) (eC (.int 1))))) (eCut (eV 1) (oSome (eV 2)) oNone))) sNx)
noncomputable def G__law_bent_s5 (F__law_bent : List D → Sto → R D) : St' := (sRet (eB addO (eB addO (eCut (eV 1) oNone (oSome (eV 2))) (eTup (eCons (eCall 2 F__law_bent (eCons (eV 0) (eCons (eB ixO (eV 1) (eV 2)) eNil))) eNil))) (eCut (eV 1) (oSome (eB addO (eV 2) (eC (.int 1)))) oNone)))
noncomputable def G__law_bent (F__law_bent : List D → Sto → R D) : St' := (sSeq (G__law_bent_s0 F__law_bent) (sSeq (G__law_bent_s1 F__law_bent) (sSeq (G__law_bent_s2 F__law_bent) (sSeq (G__law_bent_s3 F__law_bent) (sSeq (G__law_bent_s4 F__law_bent) (G__law_bent_s5 F__law_bent))))))
noncomputable def F__law_bent : Nat → List D → Sto → R D
  | 0 => fun _ _ => .bad
  | n + 1 => fnF 4 (G__law_bent (F__law_bent n))
theorem sc__law_bent : FnScope N__law_bent ["box", "told"] (defScope st__law_bent) := ⟨rfl, rfl, rfl, by decide +kernel, rfl, by decide +kernel, by decide +kernel⟩
theorem ok__law_bent (t : Told fas fns K mg) (n : Nat) : OkD P w K mg base T (xcs K) (42 + n) "_law_bent" ["box", "told"] (F__law_bent n) := by
  induction n with
  | zero => exact okD_bad t (k := 42) 5 12 rfl rfl (fun _ _ _ _ _ _ us hl => match us, hl with | [_, _], _ => rfl)
  | succ n ih =>
    refine mk_okD (k := 42 + n) (N := N__law_bent) t 5 12 rfl rfl sc__law_bent (by decide) (fun _ _ _ _ _ _ us hl => match us, hl with | [_, _], _ => rfl) fun f cdv A outer s H E hr => ?_
    have hu : (A.deeper (envOfC "_law_bent" (defScope st__law_bent) s.heap.objs.size f cdv)).units + 64 < cLine := by have := hr.un; omega
    unfold G__law_bent
    exact (fss_cons (fs_if ((fw_and (ft_tru (cD (ok__law_whole t) wok_fn hr (fa_cons (fe_var 1) fa_nil))) (fw_and1 (ft_cmp (oGt hu) (cD (ok__law_take t) wok_fn hr (fa_cons (fe_var 0) (fa_cons fe_int fa_nil))) fe_int (nomark _))))).pt (fss_one (fs_ret (cD (ok__law_pick t) wok_fn hr (fa_cons (fe_var 0) (fa_cons (fe_frz (fn_disp (fa_cons (fe_op oAdd (fe_var 1) fe_int) (fa_cons (fe_op oSub (fe_var 1) fe_int) (fa_cons fe_int (fa_cons fe_int fa_nil)))))) fa_nil))))) fss_nil) (fss_cons (fs_if ((fw_or (ft_not (ft_tru (fe_isi isa_tuple (by rfl) (t.free "isinstance" 6) (by rfl) (t.free "tuple" 9) (by rfl) (fe_var 1)))) (fw_or (ft_cmp (oEq hu) (fe_var 1) (fe_tup fa_nil) (nomark _)) (fw_or1 (ft_cmp (oEq hu) (cD (ok__law_take t) wok_fn hr (fa_cons (fe_var 0) (fa_cons fe_int fa_nil))) fe_int (nomark _)))))).pt (fss_one (fs_ret (cD (ok__law_odd t 40) wok_fn hr (fa_cons (fe_var 0) (fa_cons fe_int fa_nil))))) fss_nil) (fss_cons (fs_par (i := 2) (j := 3) rfl sc__law_bent.nd rfl rfl (by decide) (by rfl) (by rfl) (fa_cons (cD (ok__law_take t) wok_fn hr (fa_cons (fe_var 0) (fa_cons (fe_blt cLen (by rfl) (t.free "len" 3) (by rfl) (fa_cons (fe_var 1) fa_nil)) fa_nil))) (fa_cons (cD (ok__law_take t) wok_fn hr (fa_cons (fe_var 0) (fa_cons fe_int fa_nil))) fa_nil)) (by rfl)) (fss_cons (fs_if (ft_cmp (oEq hu) (fe_var 3) fe_int (nomark _)) (fss_one (fs_ret (fe_op oAdd (fe_cut (fe_var 1) fo_none (fo_some (fe_var 2))) (fe_cut (fe_var 1) (fo_some (fe_op oAdd (fe_var 2) fe_int)) fo_none)))) fss_nil) (fss_cons (fs_if (ft_cmp (oEq hu) (fe_var 3) fe_int (nomark _)) (fss_one (fs_ret (fe_op oAdd (fe_cut (fe_var 1) fo_none (fo_some (fe_op oAdd (fe_var 2) fe_int))) (fe_cut (fe_var 1) (fo_some (fe_var 2)) fo_none)))) fss_nil) (fss_one (fs_ret (fe_op oAdd (fe_op oAdd (fe_cut (fe_var 1) fo_none (fo_some (fe_var 2))) (fe_tup (fa_cons (cD ih wok_fn hr (fa_cons (fe_var 0) (fa_cons (fe_ix (fe_var 1) (fe_var 2)) fa_nil))) fa_nil))) (fe_cut (fe_var 1) (fo_some (fe_op oAdd (fe_var 2) fe_int)) fo_none)))))))))
/-! ### is_number -/
def N_is_number : List Str := ["x"]
noncomputable def G_is_number : St' := (sRet (eAnd (eU (isiO "int") (eV 0)) (eNot (eU (isiO "bool") (eV 0)))))
noncomputable def F_is_number : List D → Sto → R D := fnF 1 G_is_number
theorem sc_is_number : FnScope N_is_number ["x"] (defScope st_is_number) := ⟨rfl, rfl, rfl, by decide +kernel, rfl, by decide +kernel, by decide +kernel⟩
theorem ok_is_number (t : Told fas fns K mg) : OkD P w K mg base T (xcs K) 1 "is_number" ["x"] F_is_number := by
  refine mk_okD (k := 0) (N := N_is_number) t 6 13 rfl rfl sc_is_number (by decide) (fun _ _ _ _ _ _ us hl => match us, hl with | [_], _ => rfl) fun f cdv A outer s H E hr => ?_
  have hu : (A.deeper (envOfC "is_number" (defScope st_is_number) s.heap.objs.size f cdv)).units + 64 < cLine := by have := hr.un; omega
  unfold G_is_number
  exact (fss_one (fs_ret (fe_and (fe_isi isa_int (by rfl) (t.free "isinstance" 6) (by rfl) (t.free "int" 1) (by rfl) (fe_var 0)) (fe_one (fe_not (fe_isi isa_bool (by rfl) (t.free "isinstance" 6) (by rfl) (t.free "bool" 7) (by rfl) (fe_var 0)))))))
/-! ### is_height -/
def N_is_height : List Str := ["x"]
noncomputable def G_is_height : St' := (sRet (eAnd (eCall 1 F_is_number (eCons (eV 0) eNil)) (eChain leO leO (eC (.int 0)) (eV 0) (eC (.int 127)))))
noncomputable def F_is_height : List D → Sto → R D := fnF 1 G_is_height
theorem sc_is_height : FnScope N_is_height ["x"] (defScope st_is_height) := ⟨rfl, rfl, rfl, by decide +kernel, rfl, by decide +kernel, by decide +kernel⟩
theorem ok_is_height (t : Told fas fns K mg) : OkD P w K mg base T (xcs K) 2 "is_height" ["x"] F_is_height := by
  refine mk_okD (k := 1) (N := N_is_height) t 7 15 rfl rfl sc_is_height (by decide) (fun _ _ _ _ _ _ us hl => match us, hl with | [_], _ => rfl) fun f cdv A outer s H E hr => ?_
  have hu : (A.deeper (envOfC "is_height" (defScope st_is_height) s.heap.objs.size f cdv)).units + 64 < cLine := by have := hr.un; omega
  unfold G_is_height
  exact (fss_one (fs_ret (fe_and (cD (ok_is_number t) wok_fn hr (fa_cons (fe_var 0) fa_nil)) (fe_one (fe_chain (oLe hu) (oLe hu) fe_int (fe_var 0) (fe_gi (t.int "HIGHEST" 127 14)))))))
/-! ### is_tune -/
def N_is_tune : List Str := ["x", "one"]
noncomputable def C_is_tune_0 : ExL := (eComp (iSeq (eV 0)) [1] (gN 1) bYes (eCall 1 F_is_height (eCons (eV 1) eNil)))
noncomputable def G_is_tune : St' := (sRet (eAnd (eU (isiO "tuple") (eV 0)) (eAnd (eB leO (eFn lenO (eCons (eV 0) eNil)) (eC (.int 200))) (eFn allO (eCons (eFrz C_is_tune_0) eNil)))))
noncomputable def F_is_tune : List D → Sto → R D := fnF 2 G_is_tune
theorem sc_is_tune : FnScope N_is_tune ["x"] (defScope st_is_tune) := ⟨rfl, rfl, rfl, by decide +kernel, rfl, by decide +kernel, by decide +kernel⟩
theorem ok_is_tune (t : Told fas fns K mg) : OkD P w K mg base T (xcs K) 3 "is_tune" ["x"] F_is_tune := by
  refine mk_okD (k := 2) (N := N_is_tune) t 8 18 rfl rfl sc_is_tune (by decide) (fun _ _ _ _ _ _ us hl => match us, hl with | [_], _ => rfl) fun f cdv A outer s H E hr => ?_
  have hu : (A.deeper (envOfC "is_tune" (defScope st_is_tune) s.heap.objs.size f cdv)).units + 64 < cLine := by have := hr.un; omega
  unfold G_is_tune
  exact (fss_one (fs_ret (fe_and (fe_isi isa_tuple (by rfl) (t.free "isinstance" 6) (by rfl) (t.free "tuple" 9) (by rfl) (fe_var 0)) (fe_and (fe_cmp (oLe hu) (fe_blt cLen (by rfl) (t.free "len" 3) (by rfl) (fa_cons (fe_var 0) fa_nil)) (fe_gi (t.int "MOST_HEIGHTS" 200 16)) (nomark _)) (fe_one (fe_blt (cAll rfl) (by rfl) (t.free "all" 17) (by rfl) (fa_cons (fe_frz (fn_lc rfl sc_is_tune.nd (own := [("one", 1)]) (blkOk_by (by rfl)) (fi_seq (fe_var 0)) (fun _ _ _ _ _ => (cg_name (i := 1) sc_is_tune.nd rfl (by first | exact Or.inl rfl | exact Or.inr rfl) (by decide))) (fun _ _ _ _ _ => fts_nil) (fun _ _ _ _ _ => (cD (ok_is_height t) Wok.none hr (fa_cons (fe_var 1) fa_nil))))) fa_nil)))))))
/-! ### check_tune -/
def N_check_tune : List Str := ["x"]
noncomputable def G_check_tune : St' := (sIf (bNot (bTru (eCall 1 F_is_tune (eCons (eV 0) eNil)))) (sExc 0) sNx)
noncomputable def F_check_tune : List D → Sto → R D := fnF 1 G_check_tune
theorem sc_check_tune : FnScope N_check_tune ["x"] (defScope st_check_tune) := ⟨rfl, rfl, rfl, by decide +kernel, rfl, by decide +kernel, by decide +kernel⟩
theorem ok_check_tune (t : Told fas fns K mg) : OkD P w K mg base T (xcs K) 4 "check_tune" ["x"] F_check_tune := by
  refine mk_okD (k := 3) (N := N_check_tune) t 9 21 rfl rfl sc_check_tune (by decide) (fun _ _ _ _ _ _ us hl => match us, hl with | [_], _ => rfl) fun f cdv A outer s H E hr => ?_
  have hu : (A.deeper (envOfC "check_tune" (defScope st_check_tune) s.heap.objs.size f cdv)).units + 64 < cLine := by have := hr.un; omega
  unfold G_check_tune
  exact (fss_one (fs_if (ft_not (ft_tru (cD (ok_is_tune t) wok_fn hr (fa_cons (fe_var 0) fa_nil)))) (fss_one (fs_raise (c := 0) rfl wok_fn (t.exc "BadTune" 19 20))) fss_nil))
/-! ### check_costs -/
def N_check_costs : List Str := ["x", "one"]
noncomputable def C_check_costs_0 : ExL := (eComp (iSeq (eV 0)) [1] (gN 1) bYes (eAnd (eCall 1 F_is_number (eCons (eV 1) eNil)) (eB geO (eV 1) (eC (.int 0)))))
noncomputable def G_check_costs : St' := (sIf (bOr (bNot (bTru (eU (isiO "tuple") (eV 0)))) (bOr (bVal (eB neO (eFn lenO (eCons (eV 0) eNil)) (eC (.int 3)))) (bNot (bTru (eFn allO (eCons (eFrz C_check_costs_0) eNil)))))) (sExc 0) sNx)
noncomputable def F_check_costs : List D → Sto → R D := fnF 2 G_check_costs
theorem sc_check_costs : FnScope N_check_costs ["x"] (defScope st_check_costs) := ⟨rfl, rfl, rfl, by decide +kernel, rfl, by decide +kernel, by decide +kernel⟩
theorem ok_check_costs (t : Told fas fns K mg) : OkD P w K mg base T (xcs K) 2 "check_costs" ["x"] F_check_costs := by
  refine mk_okD (k := 1) (N := N_check_costs) t 10 22 rfl rfl sc_check_costs (by decide) (fun _ _ _ _ _ _ us hl => match us, hl with | [_], _ => rfl) fun f cdv A outer s H E hr => ?_
  have hu : (A.deeper (envOfC "check_costs" (defScope st_check_costs) s.heap.objs.size f cdv)).units + 64 < cLine := by have := hr.un; omega
  unfold G_check_costs
  exact (fss_one (fs_if ((fw_or (ft_not (ft_tru (fe_isi isa_tuple (by rfl) (t.free "isinstance" 6) (by rfl) (t.free "tuple" 9) (by rfl) (fe_var 0)))) (fw_or (ft_cmp (oNe hu) (fe_blt cLen (by rfl) (t.free "len" 3) (by rfl) (fa_cons (fe_var 0) fa_nil)) fe_int (nomark _)) (fw_or1 (ft_not (ft_tru (fe_blt (cAll rfl) (by rfl) (t.free "all" 17) (by rfl) (fa_cons (fe_frz (fn_lc rfl sc_check_costs.nd (own := [("one", 1)]) (blkOk_by (by rfl)) (fi_seq (fe_var 0)) (fun _ _ _ _ _ => (cg_name (i := 1) sc_check_costs.nd rfl (by first | exact Or.inl rfl | exact Or.inr rfl) (by decide))) (fun _ _ _ _ _ => fts_nil) (fun _ _ _ _ _ => (fe_and (cD (ok_is_number t) Wok.none hr (fa_cons (fe_var 1) fa_nil)) (fe_one (fe_cmp (oGe hu) (fe_var 1) fe_int (nomark _))))))) fa_nil)))))))).pt (fss_one (fs_raise (c := 0) rfl wok_fn (t.exc "BadTune" 19 20))) fss_nil))
/-! ### table_of -/
def N_table_of : List Str := ["a", "b", "costs", "put", "off", "by", "rows", "j", "i", "one", "row", "other", "turn"]
noncomputable def C_table_of_0 : ExL := (eComp (iRng rng1 (eCons (eB addO (eFn lenO (eCons (eV 1) eNil)) (eC (.int 1))) eNil)) [7] (gN 7) bYes (eB mulO (eV 7) (eV 3)))
noncomputable def G_table_of_b0 : St' := (sSeq (sAsg (eIf (bVal (eB eqO (eV 9) (eV 11))) (eC (.int 0)) (eB addO (eV 4) (eB mulO (eV 5) (eFn absO (eCons (eB subO (eV 9) (eV 11)) eNil))))) (gN 12)) (sExpr (eMethL appM (eV 10) (eCons (eFn minO (eCons (eB addO (eB ixO (eB ixO (eV 6) (eU negO (eC (.int 1)))) (eB addO (eV 7) (eC (.int 1)))) (eV 3)) (eCons (eB addO (eB ixO (eV 10) (eV 7)) (eV 3)) (eCons (eB addO (eB ixO (eB ixO (eV 6) (eU negO (eC (.int 1)))) (eV 7)) (eV 12)) eNil)))) eNil))))
noncomputable def G_table_of_b1 : St' := (sSeq (sAsg (eMut (eDisp (eCons (eB mulO (eB addO (eV 8) (eC (.int 1))) (eV 3)) eNil))) (gN 10)) (sSeq (sFor (iEn (eCons (eV 1) eNil)) [7, 11, 12] (gTp (gLen 2 (gsCons (gN 7) (gsCons (gN 11) gsNil)))) G_table_of_b0) (sExpr (eMethL appM (eV 6) (eCons (eV 10) eNil)))))
noncomputable def C_table_of_1 : ExL := (eComp (iSeq (eV 6)) [10] (gN 10) bYes (eFn tupO (eCons (eV 10) eNil)))
noncomputable def G_table_of_s0 : St' := (sAsg (eV 2) (gTp (gLen 3 (gsCons (gN 3) (gsCons (gN 4) (gsCons (gN 5) gsNil))))))
noncomputable def G_table_of_s1 : St' := (sAsg (eMut (eDisp (eCons (eFrz C_table_of_0) eNil))) (gN 6))
noncomputable def G_table_of_s2 : St' := (sFor (iEn (eCons (eV 0) eNil)) [8, 9, 10, 7, 11, 12] (gTp (gLen 2 (gsCons (gN 8) (gsCons (gN 9) gsNil)))) G_table_of_b1)
noncomputable def G_table_of_s3 : St' := (sRet (eFn tupO (eCons (eFrz C_table_of_1) eNil)))
noncomputable def G_table_of : St' := (sSeq G_table_of_s0 (sSeq G_table_of_s1 (sSeq G_table_of_s2 G_table_of_s3)))
noncomputable def F_table_of : List D → Sto → R D := gcF (fnF 13 G_table_of)
theorem sc_table_of : FnScope N_table_of ["a", "b", "costs"] (defScope st_table_of) := ⟨rfl, rfl, rfl, by decide +kernel, rfl, by decide +kernel, by decide +kernel⟩
theorem ok_table_of (t : Told fas fns K mg) : OkD P w K mg base T (xcs K) 1 "table_of" ["a", "b", "costs"] F_table_of := by
  refine OkD.gc (mk_okD (k := 0) (N := N_table_of) t 11 25 rfl rfl sc_table_of (by decide) (fun _ _ _ _ _ _ us hl => match us, hl with | [_, _, _], _ => rfl) fun f cdv A outer s H E hr => ?_)
  have hu : (A.deeper (envOfC "table_of" (defScope st_table_of) s.heap.objs.size f cdv)).units + 64 < cLine := by have := hr.un; omega
  unfold G_table_of
  exact (fss_cons (fs_asg (fe_var 2) (fg_tup rfl (fgs_cons (fg_name (i := 3) sc_table_of.nd rfl (by first | exact Or.inl rfl | exact Or.inr rfl)) (fgs_cons (fg_name (i := 4) sc_table_of.nd rfl (by first | exact Or.inl rfl | exact Or.inr rfl)) (fgs_cons (fg_name (i := 5) sc_table_of.nd rfl (by first | exact Or.inl rfl | exact Or.inr rfl)) fgs_nil))))) (fss_cons (fs_set (i := 6) sc_table_of.nd rfl (by first | exact Or.inl rfl | exact Or.inr rfl) (fe_mut (fn_disp (fa_cons (fe_frz (fn_lc rfl sc_table_of.nd (own := [("j", 7)]) (blkOk_by (by rfl)) (fi_rng1 (fa_cons (fe_op oAdd (fe_blt cLen (by rfl) (t.free "len" 3) (by rfl) (fa_cons (fe_var 1) fa_nil)) fe_int) fa_nil) (t.free "range" 10)) (fun _ _ _ _ _ => (cg_name (i := 7) sc_table_of.nd rfl (by first | exact Or.inl rfl | exact Or.inr rfl) (by decide))) (fun _ _ _ _ _ => fts_nil) (fun _ _ _ _ _ => (fe_op oMul (fe_var 7) (fe_var 3))))) fa_nil)))) (fss_cons (fs_for (pOk rfl) rfl (fi_enum (fa_cons (fe_var 0) fa_nil) (t.free "enumerate" 23)) (fg_tup rfl (fgs_cons (fg_name (i := 8) sc_table_of.nd rfl (by first | exact Or.inl rfl | exact Or.inr rfl)) (fgs_cons (fg_name (i := 9) sc_table_of.nd rfl (by first | exact Or.inl rfl | exact Or.inr rfl)) fgs_nil))) (fss_cons (fs_set (i := 10) sc_table_of.nd rfl (by first | exact Or.inl rfl | exact Or.inr rfl) (fe_mut (fn_disp (fa_cons (fe_op oMul (fe_op oAdd (fe_var 8) fe_int) (fe_var 3)) fa_nil)))) (fss_cons (fs_for (pOk rfl) rfl (fi_enum (fa_cons (fe_var 1) fa_nil) (t.free "enumerate" 23)) (fg_tup rfl (fgs_cons (fg_name (i := 7) sc_table_of.nd rfl (by first | exact Or.inl rfl | exact Or.inr rfl)) (fgs_cons (fg_name (i := 11) sc_table_of.nd rfl (by first | exact Or.inl rfl | exact Or.inr rfl)) fgs_nil))) (fss_cons (fs_set (i := 12) sc_table_of.nd rfl (by first | exact Or.inl rfl | exact Or.inr rfl) (fe_ifExp (ft_cmp (oEq hu) (fe_var 9) (fe_var 11) (nomark _)) fe_int (fe_op oAdd (fe_var 4) (fe_op oMul (fe_var 5) (fe_blt cAbs (by rfl) (t.free "abs" 0) (by rfl) (fa_cons (fe_op oSub (fe_var 9) (fe_var 11)) fa_nil)))))) (fss_one (fs_expr (fe_app (fe_var 10) (fe_blt (cMin rfl hu) (by rfl) (t.free "min" 24) (by rfl) (fa_cons (fe_op oAdd (fe_ix (fe_ix (fe_var 6) (fe_un oNeg fe_int)) (fe_op oAdd (fe_var 7) fe_int)) (fe_var 3)) (fa_cons (fe_op oAdd (fe_ix (fe_var 10) (fe_var 7)) (fe_var 3)) (fa_cons (fe_op oAdd (fe_ix (fe_ix (fe_var 6) (fe_un oNeg fe_int)) (fe_var 7)) (fe_var 12)) fa_nil))))))))) (fss_one (fs_expr (fe_app (fe_var 6) (fe_var 10))))))) (fss_one (fs_ret (fe_ty cTup (by rfl) (t.free "tuple" 9) (by rfl) (fa_cons (fe_frz (fn_lc rfl sc_table_of.nd (own := [("row", 10)]) (blkOk_by (by rfl)) (fi_seq (fe_var 6)) (fun _ _ _ _ _ => (cg_name (i := 10) sc_table_of.nd rfl (by first | exact Or.inl rfl | exact Or.inr rfl) (by decide))) (fun _ _ _ _ _ => fts_nil) (fun _ _ _ _ _ => (fe_ty cTup (by rfl) (t.free "tuple" 9) (by rfl) (fa_cons (fe_var 10) fa_nil))))) fa_nil)))))))
/-! ### change -/
def N_change : List Str := ["a", "b", "costs", "table"]
noncomputable def G_change_s0 : St' := (sExpr (eCall 1 F_check_tune (eCons (eV 0) eNil)))
noncomputable def G_change_s1 : St' := (sExpr (eCall 1 F_check_tune (eCons (eV 1) eNil)))
noncomputable def G_change_s2 : St' := (sExpr (eCall 1 F_check_costs (eCons (eV 2) eNil)))
noncomputable def G_change_s3 : St' := (sAsg (eCall 3 F_table_of (eCons (eV 0) (eCons (eV 1) (eCons (eV 2) eNil)))) (gN 3))
noncomputable def G_change_s4 : St' := (sRet (eTup (eCons (eB ixO (eB ixO (eV 3) (eU negO (eC (.int 1)))) (eU negO (eC (.int 1)))) (eCons (eV 3) eNil))))
noncomputable def G_change : St' := (sSeq G_change_s0 (sSeq G_change_s1 (sSeq G_change_s2 (sSeq G_change_s3 G_change_s4))))
noncomputable def F_change : List D → Sto → R D := fnF 4 G_change
theorem sc_change : FnScope N_change ["a", "b", "costs"] (defScope st_change) := ⟨rfl, rfl, rfl, by decide +kernel, rfl, by decide +kernel, by decide +kernel⟩
theorem ok_change (t : Told fas fns K mg) : OkD P w K mg base T (xcs K) 5 "change" ["a", "b", "costs"] F_change := by
  refine mk_okD (k := 4) (N := N_change) t 12 26 rfl rfl sc_change (by decide) (fun _ _ _ _ _ _ us hl => match us, hl with | [_, _, _], _ => rfl) fun f cdv A outer s H E hr => ?_
  have hu : (A.deeper (envOfC "change" (defScope st_change) s.heap.objs.size f cdv)).units + 64 < cLine := by have := hr.un; omega
  unfold G_change
  exact (fss_cons (fs_expr (cD (ok_check_tune t) wok_fn hr (fa_cons (fe_var 0) fa_nil))) (fss_cons (fs_expr (cD (ok_check_tune t) wok_fn hr (fa_cons (fe_var 1) fa_nil))) (fss_cons (fs_expr (cD (ok_check_costs t) wok_fn hr (fa_cons (fe_var 2) fa_nil))) (fss_cons (fs_set (i := 3) sc_change.nd rfl (by first | exact Or.inl rfl | exact Or.inr rfl) (cD (ok_table_of t) wok_fn hr (fa_cons (fe_var 0) (fa_cons (fe_var 1) (fa_cons (fe_var 2) fa_nil))))) (fss_one (fs_ret (fe_tup (fa_cons (fe_ix (fe_ix (fe_var 3) (fe_un oNeg fe_int)) (fe_un oNeg fe_int)) (fa_cons (fe_var 3) fa_nil)))))))))
/-! ### _law_refusal -/
def hs__law_refusal : List (Nat × Str) := [(0, "BadTune"), (1, "NotSo"), (2, "TooMuch")]
theorem sc__law_refusal : FnScope ["call"] ["call"] (defScope st__law_refusal) := ⟨rfl, rfl, rfl, by decide +kernel, rfl, by decide +kernel, by decide +kernel⟩
theorem exm__law_refusal (t : Told fas fns K mg) : ∀ c, ∀ p ∈ hs__law_refusal, (nmOf hs__law_refusal c).isSome → PySem.W.exmOne K (.ref (xcs K c)) (.ref (xcs K p.1)) = some (c == p.1) := by
  intro c p hp hc
  have hc' : c = 0 ∨ c = 1 ∨ c = 2 := by
    rcases c with _ | _ | _ | c
    all_goals first | (simp; done) | exact absurd hc (by simp [nmOf, hs__law_refusal, List.lookup])
  simp only [hs__law_refusal, List.mem_cons, List.not_mem_nil, or_false] at hp
  rcases hc' with rfl | rfl | rfl <;> rcases hp with rfl | rfl | rfl
  · exact He.exm_ok (t.c.fact 30 (f := .exm "BadTune" "BadTune" true) rfl)
  · exact He.exm_ok (t.c.fact 31 (f := .exm "BadTune" "NotSo" false) rfl)
  · exact He.exm_ok (t.c.fact 32 (f := .exm "BadTune" "TooMuch" false) rfl)
  · exact He.exm_ok (t.c.fact 33 (f := .exm "NotSo" "BadTune" false) rfl)
  · exact He.exm_ok (t.c.fact 34 (f := .exm "NotSo" "NotSo" true) rfl)
  · exact He.exm_ok (t.c.fact 35 (f := .exm "NotSo" "TooMuch" false) rfl)
  · exact He.exm_ok (t.c.fact 36 (f := .exm "TooMuch" "BadTune" false) rfl)
  · exact He.exm_ok (t.c.fact 37 (f := .exm "TooMuch" "NotSo" false) rfl)
  · exact He.exm_ok (t.c.fact 38 (f := .exm "TooMuch" "TooMuch" true) rfl)
theorem refu__law_refusal {X : Cx} {WE : Nat → Hp → Prop} {k : Nat} {params : Arguments} {body : Expr} {scope : Scope} {p lpos pos : Pos} {Fb : Ex} (t : Told fas fns X.K X.mg) (TB : TabB X.base X.mg (He.codeOf X.K ("law", none)) (lawT X.K))
    (hcode : X.env.code = .ref (He.codeOf X.K ("law", none))) (hq : X.env.qual ++ "<lambda>" = "law.<locals>.<lambda>") (hr : Room (k + 2) X.A) (Ls : LamS X.env.scope scope) (hdef : defaultsOf params X.env = ([], []))
    (hbind : ∀ (q : Str) (cl : List (Str × Addr)) (pm cv ctv : Value), bindArgs (PySem.W.kla_fn "<lambda>" q params body scope cl pm cv ctv) ⟨[], []⟩ = pure [])
    (hbody : ∀ (A : Around) (outer : List PySem.Env) (s : Shared) (H : Hp) (E : XK) (f c' : Addr), Room k (A.deeper (lamEnv X scope s.heap.objs.size f c')) → PE (lamCx X A outer s H E scope f c') body (tF X.K (TT X.K) (fun c H' => E (.ref (xcs X.K c)) none H') Fb))
    (hg : Gl X "_law_refusal" := by rfl) : PE X (.Call (.Name "_law_refusal" p) [.Lambda params body scope lpos] [] pos) (tF X.K (TT X.K) WE (eRef hs__law_refusal "" Fb)) := by
  obtain ⟨fd, F⟩ := t.c.def_ 13 (d := dd "_law_refusal" st__law_refusal) rfl
  obtain ⟨oc, od, dV, kV, doc, pm, an, cdv, ct, osl, e, lk, hcd, hD, hK⟩ := F.ex
  rcases hD with ⟨_, rfl⟩ | ⟨z, _⟩
  · subst e
    refine fe_ref (xc := xcs X.K) (Ng := ["call"]) (t.glo "_law_refusal" 27) F.kp lk hcd (.all fun us hl => match us, hl with | [_], _ => rfl) sc__law_refusal rfl (.inl rfl) ?hG
      (exm__law_refusal t) TB hcode (by rw [hq]; exact List.mem_singleton.mpr rfl) (fun p hp _ => by rw [hq, List.mem_singleton.mp hp]) hr Ls hdef hbind hbody hg
    refine gives (l := hs__law_refusal.map fun p => (Value.ref (xcs X.K p.1), p.2)) ?h1 ?h2 ?h3
    · intro s H
      exact .cons ⟨rfl, by decide, .inl (t.glo "BadTune" 20)⟩ (.cons ⟨rfl, by decide, .inl (t.glo "NotSo" 28)⟩ (.cons ⟨rfl, by decide, .inl (t.glo "TooMuch" 29)⟩ (.nil)))
    · exact fun f => rfl
    · exact fun s H => by rfl
  · exact absurd rfl z
/-! ### _law_least -/
def N__law_least : List Str := ["a", "b", "costs", "put", "off", "by", "turn", "out", "more"]
noncomputable def G__law_least_s0 (F__law_least : List D → Sto → R D) : St' := (sAsg (eV 2) (gTp (gLen 3 (gsCons (gN 3) (gsCons (gN 4) (gsCons (gN 5) gsNil))))))
noncomputable def G__law_least_s1 (F__law_least : List D → Sto → R D) : St' := (sIf (bOr (bVal (eB eqO (eV 0) (eTup eNil))) (bVal (eB eqO (eV 1) (eTup eNil)))) (sRet (eB mulO (eV 3) (eB addO (eFn lenO (eCons (eV 0) eNil)) (eFn lenO (eCons (eV 1) eNil))))) sNx)
noncomputable def G__law_least_s2 (F__law_least : List D → Sto → R D) : St' := (sAsg (eIf (bVal (eB eqO (eB ixO (eV 0) (eU negO (eC (.int 1)))) (eB ixO (eV 1) (eU negO (eC (.int 1)))))) (eC (.int 0)) (eB addO (eV 4) (eB mulO (eV 5) (eFn absO (eCons (eB subO (eB ixO (eV 0) (eU negO (eC (.int 1)))) (eB ixO (eV 1) (eU negO (eC (.int 1))))) eNil))))) (gN 6))
noncomputable def G__law_least_s3 (F__law_least : List D → Sto → R D) : St' := (ePair (eCons (eB addO (eCall 3 F__law_least (eCons (eCut (eV 0) oNone (oSome (eU negO (eC (.int 1))))) (eCons (eV 1) (eCons (eV 2) eNil)))) (eV 3)) (eCons (eB addO (eCall 3 F__law_least (eCons (eV 0) (eCons (eCut (eV 1) oNone (oSome (eU negO (eC (.int 1))))) (eCons (eV 2) eNil)))) (eV 3)) eNil)) 7 8)
noncomputable def G__law_least_s4 (F__law_least : List D → Sto → R D) : St' := (sRet (eFn minO (eCons (eV 7) (eCons (eV 8) (eCons (eB addO (eCall 3 F__law_least (eCons (eCut (eV 0) oNone (oSome (eU negO (eC (.int 1))))) (eCons (eCut (eV 1) oNone (oSome (eU negO (eC (.int 1))))) (eCons (eV 2) eNil)))) (eV 6)) eNil)))))
noncomputable def G__law_least (F__law_least : List D → Sto → R D) : St' := (sSeq (G__law_least_s0 F__law_least) (sSeq (G__law_least_s1 F__law_least) (sSeq (G__law_least_s2 F__law_least) (sSeq (G__law_least_s3 F__law_least) (G__law_least_s4 F__law_least)))))
noncomputable def F__law_least : Nat → List D → Sto → R D
  | 0 => fun _ _ => .bad
  | n + 1 => fnF 9 (G__law_least (F__law_least n))
theorem sc__law_least : FnScope N__law_least ["a", "b", "costs"] (defScope st__law_least) := ⟨rfl, rfl, rfl, by decide +kernel, rfl, by decide +kernel, by decide +kernel⟩
theorem ok__law_least (t : Told fas fns K mg) (n : Nat) : OkD P w K mg base T (xcs K) (0 + n) "_law_least" ["a", "b", "costs"] (F__law_least n) := by
  induction n with
  | zero => exact okD_bad t (k := 0) 14 39 rfl rfl (fun _ _ _ _ _ _ us hl => match us, hl with | [_, _, _], _ => rfl)
  | succ n ih =>
    refine mk_okD (k := 0 + n) (N := N__law_least) t 14 39 rfl rfl sc__law_least (by decide) (fun _ _ _ _ _ _ us hl => match us, hl with | [_, _, _], _ => rfl) fun f cdv A outer s H E hr => ?_
    have hu : (A.deeper (envOfC "_law_least" (defScope st__law_least) s.heap.objs.size f cdv)).units + 64 < cLine := by have := hr.un; omega
    unfold G__law_least
    exact (fss_cons (fs_asg (fe_var 2) (fg_tup rfl (fgs_cons (fg_name (i := 3) sc__law_least.nd rfl (by first | exact Or.inl rfl | exact Or.inr rfl)) (fgs_cons (fg_name (i := 4) sc__law_least.nd rfl (by first | exact Or.inl rfl | exact Or.inr rfl)) (fgs_cons (fg_name (i := 5) sc__law_least.nd rfl (by first | exact Or.inl rfl | exact Or.inr rfl)) fgs_nil))))) (fss_cons (fs_if ((fw_or (ft_cmp (oEq hu) (fe_var 0) (fe_tup fa_nil) (nomark _)) (fw_or1 (ft_cmp (oEq hu) (fe_var 1) (fe_tup fa_nil) (nomark _))))).pt (fss_one (fs_ret (fe_op oMul (fe_var 3) (fe_op oAdd (fe_blt cLen (by rfl) (t.free "len" 3) (by rfl) (fa_cons (fe_var 0) fa_nil)) (fe_blt cLen (by rfl) (t.free "len" 3) (by rfl) (fa_cons (fe_var 1) fa_nil)))))) fss_nil) (fss_cons (fs_set (i := 6) sc__law_least.nd rfl (by first | exact Or.inl rfl | exact Or.inr rfl) (fe_ifExp (ft_cmp (oEq hu) (fe_ix (fe_var 0) (fe_un oNeg fe_int)) (fe_ix (fe_var 1) (fe_un oNeg fe_int)) (nomark _)) fe_int (fe_op oAdd (fe_var 4) (fe_op oMul (fe_var 5) (fe_blt cAbs (by rfl) (t.free "abs" 0) (by rfl) (fa_cons (fe_op oSub (fe_ix (fe_var 0) (fe_un oNeg fe_int)) (fe_ix (fe_var 1) (fe_un oNeg fe_int))) fa_nil)))))) (fss_cons (fs_par (i := 7) (j := 8) rfl sc__law_least.nd rfl rfl (by decide) (by rfl) (by rfl) (fa_cons (fe_op oAdd (cD ih wok_fn hr (fa_cons (fe_cut (fe_var 0) fo_none (fo_some (fe_un oNeg fe_int))) (fa_cons (fe_var 1) (fa_cons (fe_var 2) fa_nil)))) (fe_var 3)) (fa_cons (fe_op oAdd (cD ih wok_fn hr (fa_cons (fe_var 0) (fa_cons (fe_cut (fe_var 1) fo_none (fo_some (fe_un oNeg fe_int))) (fa_cons (fe_var 2) fa_nil)))) (fe_var 3)) fa_nil)) (by rfl)) (fss_one (fs_ret (fe_blt (cMin rfl hu) (by rfl) (t.free "min" 24) (by rfl) (fa_cons (fe_var 7) (fa_cons (fe_var 8) (fa_cons (fe_op oAdd (cD ih wok_fn hr (fa_cons (fe_cut (fe_var 0) fo_none (fo_some (fe_un oNeg fe_int))) (fa_cons (fe_cut (fe_var 1) fo_none (fo_some (fe_un oNeg fe_int))) (fa_cons (fe_var 2) fa_nil)))) (fe_var 6)) fa_nil))))))))))
/-! ### _law_says -/
def N__law_says : List Str := ["x", "due"]
noncomputable def G__law_says : St' := (sRet (eAnd (eOr (eB isO (eV 0) (eC (.bool true))) (eB isO (eV 0) (eC (.bool false)))) (eB eqO (eV 0) (eV 1))))
noncomputable def F__law_says : List D → Sto → R D := fnF 2 G__law_says
theorem sc__law_says : FnScope N__law_says ["x", "due"] (defScope st__law_says) := ⟨rfl, rfl, rfl, by decide +kernel, rfl, by decide +kernel, by decide +kernel⟩
theorem ok__law_says (t : Told fas fns K mg) : OkD P w K mg base T (xcs K) 1 "_law_says" ["x", "due"] F__law_says := by
  refine mk_okD (k := 0) (N := N__law_says) t 15 40 rfl rfl sc__law_says (by decide) (fun _ _ _ _ _ _ us hl => match us, hl with | [_, _], _ => rfl) fun f cdv A outer s H E hr => ?_
  have hu : (A.deeper (envOfC "_law_says" (defScope st__law_says) s.heap.objs.size f cdv)).units + 64 < cLine := by have := hr.un; omega
  unfold G__law_says
  exact (fss_one (fs_ret (fe_and (fe_or (fe_cmp (oIs) (fe_var 0) fe_bl (nomark _)) (fe_one (fe_cmp (oIs) (fe_var 0) fe_bl (nomark _)))) (fe_one (fe_cmp (oEq hu) (fe_var 0) (fe_var 1) (nomark _))))))
/-! ### is_change -/
def N_is_change : List Str := ["a", "b", "costs", "cost", "table", "told"]
noncomputable def Gb_is_change_s0 : St' := (sExpr (eCall 1 F_check_tune (eCons (eV 0) eNil)))
noncomputable def Gb_is_change_s1 : St' := (sExpr (eCall 1 F_check_tune (eCons (eV 1) eNil)))
noncomputable def Gb_is_change_s2 : St' := (sExpr (eCall 1 F_check_costs (eCons (eV 2) eNil)))
noncomputable def Gb_is_change_s3 : St' := (sAsg (eCall 3 F_table_of (eCons (eV 0) (eCons (eV 1) (eCons (eV 2) eNil)))) (gN 5))
noncomputable def Gb_is_change_s4 : St' := (sRet (eB eqO eBad eBad))
noncomputable def Gb_is_change : St' := (sSeq Gb_is_change_s0 (sSeq Gb_is_change_s1 (sSeq Gb_is_change_s2 (sSeq Gb_is_change_s3 Gb_is_change_s4))))
noncomputable def Fb_is_change : List D → Sto → R D := fnF 6 Gb_is_change
theorem sc_is_change : FnScope N_is_change ["a", "b", "costs", "cost", "table"] (defScope st_is_change) := ⟨rfl, rfl, rfl, by decide +kernel, rfl, by decide +kernel, by decide +kernel⟩
theorem okb_is_change (t : Told fas fns K mg) : OkD P w K mg base T (xcs K) 5 "is_change" ["a", "b", "costs", "cost", "table"] Fb_is_change := by
  refine mk_okD (k := 4) (N := N_is_change) t 16 42 rfl rfl sc_is_change (by decide) (fun _ _ _ _ _ _ us hl => match us, hl with | [_, _, _, _, _], _ => rfl) fun f cdv A outer s H E hr => ?_
  have hu : (A.deeper (envOfC "is_change" (defScope st_is_change) s.heap.objs.size f cdv)).units + 64 < cLine := by have := hr.un; omega
  unfold Gb_is_change
  exact (fss_cons (fs_expr (cD (ok_check_tune t) wok_fn hr (fa_cons (fe_var 0) fa_nil))) (fss_cons (fs_expr (cD (ok_check_tune t) wok_fn hr (fa_cons (fe_var 1) fa_nil))) (fss_cons (fs_expr (cD (ok_check_costs t) wok_fn hr (fa_cons (fe_var 2) fa_nil))) (fss_cons (fs_set (i := 5) sc_is_change.nd rfl (by first | exact Or.inl rfl | exact Or.inr rfl) (cD (ok_table_of t) wok_fn hr (fa_cons (fe_var 0) (fa_cons (fe_var 1) (fa_cons (fe_var 2) fa_nil))))) (fss_one (fs_ret (fe_cmp (oEq hu) fe_bad fe_bad (nomark _))))))))
/-! ### is_change -/
noncomputable def G_is_change_s0 : St' := (sExpr (eCall 1 F_check_tune (eCons (eV 0) eNil)))
noncomputable def G_is_change_s1 : St' := (sExpr (eCall 1 F_check_tune (eCons (eV 1) eNil)))
noncomputable def G_is_change_s2 : St' := (sExpr (eCall 1 F_check_costs (eCons (eV 2) eNil)))
noncomputable def G_is_change_s3 : St' := (sAsg (eCall 3 F_table_of (eCons (eV 0) (eCons (eV 1) (eCons (eV 2) eNil)))) (gN 5))
noncomputable def G_is_change_s4 : St' := (sRet (eB eqO (eFn reprO (eCons (eTup (eCons (eV 3) (eCons (eV 4) eNil))) eNil)) (eFn reprO (eCons (eTup (eCons (eB ixO (eB ixO (eV 5) (eU negO (eC (.int 1)))) (eU negO (eC (.int 1)))) (eCons (eV 5) eNil))) eNil))))
noncomputable def G_is_change : St' := (sSeq G_is_change_s0 (sSeq G_is_change_s1 (sSeq G_is_change_s2 (sSeq G_is_change_s3 G_is_change_s4))))
noncomputable def F_is_change : List D → Sto → R D := fnF 6 G_is_change
theorem okg_is_change (t : Told fas fns K mg) : OkG P w K mg base T (xcs K) 5 "is_change" ["a", "b", "costs", "cost", "table"] F_is_change := by
  refine mk_okG (k := 4) (N := N_is_change) t 16 42 rfl rfl sc_is_change (by decide) (fun _ _ _ _ _ _ us hl => match us, hl with | [_, _, _, _, _], _ => rfl) fun f cdv A outer s H E gd hr => ?_
  have hu : (A.deeper (envOfC "is_change" (defScope st_is_change) s.heap.objs.size f cdv)).units + 64 < cLine := by have := hr.un; omega
  unfold G_is_change
  exact (fss_cons (fs_expr (cD (ok_check_tune t) wok_fn hr (fa_cons (fe_var 0) fa_nil))) (fss_cons (fs_expr (cD (ok_check_tune t) wok_fn hr (fa_cons (fe_var 1) fa_nil))) (fss_cons (fs_expr (cD (ok_check_costs t) wok_fn hr (fa_cons (fe_var 2) fa_nil))) (fss_cons (fs_set (i := 5) sc_is_change.nd rfl (by first | exact Or.inl rfl | exact Or.inr rfl) (cD (ok_table_of t) wok_fn hr (fa_cons (fe_var 0) (fa_cons (fe_var 1) (fa_cons (fe_var 2) fa_nil))))) (fss_one (fs_ret (fe_cmp (oEq hu) (fe_blt (cRepr gd hu) (by rfl) (t.free "repr" 41) (by rfl) (fa_cons (fe_tup (fa_cons (fe_var 3) (fa_cons (fe_var 4) fa_nil))) fa_nil)) (fe_blt (cRepr gd hu) (by rfl) (t.free "repr" 41) (by rfl) (fa_cons (fe_tup (fa_cons (fe_ix (fe_ix (fe_var 5) (fe_un oNeg fe_int)) (fe_un oNeg fe_int)) (fa_cons (fe_var 5) fa_nil))) fa_nil)) (nomark _))))))))
/-! ### law -/
def N_law : List Str := ["script", "box", "a", "turn", "b", "costs", "rows", "i", "j", "due", "x", "c", "up", "tune", "one", "words", "bad"]
noncomputable def C_law_0 : ExL := (eComp (iRng rng1 (eCons (eCall 2 F__law_take (eCons (eV 1) (eCons (eC (.int 6)) eNil))) eNil)) [3] (gN 3) bYes (eB addO (eC (.int 60)) (eCall 2 F__law_take (eCons (eV 1) (eCons (eC (.int 6)) eNil)))))
noncomputable def C_law_1 : ExL := (eComp (iRng rng1 (eCons (eCall 2 F__law_take (eCons (eV 1) (eCons (eC (.int 5)) eNil))) eNil)) [3] (gN 3) bYes (eB addO (eC (.int 60)) (eCall 2 F__law_take (eCons (eV 1) (eCons (eC (.int 6)) eNil)))))
noncomputable def C_law_2 : ExL := (eComp (iRng rng1 (eCons (eB addO (eFn lenO (eCons (eV 4) eNil)) (eC (.int 1))) eNil)) [8] (gN 8) bYes (eCall 3 (F__law_least 40) (eCons (eCut (eV 2) oNone (oSome (eV 7))) (eCons (eCut (eV 4) oNone (oSome (eV 8))) (eCons (eV 5) eNil)))))
noncomputable def C_law_3 : ExL := (eComp (iRng rng1 (eCons (eB addO (eFn lenO (eCons (eV 2) eNil)) (eC (.int 1))) eNil)) [7] (gN 7) bYes (eFn tupO (eCons (eFrz C_law_2) eNil)))
noncomputable def G_law_b0 : St' := (sSeq (sIf (bAnd (bTru (eU (isiO "tuple") (eV 10))) (bVal (eB eqO (eFn lenO (eCons (eV 10) eNil)) (eC (.int 2))))) (sIf (bNot (bTru (eCall 2 F__law_says (eCons (eCall 5 F_is_change (eCons (eV 2) (eCons (eV 4) (eCons (eV 5) (eCons (eB ixO (eV 10) (eC (.int 0))) (eCons (eB ixO (eV 10) (eC (.int 1))) eNil)))))) (eCons (eB eqO (eFn reprO (eCons (eV 10) eNil)) (eFn reprO (eCons (eV 9) eNil))) eNil))))) (sRet (eC (.bool false))) sNx) sNx) (sAsg (eCall 2 (F__law_bent 40) (eCons (eV 1) (eCons (eV 9) eNil))) (gN 10)))
noncomputable def C_law_4 : ExL := (eComp (iRng rng1 (eCons (eCall 2 F__law_take (eCons (eV 1) (eCons (eC (.int 6)) eNil))) eNil)) [3] (gN 3) bYes (eB addO (eC (.int 60)) (eCall 2 F__law_take (eCons (eV 1) (eCons (eC (.int 6)) eNil)))))
noncomputable def C_law_5 : ExL := (eComp (iSeq (eV 13)) [14] (gN 14) bYes (eB addO (eV 14) (eC (.int 5))))
noncomputable def C_law_6 : ExL := (eComp (iSeq (eTup (eCons (eV 2) (eCons (eV 4) eNil)))) [13] (gN 13) bYes (eFn tupO (eCons (eFrz C_law_5) eNil)))
noncomputable def G_law_s0 : St' := (sAsg (eCall 1 F__law_box (eCons (eV 0) eNil)) (gN 1))
noncomputable def G_law_s1 : St' := (sAsg (eFn tupO (eCons (eFrz C_law_0) eNil)) (gN 2))
noncomputable def G_law_s2 : St' := (sAsg (eFn tupO (eCons (eFrz C_law_1) eNil)) (gN 4))
noncomputable def G_law_s3 : St' := (sAsg (eTup (eCons (eCall 2 F__law_take (eCons (eV 1) (eCons (eC (.int 8)) eNil))) (eCons (eCall 2 F__law_take (eCons (eV 1) (eCons (eC (.int 4)) eNil))) (eCons (eCall 2 F__law_take (eCons (eV 1) (eCons (eC (.int 3)) eNil))) eNil)))) (gN 5))
noncomputable def G_law_s4 : St' := (sAsg (eFrz C_law_3) (gN 6))
noncomputable def G_law_s5 : St' := (sAsg (eTup (eCons (eB ixO (eB ixO (eV 6) (eU negO (eC (.int 1)))) (eU negO (eC (.int 1)))) (eCons (eFn tupO (eCons (eV 6) eNil)) eNil))) (gN 9))
noncomputable def G_law_s6 : St' := (sIf (bVal (eB neO (eFn reprO (eCons (eCall 3 F_change (eCons (eV 2) (eCons (eV 4) (eCons (eV 5) eNil)))) eNil)) (eFn reprO (eCons (eV 9) eNil)))) (sRet (eC (.bool false))) sNx)
noncomputable def G_law_s7 : St' := (sAsg (eV 9) (gN 10))
noncomputable def G_law_s8 : St' := (sFor (iRng rng1 (eCons (eC (.int 5)) eNil)) [3] (gN 3) G_law_b0)
noncomputable def G_law_s9 : St' := (sAsg (eFn tupO (eCons (eFrz C_law_4) eNil)) (gN 11))
noncomputable def G_law_s10 : St' := (sIf (bOr (bVal (eB neO (eB ixO (eCall 3 F_change (eCons (eV 4) (eCons (eV 2) (eCons (eV 5) eNil)))) (eC (.int 0))) (eB ixO (eV 9) (eC (.int 0))))) (bVal (eB neO (eB ixO (eCall 3 F_change (eCons (eV 2) (eCons (eV 2) (eCons (eV 5) eNil)))) (eC (.int 0))) (eC (.int 0))))) (sRet (eC (.bool false))) sNx)
noncomputable def G_law_s11 : St' := (sIf (bVal (eB gtO (eB ixO (eCall 3 F_change (eCons (eV 2) (eCons (eV 11) (eCons (eV 5) eNil)))) (eC (.int 0))) (eB addO (eB ixO (eV 9) (eC (.int 0))) (eB ixO (eCall 3 F_change (eCons (eV 4) (eCons (eV 11) (eCons (eV 5) eNil)))) (eC (.int 0)))))) (sRet (eC (.bool false))) sNx)
noncomputable def G_law_s12 : St' := (sAsg (eFrz C_law_6) (gN 12))
noncomputable def G_law_s13 : St' := (sIf (bVal (eB neO (eCall 3 F_change (eCons (eB ixO (eV 12) (eC (.int 0))) (eCons (eB ixO (eV 12) (eC (.int 1))) (eCons (eV 5) eNil)))) (eV 9))) (sRet (eC (.bool false))) sNx)
noncomputable def G_law_s14 : St' := (sAsg (eMut (eDisp (eCons (eRef hs__law_refusal "" (eCall 3 F_change (eCons (eCall 2 F__law_pick (eCons (eV 1) (eCons (eFrz (eDisp (eCons (eC .none) (eCons (eTup (eCons (eC (.int 128)) eNil)) (eCons (eFrz (eDisp (eCons (eC (.int 60)) eNil))) eNil))))) eNil))) (eCons (eV 4) (eCons (eV 5) eNil))))) eNil))) (gN 15))
noncomputable def G_law_s15 : St' := (sAsg (eCall 2 F__law_pick (eCons (eV 1) (eCons (eFrz (eDisp (eCons (eC .none) (eCons (eTup (eCons (eC (.int 1)) (eCons (eC (.int 1)) eNil))) (eCons (eTup (eCons (eC (.int 1)) (eCons (eC (.int 1)) (eCons (eU negO (eC (.int 1))) eNil)))) (eCons (eTup (eCons (eC (.int 1)) (eCons (eC (.int 1)) (eCons (eC (.bool true)) eNil)))) (eCons (eFrz (eDisp (eCons (eC (.int 1)) (eCons (eC (.int 1)) (eCons (eC (.int 1)) eNil))))) (eCons (eTup (eCons (eC (.int 1)) (eCons (eC (.int 1)) (eCons (eC (.int 1)) (eCons (eC (.int 1)) eNil))))) eNil)))))))) eNil))) (gN 16))
noncomputable def G_law_s16 : St' := (sExpr (eMethL appM (eV 15) (eCons (eRef hs__law_refusal "" (eCall 3 F_change (eCons (eV 2) (eCons (eV 4) (eCons (eV 16) eNil))))) eNil)))
noncomputable def G_law_s17 : St' := (sExpr (eMethL appM (eV 15) (eCons (eRef hs__law_refusal "" (eCall 5 Fb_is_change (eCons (eV 2) (eCons (eV 4) (eCons (eV 16) (eCons (eC (.int 0)) (eCons (eTup eNil) eNil))))))) eNil)))
noncomputable def G_law_s18 : St' := (sRet (eB eqO (eV 15) (eFrz (eRep (eDisp (eCons (eC (.str "BadTune")) eNil)) (eC (.int 3))))))
noncomputable def G_law : St' := (sSeq G_law_s0 (sSeq G_law_s1 (sSeq G_law_s2 (sSeq G_law_s3 (sSeq G_law_s4 (sSeq G_law_s5 (sSeq G_law_s6 (sSeq G_law_s7 (sSeq G_law_s8 (sSeq G_law_s9 (sSeq G_law_s10 (sSeq G_law_s11 (sSeq G_law_s12 (sSeq G_law_s13 (sSeq G_law_s14 (sSeq G_law_s15 (sSeq G_law_s16 (sSeq G_law_s17 G_law_s18))))))))))))))))))
noncomputable def F_law : List D → Sto → R D := fnF 17 G_law
theorem sc_law : FnScope N_law ["script"] (defScope st_law) := ⟨rfl, rfl, rfl, by decide +kernel, rfl, by decide +kernel, by decide +kernel⟩
theorem ok_law (t : Told fas fns K mg) : ∃ fd, (∀ (s : Shared) (us : List Value), us.length = (["script"] : List Str).length → BindsTo s fd ⟨us, []⟩ ((["script"] : List Str).zip us)) ∧ ∀ base, TabB base mg (He.codeOf K ("law", none)) (lawT K) → FnG P w K mg base (L2.CX P w) 86 (He.ga K "law") fd ["script"] (spF K (TT K) (xcs K) 1 F_law) := by
  refine mk_okL (k := 85) (N := N_law) (x := "law") t 17 43 rfl rfl sc_law (by decide) (fun _ _ _ _ _ _ us hl => match us, hl with | [_], _ => rfl) fun base TB f A outer s H E gd hr => ?_
  have hu : (A.deeper (envOfC "law" (defScope st_law) s.heap.objs.size f (.ref (He.codeOf K ("law", none))))).units + 64 < cLine := by have := hr.un; omega
  have hr2 := hr
  unfold G_law
  exact (fss_cons (fs_set (i := 1) sc_law.nd rfl (by first | exact Or.inl rfl | exact Or.inr rfl) (cD (ok__law_box t) wok_fn hr (fa_cons (fe_var 0) fa_nil))) (fss_cons (fs_set (i := 2) sc_law.nd rfl (by first | exact Or.inl rfl | exact Or.inr rfl) (fe_ty cTup (by rfl) (t.free "tuple" 9) (by rfl) (fa_cons (fe_frz (fn_lc rfl sc_law.nd (own := [("turn", 3)]) (blkOk_by (by rfl)) (fi_rng1 (fa_cons (cD (ok__law_take t) wok_fn hr (fa_cons (fe_var 1) (fa_cons fe_int fa_nil))) fa_nil) (t.free "range" 10)) (fun _ _ _ _ _ => (cg_name (i := 3) sc_law.nd rfl (by first | exact Or.inl rfl | exact Or.inr rfl) (by decide))) (fun _ _ _ _ _ => fts_nil) (fun _ _ _ _ _ => (fe_op oAdd fe_int (cD (ok__law_take t) Wok.none hr (fa_cons (fe_var 1) (fa_cons fe_int fa_nil))))))) fa_nil))) (fss_cons (fs_set (i := 4) sc_law.nd rfl (by first | exact Or.inl rfl | exact Or.inr rfl) (fe_ty cTup (by rfl) (t.free "tuple" 9) (by rfl) (fa_cons (fe_frz (fn_lc rfl sc_law.nd (own := [("turn", 3)]) (blkOk_by (by rfl)) (fi_rng1 (fa_cons (cD (ok__law_take t) wok_fn hr (fa_cons (fe_var 1) (fa_cons fe_int fa_nil))) fa_nil) (t.free "range" 10)) (fun _ _ _ _ _ => (cg_name (i := 3) sc_law.nd rfl (by first | exact Or.inl rfl | exact Or.inr rfl) (by decide))) (fun _ _ _ _ _ => fts_nil) (fun _ _ _ _ _ => (fe_op oAdd fe_int (cD (ok__law_take t) Wok.none hr (fa_cons (fe_var 1) (fa_cons fe_int fa_nil))))))) fa_nil))) (fss_cons (fs_set (i := 5) sc_law.nd rfl (by first | exact Or.inl rfl | exact Or.inr rfl) (fe_tup (fa_cons (cD (ok__law_take t) wok_fn hr (fa_cons (fe_var 1) (fa_cons fe_int fa_nil))) (fa_cons (cD (ok__law_take t) wok_fn hr (fa_cons (fe_var 1) (fa_cons fe_int fa_nil))) (fa_cons (cD (ok__law_take t) wok_fn hr (fa_cons (fe_var 1) (fa_cons fe_int fa_nil))) fa_nil))))) (fss_cons (fs_setLcF (i := 6) rfl sc_law.nd rfl rfl (by rfl) (own := [("i", 7)]) (blkOk_by (by rfl)) (fi_rng1 (fa_cons (fe_op oAdd (fe_blt cLen (by rfl) (t.free "len" 3) (by rfl) (fa_cons (fe_var 2) fa_nil)) fe_int) fa_nil) (t.free "range" 10)) (fun _ _ _ _ _ => (cg_name (i := 7) sc_law.nd rfl (by first | exact Or.inl rfl | exact Or.inr rfl) (by decide))) (fun _ _ _ _ _ => fts_nil) (fun _ _ _ _ _ => (fe_ty cTup (by rfl) (t.free "tuple" 9) (by rfl) (fa_cons (fe_frz (fn_lc rfl sc_law.nd (own := [("j", 8)]) (blkOk_by (by rfl)) (fi_rng1 (fa_cons (fe_op oAdd (fe_blt cLen (by rfl) (t.free "len" 3) (by rfl) (fa_cons (fe_var 4) fa_nil)) fe_int) fa_nil) (t.free "range" 10)) (fun _ _ _ _ _ => (cg_name (i := 8) sc_law.nd rfl (by first | exact Or.inl rfl | exact Or.inr rfl) (by decide))) (fun _ _ _ _ _ => fts_nil) (fun _ _ _ _ _ => (cD (ok__law_least t 40) Wok.none hr (fa_cons (fe_cut (fe_var 2) fo_none (fo_some (fe_var 7))) (fa_cons (fe_cut (fe_var 4) fo_none (fo_some (fe_var 8))) (fa_cons (fe_var 5) fa_nil))))))) fa_nil)))) (fss_cons (fs_set (i := 9) sc_law.nd rfl (by first | exact Or.inl rfl | exact Or.inr rfl) (fe_tup (fa_cons (fe_ix (fe_ix (fe_var 6) (fe_un oNeg fe_int)) (fe_un oNeg fe_int)) (fa_cons (fe_ty cTup (by rfl) (t.free "tuple" 9) (by rfl) (fa_cons (fe_var 6) fa_nil)) fa_nil)))) (fss_cons (fs_if (ft_cmp (oNe hu) (fe_blt (cRepr gd hu) (by rfl) (t.free "repr" 41) (by rfl) (fa_cons (cD (ok_change t) wok_fn hr (fa_cons (fe_var 2) (fa_cons (fe_var 4) (fa_cons (fe_var 5) fa_nil)))) fa_nil)) (fe_blt (cRepr gd hu) (by rfl) (t.free "repr" 41) (by rfl) (fa_cons (fe_var 9) fa_nil)) (nomark _)) (fss_one (fs_ret fe_bl)) fss_nil) (fss_cons (fs_set (i := 10) sc_law.nd rfl (by first | exact Or.inl rfl | exact Or.inr rfl) (fe_var 9)) (fss_cons (fs_for (pOk rfl) rfl (fi_rng1 (fa_cons fe_int fa_nil) (t.free "range" 10)) (fg_name (i := 3) sc_law.nd rfl (by first | exact Or.inl rfl | exact Or.inr rfl)) (fss_cons (fs_if ((fw_and (ft_tru (fe_isi isa_tuple (by rfl) (t.free "isinstance" 6) (by rfl) (t.free "tuple" 9) (by rfl) (fe_var 10))) (fw_and1 (ft_cmp (oEq hu) (fe_blt cLen (by rfl) (t.free "len" 3) (by rfl) (fa_cons (fe_var 10) fa_nil)) fe_int (nomark _))))).pt (fss_one (fs_if (ft_not (ft_tru (cD (ok__law_says t) wok_fn hr (fa_cons (cG (okg_is_change t) gd wok_fn hr (fa_cons (fe_var 2) (fa_cons (fe_var 4) (fa_cons (fe_var 5) (fa_cons (fe_ix (fe_var 10) fe_int) (fa_cons (fe_ix (fe_var 10) fe_int) fa_nil)))))) (fa_cons (fe_cmp (oEq hu) (fe_blt (cRepr gd hu) (by rfl) (t.free "repr" 41) (by rfl) (fa_cons (fe_var 10) fa_nil)) (fe_blt (cRepr gd hu) (by rfl) (t.free "repr" 41) (by rfl) (fa_cons (fe_var 9) fa_nil)) (nomark _)) fa_nil))))) (fss_one (fs_ret fe_bl)) fss_nil)) fss_nil) (fss_one (fs_set (i := 10) sc_law.nd rfl (by first | exact Or.inl rfl | exact Or.inr rfl) (cD (ok__law_bent t 40) wok_fn hr (fa_cons (fe_var 1) (fa_cons (fe_var 9) fa_nil))))))) (fss_cons (fs_set (i := 11) sc_law.nd rfl (by first | exact Or.inl rfl | exact Or.inr rfl) (fe_ty cTup (by rfl) (t.free "tuple" 9) (by rfl) (fa_cons (fe_frz (fn_lc rfl sc_law.nd (own := [("turn", 3)]) (blkOk_by (by rfl)) (fi_rng1 (fa_cons (cD (ok__law_take t) wok_fn hr (fa_cons (fe_var 1) (fa_cons fe_int fa_nil))) fa_nil) (t.free "range" 10)) (fun _ _ _ _ _ => (cg_name (i := 3) sc_law.nd rfl (by first | exact Or.inl rfl | exact Or.inr rfl) (by decide))) (fun _ _ _ _ _ => fts_nil) (fun _ _ _ _ _ => (fe_op oAdd fe_int (cD (ok__law_take t) Wok.none hr (fa_cons (fe_var 1) (fa_cons fe_int fa_nil))))))) fa_nil))) (fss_cons (fs_if ((fw_or (ft_cmp (oNe hu) (fe_ix (cD (ok_change t) wok_fn hr (fa_cons (fe_var 4) (fa_cons (fe_var 2) (fa_cons (fe_var 5) fa_nil)))) fe_int) (fe_ix (fe_var 9) fe_int) (nomark _)) (fw_or1 (ft_cmp (oNe hu) (fe_ix (cD (ok_change t) wok_fn hr (fa_cons (fe_var 2) (fa_cons (fe_var 2) (fa_cons (fe_var 5) fa_nil)))) fe_int) fe_int (nomark _))))).pt (fss_one (fs_ret fe_bl)) fss_nil) (fss_cons (fs_if (ft_cmp (oGt hu) (fe_ix (cD (ok_change t) wok_fn hr (fa_cons (fe_var 2) (fa_cons (fe_var 11) (fa_cons (fe_var 5) fa_nil)))) fe_int) (fe_op oAdd (fe_ix (fe_var 9) fe_int) (fe_ix (cD (ok_change t) wok_fn hr (fa_cons (fe_var 4) (fa_cons (fe_var 11) (fa_cons (fe_var 5) fa_nil)))) fe_int)) (nomark _)) (fss_one (fs_ret fe_bl)) fss_nil) (fss_cons (fs_setLcF (i := 12) rfl sc_law.nd rfl rfl (by rfl) (own := [("tune", 13)]) (blkOk_by (by rfl)) (fi_seq (fe_tup (fa_cons (fe_var 2) (fa_cons (fe_var 4) fa_nil)))) (fun _ _ _ _ _ => (cg_name (i := 13) sc_law.nd rfl (by first | exact Or.inl rfl | exact Or.inr rfl) (by decide))) (fun _ _ _ _ _ => fts_nil) (fun _ _ _ _ _ => (fe_ty cTup (by rfl) (t.free "tuple" 9) (by rfl) (fa_cons (fe_frz (fn_lc rfl sc_law.nd (own := [("one", 14)]) (blkOk_by (by rfl)) (fi_seq (fe_var 13)) (fun _ _ _ _ _ => (cg_name (i := 14) sc_law.nd rfl (by first | exact Or.inl rfl | exact Or.inr rfl) (by decide))) (fun _ _ _ _ _ => fts_nil) (fun _ _ _ _ _ => (fe_op oAdd (fe_var 14) fe_int)))) fa_nil)))) (fss_cons (fs_if (ft_cmp (oNe hu) (cD (ok_change t) wok_fn hr (fa_cons (fe_ix (fe_var 12) fe_int) (fa_cons (fe_ix (fe_var 12) fe_int) (fa_cons (fe_var 5) fa_nil)))) (fe_var 9) (nomark _)) (fss_one (fs_ret fe_bl)) fss_nil) (fss_cons (fs_set (i := 15) sc_law.nd rfl (by first | exact Or.inl rfl | exact Or.inr rfl) (fe_mut (fn_disp (fa_cons (refu__law_refusal t TB (by rfl) (by rfl) hr2 (lamS_by (by rfl)) (by rfl) (fun _ _ _ _ _ => rfl) (fun A outer s H E f c2 hr => (cD (ok_change t) wok_lam hr (fa_cons (cD (ok__law_pick t) wok_lam hr (fa_cons (fe_var 1) (fa_cons (fe_frz (fn_disp (fa_cons fe_non (fa_cons (fe_tup (fa_cons fe_int fa_nil)) (fa_cons (fe_frz (fn_disp (fa_cons fe_int fa_nil))) fa_nil))))) fa_nil))) (fa_cons (fe_var 4) (fa_cons (fe_var 5) fa_nil)))))) fa_nil)))) (fss_cons (fs_set (i := 16) sc_law.nd rfl (by first | exact Or.inl rfl | exact Or.inr rfl) (cD (ok__law_pick t) wok_fn hr (fa_cons (fe_var 1) (fa_cons (fe_frz (fn_disp (fa_cons fe_non (fa_cons (fe_tup (fa_cons fe_int (fa_cons fe_int fa_nil))) (fa_cons (fe_tup (fa_cons fe_int (fa_cons fe_int (fa_cons (fe_un oNeg fe_int) fa_nil)))) (fa_cons (fe_tup (fa_cons fe_int (fa_cons fe_int (fa_cons fe_bl fa_nil)))) (fa_cons (fe_frz (fn_disp (fa_cons fe_int (fa_cons fe_int (fa_cons fe_int fa_nil))))) (fa_cons (fe_tup (fa_cons fe_int (fa_cons fe_int (fa_cons fe_int (fa_cons fe_int fa_nil))))) fa_nil)))))))) fa_nil)))) (fss_cons (fs_expr (fe_app (fe_var 15) (refu__law_refusal t TB (by rfl) (by rfl) hr2 (lamS_by (by rfl)) (by rfl) (fun _ _ _ _ _ => rfl) (fun A outer s H E f c2 hr => (cD (ok_change t) wok_lam hr (fa_cons (fe_var 2) (fa_cons (fe_var 4) (fa_cons (fe_var 16) fa_nil)))))))) (fss_cons (fs_expr (fe_app (fe_var 15) (refu__law_refusal t TB (by rfl) (by rfl) hr2 (lamS_by (by rfl)) (by rfl) (fun _ _ _ _ _ => rfl) (fun A outer s H E f c2 hr => (cD (okb_is_change t) wok_lam hr (fa_cons (fe_var 2) (fa_cons (fe_var 4) (fa_cons (fe_var 16) (fa_cons fe_int (fa_cons (fe_tup fa_nil) fa_nil)))))))))) (fss_one (fs_ret (fe_cmp (oEq hu) (fe_var 15) (fe_frz (fn_rep (fn_disp (fa_cons fe_str fa_nil)) fe_int)) (nomark _))))))))))))))))))))))
end
/-- the other names of the module -/
def loose0 : List Str := ["TuneError", "BadTune", "NotSo", "TooMuch", "is_number", "HIGHEST", "is_height", "MOST_HEIGHTS", "is_tune", "check_tune", "check_costs", "table_of", "change", "is_change", "_law_box", "_law_take", "_law_pick", "_law_says", "_law_whole", "_law_odd", "_law_bent", "_law_refusal", "_law_least"]
def loose : List Str := loose0
end K88
/-! K88p: the plain law of k88: the least cost of changing one list into another. -/
namespace K88
/-- costs: put in or leave out, what another one costs, .. by each step between -/
structure Co where
  p : Int
  o : Int
  b : Int
structure Co.Ok (c : Co) : Prop where
  p0 : 0 ≤ c.p
  o0 : 0 ≤ c.o
  b0 : 0 ≤ c.b
def ab (x : Int) : Int := if x < 0 then -x else x
def sub (c : Co) (x y : Int) : Int := if x = y then 0 else c.o + c.b * ab (x - y)
def min3 (a b d : Int) : Int := if b < a then (if d < b then d else b) else (if d < a then d else a)
theorem min3_sym (a b d : Int) : min3 a b d = min3 b a d := by
  unfold min3
  by_cases h1 : b < a <;> by_cases h2 : a < b <;> by_cases h3 : d < b <;> by_cases h4 : d < a <;> simp [h1, h2, h3, h4] <;> omega
/-- over lists told from their ends -/
def levR (c : Co) : List Int → List Int → Int
  | [], ys => c.p * ys.length
  | x :: xs, [] => c.p * ((x :: xs).length : Int)
  | x :: xs, y :: ys => min3 (levR c xs (y :: ys) + c.p) (levR c (x :: xs) ys + c.p) (levR c xs ys + sub c x y)
termination_by xs ys => xs.length + ys.length
def lev (c : Co) (a b : List Int) : Int := levR c a.reverse b.reverse
theorem min3_le (a b d : Int) : min3 a b d ≤ a ∧ min3 a b d ≤ b ∧ min3 a b d ≤ d := by unfold min3; split <;> split <;> omega
theorem min3_is (a b d : Int) : min3 a b d = a ∨ min3 a b d = b ∨ min3 a b d = d := by unfold min3; split <;> split <;> omega
theorem levR_nil (c : Co) (xs : List Int) : levR c xs [] = c.p * xs.length := by
  cases xs with
  | nil => rw [levR]
  | cons x xs => rw [levR]
theorem levR_cons (c : Co) (x y : Int) (xs ys : List Int) : levR c (x :: xs) (y :: ys) = min3 (levR c xs (y :: ys) + c.p) (levR c (x :: xs) ys + c.p) (levR c xs ys + sub c x y) := by rw [levR]
theorem levR_nilL (c : Co) (ys : List Int) : levR c [] ys = c.p * ys.length := by rw [levR]
theorem ab_nn (x : Int) : 0 ≤ ab x := by unfold ab; split <;> omega
theorem ab_tri (x y z : Int) : ab (x - z) ≤ ab (x - y) + ab (y - z) := by unfold ab; split <;> split <;> split <;> omega
theorem ab_sym (x y : Int) : ab (x - y) = ab (y - x) := by unfold ab; split <;> split <;> omega
theorem sub_nn {c : Co} (h : c.Ok) (x y : Int) : 0 ≤ sub c x y := by
  unfold sub
  split
  · omega
  · have := Int.mul_nonneg h.b0 (ab_nn (x - y))
    have := h.o0
    omega
theorem sub_sym (c : Co) (x y : Int) : sub c x y = sub c y x := by
  unfold sub
  rw [ab_sym x y]
  by_cases e : x = y
  · rw [if_pos e, if_pos e.symm]
  · rw [if_neg e, if_neg fun z => e z.symm]
theorem sub_tri {c : Co} (h : c.Ok) (x y z : Int) : sub c x z ≤ sub c x y + sub c y z := by
  have h1 := sub_nn h x y
  have h2 := sub_nn h y z
  by_cases e : x = z
  · have : sub c x z = 0 := by unfold sub; rw [if_pos e]
    omega
  · by_cases e1 : x = y
    · subst e1
      omega
    · by_cases e2 : y = z
      · subst e2
        omega
      · unfold sub
        rw [if_neg e, if_neg e1, if_neg e2]
        have t := Int.mul_le_mul_of_nonneg_left (ab_tri x y z) h.b0
        rw [Int.mul_add] at t
        have := h.o0
        omega
theorem levR_sym (c : Co) : ∀ (n : Nat) (xs ys : List Int), xs.length + ys.length ≤ n → levR c xs ys = levR c ys xs := by
  intro n
  induction n with
  | zero =>
    intro xs ys h
    have h1 : xs = [] := List.length_eq_zero_iff.mp (by omega)
    have h2 : ys = [] := List.length_eq_zero_iff.mp (by omega)
    subst h1 h2; rfl
  | succ n ih =>
    intro xs ys h
    cases xs with
    | nil => rw [levR_nil, levR_nilL]
    | cons x xs =>
      cases ys with
      | nil => rw [levR_nil, levR_nilL]
      | cons y ys =>
        simp only [List.length_cons] at h
        rw [levR_cons, levR_cons, ih xs (y :: ys) (by simp; omega), ih (x :: xs) ys (by simp; omega), ih xs ys (by omega), sub_sym c x y]
        exact min3_sym _ _ _
theorem levR_nn {c : Co} (h : c.Ok) : ∀ (n : Nat) (xs ys : List Int), xs.length + ys.length ≤ n → 0 ≤ levR c xs ys ∧ c.p * ys.length ≤ c.p * xs.length + levR c xs ys ∧ levR c xs ys ≤ c.p * (xs.length + ys.length) := by
  have hp := h.p0
  intro n
  induction n with
  | zero =>
    intro xs ys hn
    have h1 : xs = [] := List.length_eq_zero_iff.mp (by omega)
    have h2 : ys = [] := List.length_eq_zero_iff.mp (by omega)
    subst h1 h2
    rw [levR_nil]; simp
  | succ n ih =>
    intro xs ys hn
    cases xs with
    | nil =>
      rw [levR_nilL]
      have := Int.mul_nonneg hp (Int.natCast_nonneg ys.length)
      simp; exact this
    | cons x xs =>
      cases ys with
      | nil =>
        rw [levR_nil]
        have := Int.mul_nonneg hp (Int.natCast_nonneg (x :: xs).length)
        simp only [List.length_nil]
        simp at *
        omega
      | cons y ys =>
        simp only [List.length_cons] at hn
        rw [levR_cons]
        obtain ⟨a1, a2, a3⟩ := ih xs (y :: ys) (by simp; omega)
        obtain ⟨b1, b2, b3⟩ := ih (x :: xs) ys (by simp; omega)
        obtain ⟨c1, c2, c3⟩ := ih xs ys (by omega)
        have s0 := sub_nn h x y
        have m1 := min3_le (levR c xs (y :: ys) + c.p) (levR c (x :: xs) ys + c.p) (levR c xs ys + sub c x y)
        have m2 := min3_is (levR c xs (y :: ys) + c.p) (levR c (x :: xs) ys + c.p) (levR c xs ys + sub c x y)
        simp only [List.length_cons, Int.natCast_add, Int.mul_add, Int.natCast_one, Int.mul_one] at *
        omega
theorem levR_self {c : Co} (h : c.Ok) : ∀ xs : List Int, levR c xs xs = 0
  | [] => by rw [levR_nil]; simp
  | x :: xs => by
    have e := levR_self h xs
    have n := (levR_nn h _ (x :: xs) (x :: xs) (Nat.le_refl _)).1
    have m := min3_le (levR c xs (x :: xs) + c.p) (levR c (x :: xs) xs + c.p) (levR c xs xs + sub c x x)
    have s : sub c x x = 0 := by unfold sub; rw [if_pos rfl]
    rw [levR_cons] at n ⊢
    omega
theorem levR_tri {c : Co} (h : c.Ok) : ∀ (n : Nat) (xs ys zs : List Int), xs.length + ys.length + zs.length ≤ n → levR c xs zs ≤ levR c xs ys + levR c ys zs := by
  have hp := h.p0
  intro n
  induction n with
  | zero =>
    intro xs ys zs hn
    have h1 : xs = [] := List.length_eq_zero_iff.mp (by omega)
    have h2 : ys = [] := List.length_eq_zero_iff.mp (by omega)
    have h3 : zs = [] := List.length_eq_zero_iff.mp (by omega)
    subst h1 h2 h3
    rw [levR_nil]; simp
  | succ n ih =>
    intro xs ys zs hn
    cases xs with
    | nil =>
      have := (levR_nn h _ ys zs (Nat.le_refl _)).2.1
      rw [levR_nilL, levR_nilL]; exact this
    | cons x xs =>
      cases zs with
      | nil =>
        have e := levR_sym c _ (x :: xs) ys (Nat.le_refl _)
        have := (levR_nn h _ ys (x :: xs) (Nat.le_refl _)).2.1
        rw [levR_nil, levR_nil, e]; omega
      | cons z zs =>
        cases ys with
        | nil =>
          have := (levR_nn h _ (x :: xs) (z :: zs) (Nat.le_refl _)).2.2
          rw [levR_nil, levR_nilL, ← Int.mul_add]; exact this
        | cons y ys =>
          simp only [List.length_cons] at hn
          have t1 := ih xs (y :: ys) (z :: zs) (by simp; omega)
          have t2 := ih (x :: xs) (y :: ys) zs (by simp; omega)
          have t3 := ih (x :: xs) ys (z :: zs) (by simp; omega)
          have t4 := ih (x :: xs) ys zs (by simp; omega)
          have t5 := ih xs ys (z :: zs) (by simp; omega)
          have t6 := ih xs ys zs (by omega)
          have s1 := sub_nn h x y
          have s2 := sub_nn h y z
          have s3 := sub_tri h x y z
          have m1 := min3_is (levR c xs (y :: ys) + c.p) (levR c (x :: xs) ys + c.p) (levR c xs ys + sub c x y)
          have m2 := min3_is (levR c ys (z :: zs) + c.p) (levR c (y :: ys) zs + c.p) (levR c ys zs + sub c y z)
          have m3 := min3_le (levR c xs (z :: zs) + c.p) (levR c (x :: xs) zs + c.p) (levR c xs zs + sub c x z)
          rw [← levR_cons] at m1 m2 m3
          omega
theorem levR_shift (c : Co) (k : Int) : ∀ (n : Nat) (xs ys : List Int), xs.length + ys.length ≤ n → levR c (xs.map (· + k)) (ys.map (· + k)) = levR c xs ys := by
  intro n
  induction n with
  | zero =>
    intro xs ys h
    have h1 : xs = [] := List.length_eq_zero_iff.mp (by omega)
    have h2 : ys = [] := List.length_eq_zero_iff.mp (by omega)
    subst h1 h2; rfl
  | succ n ih =>
    intro xs ys h
    cases xs with
    | nil => rw [List.map_nil, levR_nilL, levR_nilL, List.length_map]
    | cons x xs =>
      cases ys with
      | nil => rw [List.map_nil, levR_nil, levR_nil, List.length_map]
      | cons y ys =>
        simp only [List.length_cons] at h
        have e1 := ih xs (y :: ys) (by simp; omega)
        have e2 := ih (x :: xs) ys (by simp; omega)
        have e3 := ih xs ys (by omega)
        simp only [List.map_cons] at e1 e2 ⊢
        rw [levR_cons, levR_cons, e1, e2, e3]
        have s : sub c (x + k) (y + k) = sub c x y := by
          unfold sub
          have : x + k - (y + k) = x - y := by omega
          rw [this]
          by_cases e : x = y
          · rw [if_pos e, if_pos (by omega)]
          · rw [if_neg e, if_neg (by omega)]
        rw [s]
/-! ### told from the front -/
theorem lev_nil (c : Co) (b : List Int) : lev c [] b = c.p * b.length := by simp [lev, levR_nilL]
theorem lev_nilR (c : Co) (a : List Int) : lev c a [] = c.p * a.length := by simp [lev, levR_nil]
theorem lev_snoc (c : Co) (a b : List Int) (x y : Int) : lev c (a ++ [x]) (b ++ [y]) = min3 (lev c a (b ++ [y]) + c.p) (lev c (a ++ [x]) b + c.p) (lev c a b + sub c x y) := by
  simp only [lev, List.reverse_append, List.reverse_cons, List.reverse_nil, List.nil_append, List.singleton_append]
  exact levR_cons c x y _ _
theorem lev_sym (c : Co) (a b : List Int) : lev c a b = lev c b a := levR_sym c _ _ _ (Nat.le_refl _)
theorem lev_self {c : Co} (h : c.Ok) (a : List Int) : lev c a a = 0 := levR_self h _
theorem lev_tri {c : Co} (h : c.Ok) (a b d : List Int) : lev c a d ≤ lev c a b + lev c b d := levR_tri h _ _ _ _ (Nat.le_refl _)
theorem lev_shift (c : Co) (k : Int) (a b : List Int) : lev c (a.map (· + k)) (b.map (· + k)) = lev c a b := by
  simp only [lev, ← List.map_reverse]
  exact levR_shift c k _ _ _ (Nat.le_refl _)
theorem lev_nn {c : Co} (h : c.Ok) (a b : List Int) : 0 ≤ lev c a b ∧ lev c a b ≤ c.p * (a.length + b.length) := by
  have := levR_nn h _ a.reverse b.reverse (Nat.le_refl _)
  simp only [List.length_reverse] at this
  exact ⟨this.1, this.2.2⟩
end K88
/-! K88m: the table of costs. -/
namespace K88
open PySem PySem.Spec PyProof.Rows L2 Fl
theorem take_eq : F__law_take = F_take := rfl
theorem box_eq : F__law_box = F_box := rfl
theorem pick_eq : F__law_pick = F_pick := rfl
theorem odd_eq : ∀ n, F__law_odd n = F_odd n
  | 0 => rfl
  | n + 1 => by show fnF 4 (G__law_odd (F__law_odd n)) = fnF 4 (G_odd (F_odd n)); rw [odd_eq n]; rfl
theorem bent_eq : ∀ n, F__law_bent n = F_bent n
  | 0 => rfl
  | n + 1 => by
    show fnF 4 (G__law_bent (F__law_bent n)) = fnF 4 (G_bent (F_bent n))
    rw [bent_eq n]
    have e : F__law_odd 40 = F_odd 40 := odd_eq 40
    simp only [G__law_bent, G__law_bent_s0, G__law_bent_s1, G__law_bent_s2, G__law_bent_s3, G__law_bent_s4, G__law_bent_s5, e]
    rfl
theorem says_eq : F__law_says = F_says := rfl
theorem check_eq : F_check_tune = F_cktune := rfl
/-! ### small numbers -/
structure Co.Small (c : Co) : Prop where
  p1 : c.p ≤ 10
  o1 : c.o ≤ 10
  b1 : c.b ≤ 10
/-- heights -/
def Hs (t : List Int) : Prop := t.length ≤ 12 ∧ ∀ v ∈ t, 0 ≤ v ∧ v ≤ 127
def coD (c : Co) : D := .tuple [.int c.p, .int c.o, .int c.b]
theorem lev_small {c : Co} (h : c.Ok) (s : c.Small) {a b : List Int} (ha : a.length ≤ 12) (hb : b.length ≤ 12) : 0 ≤ lev c a b ∧ lev c a b ≤ 240 := by
  have n := lev_nn h a b
  have : c.p * (a.length + b.length) ≤ 10 * 24 := Int.mul_le_mul s.p1 (by omega) (by omega) (by omega)
  omega
theorem ab_small {x y : Int} (hx : 0 ≤ x ∧ x ≤ 127) (hy : 0 ≤ y ∧ y ≤ 127) : 0 ≤ ab (x - y) ∧ ab (x - y) ≤ 127 := by unfold ab; split <;> omega
/-- what one height in the place of another costs -/
noncomputable def eTurn (x y : Nat) : Ex := eIf (bVal (eB eqO (eV x) (eV y))) (eC (.int 0)) (eB addO (eV 4) (eB mulO (eV 5) (eFn absO (eCons (eB subO (eV x) (eV y)) eNil))))
theorem turn_ok {c : Co} (h : c.Ok) (s : c.Small) {x y : Int} (hx : 0 ≤ x ∧ x ≤ 127) (hy : 0 ≤ y ∧ y ≤ 127) {ρ : Fl.Env} {i j : Nat} (st : Sto) (h4 : ρ[4]? = some (some (.int c.o))) (h5 : ρ[5]? = some (some (.int c.b))) (hi : ρ[i]? = some (some (.int x))) (hj : ρ[j]? = some (some (.int y))) : eTurn i j ρ st = .ok (.int (sub c x y)) st := by
  have := ab_small hx hy
  have b0 := h.b0
  have b1 := s.b1
  have hm : ∀ st, mulO (.int c.b) (.int (ab (x - y))) st = some (.int (c.b * ab (x - y)), st) := fun st => mulO_int (mulOk_40 (by omega) (by omega))
  unfold ab at hm
  unfold eTurn sub ab
  by_cases e : x = y
  · simp [hi, hj, e]
  · simp [hi, hj, h4, h5, e, hm]
/-! ### one row -/
def rowN (c : Co) (a b : List Int) (i m : Nat) : List Int := (List.range m).map fun j => lev c (a.take i) (b.take j)
theorem rowN_get {c : Co} {a b : List Int} {i m j : Nat} (h : j < m) : (rowN c a b i m)[j]? = some (lev c (a.take i) (b.take j)) := by simp [rowN, h]
theorem rowN_succ (c : Co) (a b : List Int) (i m : Nat) : rowN c a b i (m + 1) = rowN c a b i m ++ [lev c (a.take i) (b.take m)] := by simp [rowN, List.range_succ]
theorem rowN_len (c : Co) (a b : List Int) (i m : Nat) : (rowN c a b i m).length = m := by simp [rowN]
def eR (a b : List Int) (c : Co) (n m : Nat) (i : Int) (x : Int) (o7 o11 o12 : Option D) : Fl.Env := [some (.tuple (a.map PyData.int)), some (.tuple (b.map PyData.int)), some (coD c), some (.int c.p), some (.int c.o), some (.int c.b), some (D.loc n), o7, some (.int i), some (.int x), some (D.loc m), o11, o12]
theorem take_succ {t : List Int} {k : Nat} (h : k < t.length) : t.take (k + 1) = t.take k ++ [t[k]] := by rw [List.take_add_one, List.getElem?_eq_getElem h]; rfl
theorem lev_step (c : Co) {a b : List Int} {i q : Nat} (hi : i < a.length) (hq : q < b.length) : lev c (a.take (i + 1)) (b.take (q + 1)) = min3 (lev c (a.take i) (b.take (q + 1)) + c.p) (lev c (a.take (i + 1)) (b.take q) + c.p) (lev c (a.take i) (b.take q) + sub c a[i] b[q]) := by
  rw [take_succ hi, take_succ hq, lev_snoc]
/-- one entry more -/
theorem cell_ok {c : Co} (hc : c.Ok) (hs : c.Small) {a b : List Int} (ha : Hs a) (hb : Hs b) {B : Sto} {n i q : Nat} {last : D} (hi : i < a.length) (hq : q < b.length)
    (hl : ∀ r, ixO (D.loc n) (.int (-1)) (B ++ [r]) = some (last, B ++ [r])) (hv : ∀ r (j : Nat), j ≤ b.length → ixO last (.int (j : Int)) (B ++ [r]) = some (.int (lev c (a.take i) (b.take j)), B ++ [r])) (o12 : Option D) :
    G_table_of_b0 (eR a b c n B.length i a[i] (some (.int (q : Int))) (some (.int b[q])) o12) (B ++ [.lst ((rowN c a b (i + 1) (q + 1)).map PyData.int)]) =
      .nx (eR a b c n B.length i a[i] (some (.int (q : Int))) (some (.int b[q])) (some (.int (sub c a[i] b[q])))) (B ++ [.lst ((rowN c a b (i + 1) (q + 2)).map PyData.int)]) := by
  have hx := ha.2 a[i] (List.getElem_mem hi)
  have hy := hb.2 b[q] (List.getElem_mem hq)
  have t1 := turn_ok hc hs hx hy (ρ := eR a b c n B.length i a[i] (some (.int (q : Int))) (some (.int b[q])) o12) (i := 9) (j := 11) (B ++ [.lst ((rowN c a b (i + 1) (q + 1)).map PyData.int)]) rfl rfl rfl rfl
  have hrow : ∀ R : List D, (B ++ [Ob.lst R])[B.length]? = some (.lst R) := fun R => last_get
  have v0 := hv (.lst ((rowN c a b (i + 1) (q + 1)).map PyData.int)) q (by omega)
  have v1 := hv (.lst ((rowN c a b (i + 1) (q + 1)).map PyData.int)) (q + 1) (by omega)
  have l0 := hl (.lst ((rowN c a b (i + 1) (q + 1)).map PyData.int))
  have c1 : ((q + 1 : Nat) : Int) = (q : Int) + 1 := by omega
  rw [c1] at v1
  have v2 := ixO_loc (i := (q : Int)) (hrow ((rowN c a b (i + 1) (q + 1)).map PyData.int)) (by omega) (d := .int (lev c (a.take (i + 1)) (b.take q))) (by rw [Int.toNat_natCast, List.getElem?_map, rowN_get (by omega)]; rfl)
  have hlen := hb.1
  have hap := app_ok (o := eV 10) (y := eFn minO (eCons (eB addO (eB ixO (eB ixO (eV 6) (eU negO (eC (.int 1)))) (eB addO (eV 7) (eC (.int 1)))) (eV 3)) (eCons (eB addO (eB ixO (eV 10) (eV 7)) (eV 3)) (eCons (eB addO (eB ixO (eB ixO (eV 6) (eU negO (eC (.int 1)))) (eV 7)) (eV 12)) eNil))))
    (ρ := eR a b c n B.length i a[i] (some (.int (q : Int))) (some (.int b[q])) (some (.int (sub c a[i] b[q])))) (st := B ++ [.lst ((rowN c a b (i + 1) (q + 1)).map PyData.int)]) (s1 := B ++ [.lst ((rowN c a b (i + 1) (q + 1)).map PyData.int)]) (n := B.length) (ds := (rowN c a b (i + 1) (q + 1)).map PyData.int) (d := .int (lev c (a.take (i + 1)) (b.take (q + 1)))) rfl last_get
    (by
      rw [lev_step c hi hq]
      generalize hB : B ++ [Ob.lst ((rowN c a b (i + 1) (q + 1)).map PyData.int)] = S at *
      generalize B.length = m at *
      simp only [D.loc] at l0 v2
      simp [eR, l0, v0, v1, v2, min3O, min3]) last_get (by simp [rowN_len]; omega)
  rw [last_set] at hap
  have hfin : (rowN c a b (i + 1) (q + 1)).map PyData.int ++ [.int (lev c (a.take (i + 1)) (b.take (q + 1)))] = (rowN c a b (i + 1) (q + 2)).map PyData.int := by
    rw [rowN_succ c a b (i + 1) (q + 1)]; simp
  rw [hfin] at hap
  unfold G_table_of_b0
  rw [sq (ρ' := eR a b c n B.length i a[i] (some (.int (q : Int))) (some (.int b[q])) (some (.int (sub c a[i] b[q])))) (st' := B ++ [.lst ((rowN c a b (i + 1) (q + 1)).map PyData.int)])]
  · exact hap
  · show sAsg (eTurn 9 11) (gN 12) _ _ = _
    simp only [sAsg, t1, R.bindS, gN]
    rfl
theorem eR_turn {a b : List Int} {c : Co} {n m : Nat} {i x j y z : Int} {st st' : Sto} (h : G_table_of_b0 (eR a b c n m i x (some (.int j)) (some (.int y)) none) st = .nx (eR a b c n m i x (some (.int j)) (some (.int y)) (some (.int z))) st') (F : Fl.Env → Sto → S) :
    ((gTp (gLen 2 (gsCons (gN 7) (gsCons (gN 11) gsNil))) (.tuple [.int j, .int y]) (eR a b c n m i x none none none) st).bindS fun ρ1 s1 => (G_table_of_b0 ρ1 s1).turn [7, 11, 12] F) = F (eR a b c n m i x none none none) st' := by
  simp only [eR] at h
  simp [eR, h]
theorem enOf_ok {t : List Int} {st : Sto} : enOf st [.tuple (t.map PyData.int)] = some (enumD 0 (t.map PyData.int), fun _ => True) := rfl
theorem iEn_ok {e : Ex} {ρ : Fl.Env} {st : Sto} {t : List Int} (h : e ρ st = .ok (.tuple (t.map PyData.int)) st) : iEn (eCons e eNil) ρ st = .ok (enumD 0 (t.map PyData.int), fun _ => True) st := by
  unfold iEn
  simp [h, enOf_ok]
theorem enum_int {t : List Int} {q : Nat} {d : D} (h : (enumD 0 (t.map PyData.int))[q]? = some d) : ∃ hq : q < t.length, d = .tuple [.int (q : Int), .int t[q]] := by
  obtain ⟨x, h1, h2⟩ := enumD_get _ _ _ _ h
  rw [List.getElem?_map] at h1
  by_cases hq : q < t.length
  · refine ⟨hq, ?_⟩
    rw [List.getElem?_eq_getElem hq] at h1
    simp only [Option.map_some, Option.some.injEq] at h1
    rw [h2, ← h1]
    simp
  · rw [List.getElem?_eq_none (by omega)] at h1
    cases h1
/-- a row -/
theorem row_ok {c : Co} (hc : c.Ok) (hs : c.Small) {a b : List Int} (ha : Hs a) (hb : Hs b) {B : Sto} {n i : Nat} {last : D} (hi : i < a.length)
    (hl : ∀ r, ixO (D.loc n) (.int (-1)) (B ++ [r]) = some (last, B ++ [r])) (hv : ∀ r (j : Nat), j ≤ b.length → ixO last (.int (j : Int)) (B ++ [r]) = some (.int (lev c (a.take i) (b.take j)), B ++ [r])) :
    sFor (iEn (eCons (eV 1) eNil)) [7, 11, 12] (gTp (gLen 2 (gsCons (gN 7) (gsCons (gN 11) gsNil)))) G_table_of_b0 (eR a b c n B.length i a[i] none none none) (B ++ [.lst ((rowN c a b (i + 1) 1).map PyData.int)]) =
      .nx (eR a b c n B.length i a[i] none none none) (B ++ [.lst ((rowN c a b (i + 1) (b.length + 1)).map PyData.int)]) := by
  refine sFor_ok (iEn_ok rfl) ?_
  obtain ⟨ρ', st', e, hI⟩ := forL_ind (I := fun q ρ s => ρ = eR a b c n B.length i a[i] none none none ∧ s = B ++ [.lst ((rowN c a b (i + 1) (q + 1)).map PyData.int)]) (src := fun _ => True) (ks := [7, 11, 12]) (tg := gTp (gLen 2 (gsCons (gN 7) (gsCons (gN 11) gsNil)))) (body := G_table_of_b0)
    (enumD 0 (b.map PyData.int)) 0 (eR a b c n B.length i a[i] none none none) (B ++ [.lst ((rowN c a b (i + 1) 1).map PyData.int)]) ⟨rfl, rfl⟩ (fun _ _ _ _ => True.intro) fun q d hd ρ s hI => by
      obtain ⟨rfl, rfl⟩ := hI
      obtain ⟨hq, rfl⟩ := enum_int hd
      have h := cell_ok hc hs ha hb (B := B) (n := n) hi hq hl hv none
      refine ⟨_, _, ⟨rfl, rfl⟩, fun F => ?_⟩
      rw [Nat.zero_add]
      exact eR_turn h F
  obtain ⟨rfl, rfl⟩ := hI
  rw [enumD_len, List.length_map, Nat.zero_add] at e
  exact e
end K88
/-! K88t: the whole table. -/
namespace K88
open PySem PySem.Spec PyProof.Rows L2 Fl
def rowOb (c : Co) (a b : List Int) (i : Nat) : Ob := .lst ((rowN c a b i (b.length + 1)).map PyData.int)
def r0D (c : Co) (a b : List Int) : D := .list ((rowN c a b 0 (b.length + 1)).map PyData.int)
/-- the store when i rows are made -/
def tabS (c : Co) (a b : List Int) (st : Sto) (i : Nat) : Sto := st ++ .lst (r0D c a b :: locsD (st.length + 1) i) :: (List.range i).map fun r => rowOb c a b (r + 1)
theorem tabS_len (c : Co) (a b : List Int) (st : Sto) (i : Nat) : (tabS c a b st i).length = st.length + 1 + i := by simp [tabS]; omega
theorem tabS_rows (c : Co) (a b : List Int) (st : Sto) (i : Nat) : (tabS c a b st i)[st.length]? = some (.lst (r0D c a b :: locsD (st.length + 1) i)) := by
  unfold tabS
  rw [List.getElem?_append_right (Nat.le_refl _), Nat.sub_self]; rfl
theorem tabS_row {c : Co} {a b : List Int} {st : Sto} {i r : Nat} (h : r < i) : (tabS c a b st i)[st.length + 1 + r]? = some (rowOb c a b (r + 1)) := by
  unfold tabS
  rw [List.getElem?_append_right (by omega), show st.length + 1 + r - st.length = r + 1 by omega, List.getElem?_cons_succ]
  simp [h]
theorem tabS_next (c : Co) (a b : List Int) (st : Sto) (i : Nat) : (tabS c a b st i ++ [rowOb c a b (i + 1)]).set st.length (.lst (r0D c a b :: locsD (st.length + 1) i ++ [D.loc (st.length + 1 + i)])) = tabS c a b st (i + 1) := by
  unfold tabS
  rw [List.append_assoc, List.set_append_right _ _ (Nat.le_refl _), Nat.sub_self, List.cons_append, List.set_cons_zero, List.range_succ, List.map_append, locsD_succ]
  rfl
/-- the last row that stands -/
def lastD (c : Co) (a b : List Int) (n : Nat) : Nat → D
  | 0 => r0D c a b
  | k + 1 => D.loc (n + 1 + k)
theorem last_ok (c : Co) (a b : List Int) (st : Sto) (i : Nat) (r : Ob) : ixO (D.loc st.length) (.int (-1)) (tabS c a b st i ++ [r]) = some (lastD c a b st.length i, tabS c a b st i ++ [r]) := by
  have h : (tabS c a b st i ++ [r])[st.length]? = some (.lst (r0D c a b :: locsD (st.length + 1) i)) := by
    rw [List.getElem?_append_left (by rw [tabS_len]; omega), tabS_rows]
  cases i with
  | zero => exact ixO_lastP (ds := []) h
  | succ k =>
    rw [locsD_succ, ← List.cons_append] at h
    exact ixO_lastP h
theorem last_val {c : Co} {a b : List Int} {st : Sto} {i : Nat} (r : Ob) (j : Nat) (hj : j ≤ b.length) : ixO (lastD c a b st.length i) (.int (j : Int)) (tabS c a b st i ++ [r]) = some (.int (lev c (a.take i) (b.take j)), tabS c a b st i ++ [r]) := by
  cases i with
  | zero => exact ixO_lst (by omega) (by rw [Int.toNat_natCast, List.getElem?_map, rowN_get (by omega)]; rfl)
  | succ k =>
    refine ixO_loc (ds := (rowN c a b (k + 1) (b.length + 1)).map PyData.int) ?_ (by omega) (by rw [Int.toNat_natCast, List.getElem?_map, rowN_get (by omega)]; rfl)
    rw [List.getElem?_append_left (by rw [tabS_len]; omega), tabS_row (by omega)]
    rfl
def eO (a b : List Int) (c : Co) (n : Nat) : Fl.Env := [some (.tuple (a.map PyData.int)), some (.tuple (b.map PyData.int)), some (coD c), some (.int c.p), some (.int c.o), some (.int c.b), some (D.loc n), none, none, none, none, none, none]
theorem body_ok {c : Co} (hc : c.Ok) (hs : c.Small) {a b : List Int} (ha : Hs a) (hb : Hs b) {st : Sto} {i : Nat} (hi : i < a.length) (o10 : Option D) :
    G_table_of_b1 [some (.tuple (a.map PyData.int)), some (.tuple (b.map PyData.int)), some (coD c), some (.int c.p), some (.int c.o), some (.int c.b), some (D.loc st.length), none, some (.int (i : Int)), some (.int a[i]), o10, none, none] (tabS c a b st i) =
      .nx (eR a b c st.length (tabS c a b st i).length i a[i] none none none) (tabS c a b st (i + 1)) := by
  have p0 := hc.p0
  have p1 := hs.p1
  have hl := ha.1
  have hm : ∀ st, mulO (.int ((i : Int) + 1)) (.int c.p) st = some (.int (((i : Int) + 1) * c.p), st) := fun st => mulO_int (mulOk_40 (by omega) (by omega))
  have e1 : rowN c a b (i + 1) 1 = [((i : Int) + 1) * c.p] := by
    simp only [rowN, List.range_one, List.map_cons, List.map_nil, List.take_zero, lev_nilR, List.length_take]
    congr 1
    rw [Nat.min_eq_left (by omega), Int.mul_comm]
    push_cast
    rfl
  have hr := row_ok hc hs ha hb (B := tabS c a b st i) (n := st.length) hi (fun r => last_ok c a b st i r) (fun r j hj => last_val r j hj)
  have ha' := app_ok (o := eV 6) (y := eV 10) (ρ := eR a b c st.length (tabS c a b st i).length i a[i] none none none) (st := tabS c a b st i ++ [rowOb c a b (i + 1)]) (s1 := tabS c a b st i ++ [rowOb c a b (i + 1)]) (n := st.length) (ds := r0D c a b :: locsD (st.length + 1) i) (d := D.loc (tabS c a b st i).length) rfl
    (by rw [List.getElem?_append_left (by rw [tabS_len]; omega), tabS_rows]) rfl (by rw [List.getElem?_append_left (by rw [tabS_len]; omega), tabS_rows]) (by simp [locsD_len]; omega)
  rw [tabS_len] at ha'
  rw [tabS_next] at ha'
  unfold G_table_of_b1
  rw [sq (ρ' := eR a b c st.length (tabS c a b st i).length i a[i] none none none) (st' := tabS c a b st i ++ [.lst ((rowN c a b (i + 1) 1).map PyData.int)]), sq hr]
  · rw [tabS_len]; exact ha'
  · rw [e1]
    simp [hm, eR]
theorem body_turn {c : Co} {a b : List Int} {n m : Nat} {i x : Int} {st st' : Sto} (h : G_table_of_b1 [some (.tuple (a.map PyData.int)), some (.tuple (b.map PyData.int)), some (coD c), some (.int c.p), some (.int c.o), some (.int c.b), some (D.loc n), none, some (.int i), some (.int x), none, none, none] st = .nx (eR a b c n m i x none none none) st') (F : Fl.Env → Sto → S) :
    ((gTp (gLen 2 (gsCons (gN 8) (gsCons (gN 9) gsNil))) (.tuple [.int i, .int x]) (eO a b c n) st).bindS fun ρ1 s1 => (G_table_of_b1 ρ1 s1).turn [8, 9, 10, 7, 11, 12] F) = F (eO a b c n) st' := by
  simp only [eR] at h
  simp [eO, h]
theorem loop_ok {c : Co} (hc : c.Ok) (hs : c.Small) {a b : List Int} (ha : Hs a) (hb : Hs b) (st : Sto) :
    sFor (iEn (eCons (eV 0) eNil)) [8, 9, 10, 7, 11, 12] (gTp (gLen 2 (gsCons (gN 8) (gsCons (gN 9) gsNil)))) G_table_of_b1 (eO a b c st.length) (tabS c a b st 0) = .nx (eO a b c st.length) (tabS c a b st a.length) := by
  refine sFor_ok (iEn_ok rfl) ?_
  obtain ⟨ρ', st', e, hI⟩ := forL_ind (I := fun q ρ s => ρ = eO a b c st.length ∧ s = tabS c a b st q) (src := fun _ => True) (ks := [8, 9, 10, 7, 11, 12]) (tg := gTp (gLen 2 (gsCons (gN 8) (gsCons (gN 9) gsNil)))) (body := G_table_of_b1)
    (enumD 0 (a.map PyData.int)) 0 (eO a b c st.length) (tabS c a b st 0) ⟨rfl, rfl⟩ (fun _ _ _ _ => True.intro) fun q d hd ρ s hI => by
      obtain ⟨rfl, rfl⟩ := hI
      obtain ⟨hq, rfl⟩ := enum_int hd
      have h := body_ok hc hs ha hb (st := st) hq none
      refine ⟨_, _, ⟨rfl, rfl⟩, fun F => ?_⟩
      rw [Nat.zero_add]
      exact body_turn h F
  obtain ⟨rfl, rfl⟩ := hI
  rw [enumD_len, List.length_map, Nat.zero_add] at e
  exact e
def rowT (c : Co) (a b : List Int) (i : Nat) : D := .tuple ((rowN c a b i (b.length + 1)).map PyData.int)
def tabD (c : Co) (a b : List Int) : D := .tuple ((List.range (a.length + 1)).map (rowT c a b))
theorem tabD_plain (c : Co) (a b : List Int) : (tabD c a b).plain = true := by
  simp only [tabD, PyData.plain]
  exact all_plain fun d hd => by
    obtain ⟨i, _, rfl⟩ := List.mem_map.mp hd
    simp [rowT, PyData.plain, plain_ints]
theorem depth_le {ds : List D} {k : Nat} (h : ∀ d ∈ ds, d.depth ≤ k) : PyData.depthAll ds ≤ k := by
  induction ds with
  | nil => simp [PyData.depthAll]
  | cons d r ih =>
    have h1 := h d List.mem_cons_self
    have h2 := ih fun x hx => h x (List.mem_cons_of_mem _ hx)
    simp only [PyData.depthAll]; omega
theorem tabD_depth (c : Co) (a b : List Int) : (tabD c a b).depth ≤ 2 := by
  have : PyData.depthAll ((List.range (a.length + 1)).map (rowT c a b)) ≤ 1 := depth_le fun d hd => by
    obtain ⟨i, _, rfl⟩ := List.mem_map.mp hd
    simp [rowT, PyData.depth, depth_ints]
  simp only [tabD, PyData.depth]; omega
theorem table_ok {c : Co} (hc : c.Ok) (hs : c.Small) {a b : List Int} (ha : Hs a) (hb : Hs b) (st : Sto) : F_table_of [.tuple (a.map PyData.int), .tuple (b.map PyData.int), coD c] st = .ok (tabD c a b) st := by
  have p0 := hc.p0
  have p1 := hs.p1
  have hla := ha.1
  have hlb := hb.1
  unfold F_table_of
  refine gcF_ok (ext := .lst (r0D c a b :: locsD (st.length + 1) a.length) :: (List.range a.length).map fun r => rowOb c a b (r + 1)) ?_ (tabD_plain c a b) (by have := tabD_depth c a b; omega)
  -- the first row
  have hr : rng1 [.int ((b.length : Int) + 1)] = some (rangeD 0 1 (b.length + 1)) := by
    rw [rng1_ok (by omega) (by omega)]
    congr 2
  have hi : iRng rng1 (eCons (eB addO (eFn lenO (eCons (eV 1) eNil)) (eC (.int 1))) eNil) [some (.tuple (a.map PyData.int)), some (.tuple (b.map PyData.int)), some (coD c), some (.int c.p), some (.int c.o), some (.int c.b), none, none, none, none, none, none, none] st = .ok (rangeD 0 1 (b.length + 1), fun _ => True) st := iRng_ok (ds := [.int ((b.length : Int) + 1)]) (by simp) hr
  have hc0 := comp_ix (j := 7) (el := eB mulO (eV 7) (eV 3)) (fun (i : Nat) => .int ((i : Int) * c.p)) hi True.intro (by rw [rangeD_len]; omega) fun i d hd => by
    obtain ⟨hi, rfl⟩ := rangeD_get hd
    have hm : ∀ st, mulO (.int (i : Int)) (.int c.p) st = some (.int ((i : Int) * c.p), st) := fun st => mulO_int (mulOk_40 (by omega) (by omega))
    simp [hm]
  rw [rangeD_len] at hc0
  have e0 : (List.range (b.length + 1)).map (fun (i : Nat) => PyData.int ((i : Int) * c.p)) = (rowN c a b 0 (b.length + 1)).map PyData.int := by
    simp only [rowN, List.map_map]
    apply List.map_congr_left
    intro j hj
    have := List.mem_range.mp hj
    simp only [Function.comp, List.take_zero, lev_nil, List.length_take]
    rw [Nat.min_eq_left (by omega), Int.mul_comm]
  rw [e0] at hc0
  -- the end: all rows as tuples
  have hsq : iSeq (eV 6) (eO a b c st.length) (tabS c a b st a.length) = .ok (r0D c a b :: locsD (st.length + 1) a.length, _) (tabS c a b st a.length) := seq_loc rfl (tabS_rows c a b st a.length)
  have hc1 := comp_ix (j := 10) (el := eFn tupO (eCons (eV 10) eNil)) (rowT c a b) hsq (tabS_rows c a b st a.length) (by simp [locsD_len]; omega) fun i d hd => by
    cases i with
    | zero =>
      simp only [List.getElem?_cons_zero, Option.some.injEq] at hd
      subst hd
      simp [eO, r0D, rowT]
    | succ k =>
      simp only [List.getElem?_cons_succ] at hd
      have hk : k < a.length := by
        have := (List.getElem?_eq_some_iff.mp hd).1
        rwa [locsD_len] at this
      rw [locsD_get hk] at hd
      cases hd
      have := tupO_loc (n := st.length + 1 + k) (tabS_row (c := c) (a := a) (b := b) (st := st) hk)
      generalize st.length + 1 + k = p at this ⊢
      simp only [D.loc] at this
      simp [eO, this, rowT]
  rw [List.length_cons, locsD_len] at hc1
  have hl : G_table_of_s2 (eO a b c st.length) (tabS c a b st 0) = .nx (eO a b c st.length) (tabS c a b st a.length) := loop_ok hc hs ha hb st
  unfold fnF G_table_of
  show S.out (sSeq _ _ [some (.tuple (a.map PyData.int)), some (.tuple (b.map PyData.int)), some (coD c), none, none, none, none, none, none, none, none, none, none] st) = _
  have q0 : G_table_of_s0 [some (.tuple (a.map PyData.int)), some (.tuple (b.map PyData.int)), some (coD c), none, none, none, none, none, none, none, none, none, none] st = .nx [some (.tuple (a.map PyData.int)), some (.tuple (b.map PyData.int)), some (coD c), some (.int c.p), some (.int c.o), some (.int c.b), none, none, none, none, none, none, none] st := by
    unfold G_table_of_s0
    simp [coD]
  have q1 : G_table_of_s1 [some (.tuple (a.map PyData.int)), some (.tuple (b.map PyData.int)), some (coD c), some (.int c.p), some (.int c.o), some (.int c.b), none, none, none, none, none, none, none] st = .nx (eO a b c st.length) (tabS c a b st 0) := by
    unfold G_table_of_s1 C_table_of_0
    simp only [sAsg, eMut, eDisp, eCons, eFrz, hc0, R.bind]
    rfl
  have q3 : G_table_of_s3 (eO a b c st.length) (tabS c a b st a.length) = .ret (tabD c a b) (tabS c a b st a.length) := by
    unfold G_table_of_s3 C_table_of_1
    simp only [sRet, eFn, eCons, eFrz, hc1, R.bind]
    rfl
  rw [sq q0, sq q1, sq hl, q3]
  rfl
/-! ### the costs' judge -/
def isNn : D → Bool
  | .int i => decide (0 ≤ i)
  | _ => false
theorem isnum_eq : F_is_number = F_isnum := rfl
def okCo : D → Bool
  | .tuple ds => decide ((ds.length : Int) = 3) && ds.all isNn
  | _ => false
theorem costs_ok {d : D} (h : d.plain = true) (st : Sto) : F_check_costs [d] st = if okCo d = true then .ok .none st else .exc 0 st := by
  unfold F_check_costs fnF G_check_costs C_check_costs_0
  rw [isnum_eq]
  have q := isi_tup h st
  cases d with
  | tuple ds =>
    simp only [PyData.plain] at h
    by_cases hl : (ds.length : Int) = 3
    · have hc := comp_map (a := eV 0) (el := eAnd (eCall 1 F_isnum (eCons (eV 1) eNil)) (eB geO (eV 1) (eC (.int 0)))) (j := 1) (ρ := [some (.tuple ds), none]) (st := st) (fun d => .bool (isNn d)) (seq_tup rfl) True.intro (by omega) fun d hd => by
        have e := isnum_ok (plain_of h d hd) st
        cases d <;> simp [e, isNum, isNn]
      by_cases ha : ds.all isNn = true
      · simp only [sIf, bOr, bNot, bTru, eFn, eCons, eFrz, eNil]
        simp [q, isTup, truD, hl, hc, all_bools, ha, okCo]
      · simp only [sIf, bOr, bNot, bTru, eFn, eCons, eFrz, eNil]
        simp [q, isTup, truD, hl, hc, all_bools, ha, okCo]
    · simp [q, isTup, bTru, truD, hl, okCo]
  | dict _ => simp [PyData.plain] at h
  | _ => simp [q, isTup, bTru, truD, okCo]
end K88
/-! K88c: change, the law's own recursion, the judge. -/
namespace K88
open PySem PySem.Spec PyProof.Rows L2 Fl
theorem tuneD {t : List Int} (h : Hs t) : isTune (.tuple (t.map PyData.int)) = true := isTune_of (by have := h.1; omega) h.2
theorem tupI_plain (t : List Int) : (PyData.tuple (t.map PyData.int)).plain = true := by simp [PyData.plain, plain_ints]
theorem tune_ck {t : List Int} (h : Hs t) (st : Sto) : F_cktune [.tuple (t.map PyData.int)] st = .ok .none st := by
  rw [cktune_ok (tupI_plain t) st, if_pos (tuneD h)]
theorem cost_ck {c : Co} (h : c.Ok) (st : Sto) : F_check_costs [coD c] st = .ok .none st := by
  have e := costs_ok (d := coD c) rfl st
  have h1 := h.p0
  have h2 := h.o0
  have h3 := h.b0
  rw [e]
  simp [okCo, coD, isNn, h1, h2, h3]
/-- the last entry: the whole cost -/
theorem tab_last (c : Co) (a b : List Int) (st : Sto) : ixO (tabD c a b) (.int (-1)) st = some (rowT c a b a.length, st) := by
  unfold tabD
  rw [List.range_succ, List.map_append]
  exact ixO_lastT
theorem row_last (c : Co) (a b : List Int) (st : Sto) : ixO (rowT c a b a.length) (.int (-1)) st = some (.int (lev c a b), st) := by
  unfold rowT
  rw [rowN_succ, List.map_append]
  have := ixO_lastT (ds := (rowN c a b a.length b.length).map PyData.int) (d := .int (lev c (a.take a.length) (b.take b.length))) (st := st)
  rw [List.take_length, List.take_length] at this
  rw [List.take_length, List.take_length]
  exact this
def dueD (c : Co) (a b : List Int) : D := .tuple [.int (lev c a b), tabD c a b]
theorem change_ok {c : Co} (hc : c.Ok) (hs : c.Small) {a b : List Int} (ha : Hs a) (hb : Hs b) (st : Sto) : F_change [.tuple (a.map PyData.int), .tuple (b.map PyData.int), coD c] st = .ok (dueD c a b) st := by
  have e1 := tune_ck ha st
  have e2 := tune_ck hb st
  have e3 := cost_ck hc st
  have e4 := table_ok hc hs ha hb st
  have e5 := tab_last c a b st
  have e6 := row_last c a b st
  unfold F_change fnF G_change sSeq G_change_s0 G_change_s1 G_change_s2 G_change_s3 G_change_s4
  simp [check_eq, e1, e2, e3, e4, e5, e6, dueD]
/-! ### the recursion -/
theorem take_snoc {t : List Int} (h : t ≠ []) : ∃ (s : List Int) (x : Int), t = s ++ [x] := ⟨t.dropLast, t.getLast h, (List.dropLast_concat_getLast h).symm⟩
theorem least_ok {c : Co} (hc : c.Ok) (hs : c.Small) : ∀ (n : Nat) (a b : List Int), Hs a → Hs b → a.length + b.length < n → ∀ st, F__law_least n [.tuple (a.map PyData.int), .tuple (b.map PyData.int), coD c] st = .ok (.int (lev c a b)) st := by
  have p0 := hc.p0
  have p1 := hs.p1
  intro n
  induction n with
  | zero => intro a b _ _ h; omega
  | succ n ih =>
    intro a b ha hb hn st
    have q0 : ∀ st, G__law_least_s0 (F__law_least n) [some (.tuple (a.map PyData.int)), some (.tuple (b.map PyData.int)), some (coD c), none, none, none, none, none, none] st = .nx [some (.tuple (a.map PyData.int)), some (.tuple (b.map PyData.int)), some (coD c), some (.int c.p), some (.int c.o), some (.int c.b), none, none, none] st := fun st => by
      unfold G__law_least_s0
      simp [coD]
    have na := eqO_tupI (a := a) (b := []) (st := st)
    have nb := eqO_tupI (a := b) (b := []) (st := st)
    simp only [List.map_nil] at na nb
    have hla := ha.1
    have hlb := hb.1
    have hm : mulO (.int c.p) (.int ((a.length : Int) + (b.length : Int))) st = some (.int (c.p * ((a.length : Int) + (b.length : Int))), st) := mulO_int (mulOk_40 (by omega) (by omega))
    unfold F__law_least fnF G__law_least
    show S.out (sSeq _ _ [some (.tuple (a.map PyData.int)), some (.tuple (b.map PyData.int)), some (coD c), none, none, none, none, none, none] st) = _
    rw [sq (q0 st)]
    by_cases h : a = [] ∨ b = []
    · have e : lev c a b = c.p * ((a.length : Int) + (b.length : Int)) := by
        rcases h with rfl | rfl
        · rw [lev_nil]; simp
        · rw [lev_nilR]; simp
      rw [e]
      unfold sSeq G__law_least_s1
      rcases h with rfl | rfl
      · simp only [List.map_nil, List.length_nil] at na hm ⊢
        simp at hm
        simp [na, hm]
      · simp only [List.map_nil, List.length_nil] at nb hm ⊢
        simp at hm
        by_cases hae : a = []
        · subst hae
          simp at hm
          simp at na
          simp [na, hm]
        · simp [na, nb, hae, hm]
    · have h1 : a ≠ [] := fun z => h (.inl z)
      have h2 : b ≠ [] := fun z => h (.inr z)
      obtain ⟨s, x, rfl⟩ := take_snoc h1
      obtain ⟨u, y, rfl⟩ := take_snoc h2
      have hsx : Hs s := ⟨by simp at hla; omega, fun v hv => ha.2 v (List.mem_append_left _ hv)⟩
      have hsu : Hs u := ⟨by simp at hlb; omega, fun v hv => hb.2 v (List.mem_append_left _ hv)⟩
      simp only [List.length_append, List.length_singleton] at hn
      have i1 := ih s (u ++ [y]) hsx hb (by simp; omega) st
      have i2 := ih (s ++ [x]) u ha hsu (by simp; omega) st
      have i3 := ih s u hsx hsu (by omega) st
      have hx := ha.2 x (by simp)
      have hy := hb.2 y (by simp)
      rw [lev_snoc]
      have ab0 := ab_small hx hy
      have b0 := hc.b0
      have b1 := hs.b1
      have hmm : ∀ st, mulO (.int c.b) (.int (ab (x - y))) st = some (.int (c.b * ab (x - y)), st) := fun st => mulO_int (mulOk_40 (by omega) (by omega))
      simp only [List.map_append, List.map_cons, List.map_nil] at na nb i1 i2 ⊢
      have ca := cut_last (ds := s.map PyData.int ++ [.int x])
      have cb := cut_last (ds := u.map PyData.int ++ [.int y])
      rw [List.dropLast_concat] at ca cb
      have la := ixO_lastT (ds := s.map PyData.int) (d := .int x) (st := st)
      have lb := ixO_lastT (ds := u.map PyData.int) (d := .int y) (st := st)
      generalize s.map PyData.int ++ [PyData.int x] = A at *
      generalize u.map PyData.int ++ [PyData.int y] = B at *
      have q1 : G__law_least_s1 (F__law_least n) [some (.tuple A), some (.tuple B), some (coD c), some (.int c.p), some (.int c.o), some (.int c.b), none, none, none] st = .nx [some (.tuple A), some (.tuple B), some (coD c), some (.int c.p), some (.int c.o), some (.int c.b), none, none, none] st := by
        unfold G__law_least_s1
        simp [na, nb]
      have q2 : G__law_least_s2 (F__law_least n) [some (.tuple A), some (.tuple B), some (coD c), some (.int c.p), some (.int c.o), some (.int c.b), none, none, none] st = .nx [some (.tuple A), some (.tuple B), some (coD c), some (.int c.p), some (.int c.o), some (.int c.b), some (.int (sub c x y)), none, none] st := by
        unfold G__law_least_s2 sub
        unfold ab at hmm ⊢
        by_cases e : x = y
        · simp [la, lb, e]
        · simp [la, lb, e, hmm]
      have k1 : eCut (eV 0) oNone (oSome (eU negO (eC (.int 1)))) [some (.tuple A), some (.tuple B), some (coD c), some (.int c.p), some (.int c.o), some (.int c.b), some (.int (sub c x y)), none, none] st = .ok (.tuple (s.map PyData.int)) st := by
        rw [cut_tup (ds := A) (lo := none) (hi := some (-1)) rfl rfl rfl, ca]
      have k2 : eCut (eV 1) oNone (oSome (eU negO (eC (.int 1)))) [some (.tuple A), some (.tuple B), some (coD c), some (.int c.p), some (.int c.o), some (.int c.b), some (.int (sub c x y)), none, none] st = .ok (.tuple (u.map PyData.int)) st := by
        rw [cut_tup (ds := B) (lo := none) (hi := some (-1)) rfl rfl rfl, cb]
      have q3 : G__law_least_s3 (F__law_least n) [some (.tuple A), some (.tuple B), some (coD c), some (.int c.p), some (.int c.o), some (.int c.b), some (.int (sub c x y)), none, none] st = .nx [some (.tuple A), some (.tuple B), some (coD c), some (.int c.p), some (.int c.o), some (.int c.b), some (.int (sub c x y)), some (.int (lev c s (u ++ [y]) + c.p)), some (.int (lev c (s ++ [x]) u + c.p))] st := by
        unfold G__law_least_s3
        simp [k1, k2, i1, i2]
      have k3 : eCut (eV 0) oNone (oSome (eU negO (eC (.int 1)))) [some (.tuple A), some (.tuple B), some (coD c), some (.int c.p), some (.int c.o), some (.int c.b), some (.int (sub c x y)), some (.int (lev c s (u ++ [y]) + c.p)), some (.int (lev c (s ++ [x]) u + c.p))] st = .ok (.tuple (s.map PyData.int)) st := by
        rw [cut_tup (ds := A) (lo := none) (hi := some (-1)) rfl rfl rfl, ca]
      have k4 : eCut (eV 1) oNone (oSome (eU negO (eC (.int 1)))) [some (.tuple A), some (.tuple B), some (coD c), some (.int c.p), some (.int c.o), some (.int c.b), some (.int (sub c x y)), some (.int (lev c s (u ++ [y]) + c.p)), some (.int (lev c (s ++ [x]) u + c.p))] st = .ok (.tuple (u.map PyData.int)) st := by
        rw [cut_tup (ds := B) (lo := none) (hi := some (-1)) rfl rfl rfl, cb]
      rw [sq q1, sq q2, sq q3]
      unfold G__law_least_s4
      simp only [sRet, eFn, eCons, eB, eCall, eNil, k3, k4, R.bind]
      simp [k3, k4, i3, min3O, min3]
/-! ### the judge -/
theorem rowT_in {c : Co} (hc : c.Ok) (hs : c.Small) {a b : List Int} (ha : Hs a) (hb : Hs b) (i : Nat) : smal 4 (rowT c a b i) = true ∧ wt 6 (rowT c a b i) ≤ 130 ∧ (rowT c a b i).depth ≤ 1 := by
  have hl := hb.1
  refine ⟨?_, ?_, by simp [rowT, PyData.depth, depth_ints]⟩
  · simp only [rowT, smal]
    refine smalL_ints fun n hn => ?_
    obtain ⟨j, _, rfl⟩ := List.mem_map.mp hn
    have := lev_small hc hs (a := a.take i) (b := b.take j) (by rw [List.length_take]; have := ha.1; omega) (by rw [List.length_take]; omega)
    omega
  · simp only [rowT, wt, wtL_ints, rowN_len]
    omega
theorem due_in {c : Co} (hc : c.Ok) (hs : c.Small) {a b : List Int} (ha : Hs a) (hb : Hs b) : In 5000 3 (dueD c a b) := by
  have hl := ha.1
  have h1 : ∀ d ∈ (List.range (a.length + 1)).map (rowT c a b), smal 4 d = true ∧ wt 6 d ≤ 130 ∧ d.depth ≤ 1 := fun d hd => by
    obtain ⟨i, _, rfl⟩ := List.mem_map.mp hd
    exact rowT_in hc hs ha hb i
  have h2 : ∀ ds : List D, (∀ d ∈ ds, smal 4 d = true ∧ wt 6 d ≤ 130 ∧ d.depth ≤ 1) → smalL 4 ds = true ∧ wtL 6 ds ≤ ds.length * 132 := by
    intro ds
    induction ds with
    | nil => intro _; exact ⟨rfl, by simp [wtL]⟩
    | cons d r ih =>
      intro h
      obtain ⟨p1, p2, _⟩ := h d List.mem_cons_self
      obtain ⟨q1, q2⟩ := ih fun x hx => h x (List.mem_cons_of_mem _ hx)
      exact ⟨by simp [smalL, p1, q1], by simp only [wtL, List.length_cons]; omega⟩
  obtain ⟨g1, g2⟩ := h2 _ h1
  rw [List.length_map, List.length_range] at g2
  have hv := lev_small hc hs (a := a) (b := b) (by omega) hb.1
  have hd := tabD_depth c a b
  have ht : smal 4 (tabD c a b) = true := by simp only [tabD, smal]; exact g1
  have hw : wt 6 (tabD c a b) ≤ 132 * 13 + 4 := by simp only [tabD, wt]; omega
  refine ⟨?_, ?_, ?_⟩
  · simp only [dueD, smal, smalL, ht, Bool.and_true, decide_eq_true_eq]
    omega
  · simp only [dueD, wt, wtL]; omega
  · simp only [dueD, PyData.depth, PyData.depthAll]; omega
theorem sm_repr {w e : Nat} {d : D} (h : Sm w e d) (hw : w ≤ 1000000) (he : e ≤ 30) (st : Sto) : reprO [d] st = some (.str d.shown, st) := repr_smal h.1 (by omega) (by omega) (by have := h.2.2; omega) (by have := h.2.1; omega)
theorem judge_ok {c : Co} (hc : c.Ok) (hs : c.Small) {a b : List Int} (ha : Hs a) (hb : Hs b) {x y : D} {w e : Nat} (hx : Sm w e (.tuple [x, y])) (hw : w ≤ 1000000) (he : e ≤ 30) (st : Sto) :
    F_is_change [.tuple (a.map PyData.int), .tuple (b.map PyData.int), coD c, x, y] st = .ok (.bool ((PyData.tuple [x, y]).shown == (dueD c a b).shown)) st := by
  have e1 := tune_ck ha st
  have e2 := tune_ck hb st
  have e3 := cost_ck hc st
  have e4 := table_ok hc hs ha hb st
  have e5 := tab_last c a b st
  have e6 := row_last c a b st
  have r1 := sm_repr hx hw he st
  have r2 := sm_repr (due_in hc hs ha hb).sm (by omega) (by omega) st
  simp only [dueD] at r2
  unfold F_is_change fnF G_is_change sSeq G_is_change_s0 G_is_change_s1 G_is_change_s2 G_is_change_s3 G_is_change_s4
  simp [check_eq, e1, e2, e3, e4, e5, e6, r1, r2, eqO_str, dueD]
end K88
/-! K88z: the law of k88. -/
namespace K88
open PySem PySem.Spec PyProof.Rows L2 Fl
def tD (t : List Int) : D := .tuple (t.map PyData.int)
/-- the law's names: a, b, costs, rows, i, j, due, x, c, up, words, bad -/
abbrev eW (sc : D) (a b co ro i j du x c up tu on wo ba : Option D) : Fl.Env := [some sc, some (D.loc 0), a, none, b, co, ro, i, j, du, x, c, up, tu, on, wo, ba]
theorem z1_ok (sc : D) {o : Ob} (hb : Bx o) : ∃ (a b : List Int) (c : Co) (o' : Ob), (sSeq G_law_s1 (sSeq G_law_s2 (sSeq G_law_s3 sNx))) (eW sc none none none none none none none none none none none none none none) [o] = .nx (eW sc (some (tD a)) (some (tD b)) (some (coD c)) none none none none none none none none none none none) [o'] ∧
    a.length ≤ 5 ∧ b.length ≤ 5 ∧ (∀ v ∈ a, 60 ≤ v ∧ v ≤ 65) ∧ (∀ v ∈ b, 60 ≤ v ∧ v ≤ 65) ∧ c.Ok ∧ c.Small ∧ Bx o' := by
  obtain ⟨a, o1, e1, la, ha, b1⟩ := draw_tune (j := 3) (base := 60) (m := 6) (k := 6) (ρ := eW sc none none none none none none none none none none none none none none) rfl (by omega) (by omega) (by omega) (by omega) (by omega) [] hb
  obtain ⟨b, o2, e2, lb, hb', b2⟩ := draw_tune (j := 3) (base := 60) (m := 6) (k := 5) (ρ := eW sc (some (tD a)) none none none none none none none none none none none none none) rfl (by omega) (by omega) (by omega) (by omega) (by omega) [] b1
  obtain ⟨p, o3, e3, p0, p1, b3⟩ := take_ok (m := 8) (by omega) (by omega) [] b2
  obtain ⟨q, o4, e4, q0, q1, b4⟩ := take_ok (m := 4) (by omega) (by omega) [] b3
  obtain ⟨r, o5, e5, r0, r1, b5⟩ := take_ok (m := 3) (by omega) (by omega) [] b4
  refine ⟨a, b, ⟨p, q, r⟩, o5, ?_, by omega, by omega, fun v hv => by have := ha v hv; omega, fun v hv => by have := hb' v hv; omega, ⟨p0, q0, r0⟩, ⟨by show p ≤ 10; omega, by show q ≤ 10; omega, by show r ≤ 10; omega⟩, b5⟩
  have q1 : G_law_s1 (eW sc none none none none none none none none none none none none none none) [o] = .nx (eW sc (some (tD a)) none none none none none none none none none none none none none) [o1] := by
    unfold G_law_s1 C_law_0
    rw [take_eq]
    simp only [sAsg, e1, R.bindS]
    rfl
  have q2 : G_law_s2 (eW sc (some (tD a)) none none none none none none none none none none none none none) [o1] = .nx (eW sc (some (tD a)) (some (tD b)) none none none none none none none none none none none none) [o2] := by
    unfold G_law_s2 C_law_1
    rw [take_eq]
    simp only [sAsg, e2, R.bindS]
    rfl
  have q3 : G_law_s3 (eW sc (some (tD a)) (some (tD b)) none none none none none none none none none none none none) [o2] = .nx (eW sc (some (tD a)) (some (tD b)) (some (coD ⟨p, q, r⟩)) none none none none none none none none none none none) [o5] := by
    unfold G_law_s3
    rw [take_eq]
    simp [e3, e4, e5, coD]
  rw [sq q1, sq q2, sq q3]
  rfl
theorem hs_take {t : List Int} (h : Hs t) (k : Nat) : Hs (t.take k) := ⟨by rw [List.length_take]; have := h.1; omega, fun v hv => h.2 v (List.mem_of_mem_take hv)⟩
theorem rng_len {n : Nat} (h : n ≤ 1000) : rng1 [.int ((n : Int) + 1)] = some (rangeD 0 1 (n + 1)) := by
  rw [rng1_ok (by omega) (by omega)]
  congr 2
theorem cell_law {c : Co} (hc : c.Ok) (hs : c.Small) {a b : List Int} (ha : Hs a) (hb : Hs b) (sc : D) (i : Nat) (du x cc up tu on wo ba ro o8 : Option D) (st : Sto) :
    eFn tupO (eCons (eFrz C_law_2) eNil) (eW sc (some (tD a)) (some (tD b)) (some (coD c)) ro (some (.int (i : Int))) o8 du x cc up tu on wo ba) st = .ok (rowT c a b i) st := by
  have hlb := hb.1
  have hi : iRng rng1 (eCons (eB addO (eFn lenO (eCons (eV 4) eNil)) (eC (.int 1))) eNil) (eW sc (some (tD a)) (some (tD b)) (some (coD c)) ro (some (.int (i : Int))) o8 du x cc up tu on wo ba) st = .ok (rangeD 0 1 (b.length + 1), fun _ => True) st := iRng_ok (ds := [.int ((b.length : Int) + 1)]) (by simp [tD]) (rng_len (by omega))
  have hcm := comp_ix (j := 8) (el := eCall 3 (F__law_least 40) (eCons (eCut (eV 2) oNone (oSome (eV 7))) (eCons (eCut (eV 4) oNone (oSome (eV 8))) (eCons (eV 5) eNil)))) (fun j => .int (lev c (a.take i) (b.take j))) hi True.intro (by rw [rangeD_len]; omega) fun j d hd => by
    obtain ⟨hj, rfl⟩ := rangeD_get hd
    have c0 : (0 : Int) + (j : Int) * 1 = (j : Int) := by omega
    rw [c0]
    have k1 : eCut (eV 2) oNone (oSome (eV 7)) (((eW sc (some (tD a)) (some (tD b)) (some (coD c)) ro (some (.int (i : Int))) o8 du x cc up tu on wo ba).set 8 none).set 8 (some (.int (j : Int)))) st = .ok (.tuple ((a.take i).map PyData.int)) st := by
      rw [cut_tup (ds := a.map PyData.int) (lo := none) (hi := some (i : Int)) rfl rfl rfl, cut_to, List.map_take]
    have k2 : eCut (eV 4) oNone (oSome (eV 8)) (((eW sc (some (tD a)) (some (tD b)) (some (coD c)) ro (some (.int (i : Int))) o8 du x cc up tu on wo ba).set 8 none).set 8 (some (.int (j : Int)))) st = .ok (.tuple ((b.take j).map PyData.int)) st := by
      rw [cut_tup (ds := b.map PyData.int) (lo := none) (hi := some (j : Int)) rfl rfl rfl, cut_to, List.map_take]
    have l := least_ok hc hs 40 (a.take i) (b.take j) (hs_take ha i) (hs_take hb j) (by rw [List.length_take, List.length_take]; have := ha.1; omega) st
    generalize (a.take i).map PyData.int = A at k1 l
    generalize (b.take j).map PyData.int = B at k2 l
    simp only [eCall, eCons, k1, k2, R.bind, eNil]
    simp [l]
  rw [rangeD_len] at hcm
  unfold C_law_2
  simp only [eFn, eCons, eFrz, hcm, R.bind]
  simp [rowT, rowN, Function.comp_def]
theorem z4_ok {c : Co} (hc : c.Ok) (hs : c.Small) {a b : List Int} (ha : Hs a) (hb : Hs b) (sc : D) (st : Sto) :
    (sSeq G_law_s4 (sSeq G_law_s5 sNx)) (eW sc (some (tD a)) (some (tD b)) (some (coD c)) none none none none none none none none none none none) st =
      .nx (eW sc (some (tD a)) (some (tD b)) (some (coD c)) (some (.list ((List.range (a.length + 1)).map (rowT c a b)))) none none (some (dueD c a b)) none none none none none none none) st := by
  have hla := ha.1
  have hi : iRng rng1 (eCons (eB addO (eFn lenO (eCons (eV 2) eNil)) (eC (.int 1))) eNil) (eW sc (some (tD a)) (some (tD b)) (some (coD c)) none none none none none none none none none none none) st = .ok (rangeD 0 1 (a.length + 1), fun _ => True) st := iRng_ok (ds := [.int ((a.length : Int) + 1)]) (by simp [tD]) (rng_len (by omega))
  have hcm := comp_ix (j := 7) (el := eFn tupO (eCons (eFrz C_law_2) eNil)) (rowT c a b) hi True.intro (by rw [rangeD_len]; omega) fun i d hd => by
    obtain ⟨hj, rfl⟩ := rangeD_get hd
    have c0 : (0 : Int) + (i : Int) * 1 = (i : Int) := by omega
    rw [c0]
    exact cell_law hc hs ha hb sc i none none none none none none none none none none st
  rw [rangeD_len] at hcm
  have q4 : G_law_s4 (eW sc (some (tD a)) (some (tD b)) (some (coD c)) none none none none none none none none none none none) st = .nx (eW sc (some (tD a)) (some (tD b)) (some (coD c)) (some (.list ((List.range (a.length + 1)).map (rowT c a b)))) none none none none none none none none none none) st := by
    unfold G_law_s4 C_law_3
    simp only [sAsg, eFrz, hcm, R.bind, R.bindS]
    rfl
  have e1 : ixO (.list ((List.range (a.length + 1)).map (rowT c a b))) (.int (-1)) st = some (rowT c a b a.length, st) := by
    rw [List.range_succ, List.map_append]
    exact ixO_lastL
  have e2 := row_last c a b st
  rw [sq q4]
  unfold sSeq G_law_s5
  simp [e1, e2, dueD, tabD]
/-! ### the trials of the judge -/
theorem isi_eq2 {d : D} (h : d.plain = true) (st : Sto) : isiO "tuple" d st = some (.bool (isTup d), st) := isi_tup h st
theorem turn1_ok {c : Co} (hc : c.Ok) (hs : c.Small) {a b : List Int} (ha : Hs a) (hb : Hs b) (sc : D) (ro : Option D) {x : D} (hx : Sm 20000 8 x) {o : Ob} (hbx : Bx o) (tn : Option D) :
    ∃ y o', G_law_b0 [some sc, some (D.loc 0), some (tD a), tn, some (tD b), some (coD c), ro, none, none, some (dueD c a b), some x, none, none, none, none, none, none] [o] =
      .nx [some sc, some (D.loc 0), some (tD a), tn, some (tD b), some (coD c), ro, none, none, some (dueD c a b), some y, none, none, none, none, none, none] [o'] ∧ Sm 20000 8 y ∧ Bx o' := by
  have hin := due_in hc hs ha hb
  obtain ⟨y, o', e, hy, b'⟩ := bent_ok 40 (dueD c a b) 5000 3 [] (by omega) (by omega) (by omega) hin hbx
  refine ⟨y, o', ?_, hy.mono (by omega) (by omega), b'⟩
  have q := isi_tup hx.plain
  have r2 := sm_repr hin.sm (by omega) (by omega) [o]
  have hbent : sAsg (eCall 2 (F__law_bent 40) (eCons (eV 1) (eCons (eV 9) eNil))) (gN 10) [some sc, some (D.loc 0), some (tD a), tn, some (tD b), some (coD c), ro, none, none, some (dueD c a b), some x, none, none, none, none, none, none] [o] =
      .nx [some sc, some (D.loc 0), some (tD a), tn, some (tD b), some (coD c), ro, none, none, some (dueD c a b), some y, none, none, none, none, none, none] [o'] := by
    rw [bent_eq]
    simp [e]
  unfold G_law_b0
  cases ht : isTup x with
  | false =>
    rw [sq (ρ' := [some sc, some (D.loc 0), some (tD a), tn, some (tD b), some (coD c), ro, none, none, some (dueD c a b), some x, none, none, none, none, none, none]) (st' := [o])]
    · exact hbent
    · simp [q, ht, bTru, truD]
  | true =>
    cases x with
    | tuple ds =>
      by_cases hl : (ds.length : Int) = 2
      · obtain ⟨u, v, rfl⟩ : ∃ u v, ds = [u, v] := by
          match ds, hl with
          | [u, v], _ => exact ⟨u, v, rfl⟩
        have j := judge_ok hc hs ha hb hx (by omega) (by omega) [o]
        change F_is_change [tD a, tD b, coD c, u, v] [o] = _ at j
        have r1 := sm_repr hx (by omega) (by omega) [o]
        have i0 : ixO (.tuple [u, v]) (.int 0) [o] = some (u, [o]) := rfl
        have i1 : ixO (.tuple [u, v]) (.int 1) [o] = some (v, [o]) := rfl
        generalize (PyData.tuple [u, v]).shown = X at j r1
        generalize (dueD c a b).shown = Y at j r2
        have sy := says_ok (X == Y) (X == Y) [o]
        rw [sq (ρ' := [some sc, some (D.loc 0), some (tD a), tn, some (tD b), some (coD c), ro, none, none, some (dueD c a b), some (.tuple [u, v]), none, none, none, none, none, none]) (st' := [o])]
        · exact hbent
        · simp only [beq_self_eq_true] at sy
          simp [q, isTup, bTru, truD, i0, i1, j, r1, r2, eqO_str, says_eq, sy]
      · rw [sq (ρ' := [some sc, some (D.loc 0), some (tD a), tn, some (tD b), some (coD c), ro, none, none, some (dueD c a b), some (.tuple ds), none, none, none, none, none, none]) (st' := [o])]
        · exact hbent
        · simp [q, isTup, bTru, truD, hl]
    | _ => simp [isTup] at ht
theorem z8_ok {c : Co} (hc : c.Ok) (hs : c.Small) {a b : List Int} (ha : Hs a) (hb : Hs b) (sc : D) (ro : Option D) {o : Ob} (hbx : Bx o) :
    ∃ y o', G_law_s8 (eW sc (some (tD a)) (some (tD b)) (some (coD c)) ro none none (some (dueD c a b)) (some (dueD c a b)) none none none none none none) [o] =
      .nx (eW sc (some (tD a)) (some (tD b)) (some (coD c)) ro none none (some (dueD c a b)) (some y) none none none none none none) [o'] ∧ Bx o' := by
  have hr : rng1 [.int 5] = some (rangeD 0 1 5) := rng1_ok (by omega) (by omega)
  have hi : iRng rng1 (eCons (eC (.int 5)) eNil) (eW sc (some (tD a)) (some (tD b)) (some (coD c)) ro none none (some (dueD c a b)) (some (dueD c a b)) none none none none none none) [o] = .ok (rangeD 0 1 5, fun _ => True) [o] := iRng_ok (ds := [.int 5]) rfl hr
  obtain ⟨ρ', st', e, hI⟩ := forL_ind (I := fun _ ρ s => ∃ x o, ρ = eW sc (some (tD a)) (some (tD b)) (some (coD c)) ro none none (some (dueD c a b)) (some x) none none none none none none ∧ s = [o] ∧ Sm 20000 8 x ∧ Bx o) (src := fun _ => True) (ks := [3]) (tg := gN 3) (body := G_law_b0)
    (rangeD 0 1 5) 0 (eW sc (some (tD a)) (some (tD b)) (some (coD c)) ro none none (some (dueD c a b)) (some (dueD c a b)) none none none none none none) [o] ⟨dueD c a b, o, rfl, rfl, (due_in hc hs ha hb).sm.mono (by omega) (by omega), hbx⟩ (fun _ _ _ _ => True.intro) fun q d hd ρ s hI => by
      obtain ⟨x, o, rfl, rfl, hx, hbx⟩ := hI
      obtain ⟨y, o', e, hy, b'⟩ := turn1_ok hc hs ha hb sc ro hx hbx (some d)
      refine ⟨_, _, ⟨y, o', rfl, rfl, hy, b'⟩, fun F => ?_⟩
      simp [e]
  obtain ⟨y, o', rfl, rfl, _, b'⟩ := hI
  refine ⟨y, o', sFor_ok hi ?_, b'⟩
  exact e
theorem due_0 (c : Co) (a b : List Int) (st : Sto) : ixO (dueD c a b) (.int 0) st = some (.int (lev c a b), st) := rfl
theorem due_plain (c : Co) (a b : List Int) : (dueD c a b).plain = true ∧ (dueD c a b).depth < 40 := by
  have h := tabD_depth c a b
  exact ⟨by simp [dueD, PyData.plain, PyData.plainAll, tabD_plain], by simp only [dueD, PyData.depth, PyData.depthAll]; omega⟩
theorem change_tD {c : Co} (hc : c.Ok) (hs : c.Small) {a b : List Int} (ha : Hs a) (hb : Hs b) (st : Sto) : F_change [tD a, tD b, coD c] st = .ok (dueD c a b) st := change_ok hc hs ha hb st
theorem z10_ok {c : Co} (hc : c.Ok) (hs : c.Small) {a b : List Int} (ha : Hs a) (hb : Hs b) (sc : D) (ro x cc up tu on wo ba : Option D) (st : Sto) :
    G_law_s10 (eW sc (some (tD a)) (some (tD b)) (some (coD c)) ro none none (some (dueD c a b)) x cc up tu on wo ba) st = .nx (eW sc (some (tD a)) (some (tD b)) (some (coD c)) ro none none (some (dueD c a b)) x cc up tu on wo ba) st := by
  have e1 := change_tD hc hs hb ha st
  have e2 := change_tD hc hs ha ha st
  have h1 := lev_sym c b a
  have h2 := lev_self hc a
  unfold G_law_s10
  simp [e1, e2, due_0, h1, h2]
theorem z11_ok {c : Co} (hc : c.Ok) (hs : c.Small) {a b d : List Int} (ha : Hs a) (hb : Hs b) (hd : Hs d) (sc : D) (ro x up tu on wo ba : Option D) (st : Sto) :
    G_law_s11 (eW sc (some (tD a)) (some (tD b)) (some (coD c)) ro none none (some (dueD c a b)) x (some (tD d)) up tu on wo ba) st = .nx (eW sc (some (tD a)) (some (tD b)) (some (coD c)) ro none none (some (dueD c a b)) x (some (tD d)) up tu on wo ba) st := by
  have e1 := change_tD hc hs ha hd st
  have e2 := change_tD hc hs hb hd st
  have h1 := lev_tri hc a b d
  have h2 : ¬ (lev c a b + lev c b d < lev c a d) := by omega
  unfold G_law_s11
  simp [e1, e2, due_0, h2]
theorem tabD_shift (c : Co) (k : Int) (a b : List Int) : dueD c (a.map (· + k)) (b.map (· + k)) = dueD c a b := by
  have h : rowT c (a.map (· + k)) (b.map (· + k)) = rowT c a b := funext fun i => by
    simp only [rowT, rowN, ← List.map_take, lev_shift, List.length_map]
  simp only [dueD, tabD, lev_shift, List.length_map, h]
mutual
theorem eqv_self : ∀ d : D, d.plain = true → PyData.eqv d d = true
  | .none, _ => rfl
  | .bool b, _ => by simp [PyData.eqv]
  | .int i, _ => by simp
  | .str x, _ => by simp [PyData.eqv]
  | .tuple ds, h => by simp only [PyData.eqv]; simp only [PyData.plain] at h; exact eqvAll_self ds h
  | .list ds, h => by simp only [PyData.eqv]; simp only [PyData.plain] at h; exact eqvAll_self ds h
  | .dict _, h => by simp [PyData.plain] at h
theorem eqvAll_self : ∀ ds : List D, PyData.plainAll ds = true → PyData.eqvAll ds ds = true
  | [], _ => by simp [PyData.eqvAll]
  | d :: ds, h => by
    simp only [PyData.plainAll, Bool.and_eq_true] at h
    simp only [PyData.eqvAll, eqv_self d h.1, eqvAll_self ds h.2, Bool.and_self]
end
theorem z12_ok {c : Co} (hc : c.Ok) (hs : c.Small) {a b : List Int} (ha : Hs a) (hb : Hs b) (ha2 : ∀ v ∈ a, v ≤ 100) (hb2 : ∀ v ∈ b, v ≤ 100) (sc : D) (ro x cc wo ba : Option D) (st : Sto) :
    ∃ up, (sSeq G_law_s12 (sSeq G_law_s13 sNx)) (eW sc (some (tD a)) (some (tD b)) (some (coD c)) ro none none (some (dueD c a b)) x cc none none none wo ba) st =
      .nx (eW sc (some (tD a)) (some (tD b)) (some (coD c)) ro none none (some (dueD c a b)) x cc up none none wo ba) st := by
  have one : ∀ (t : List Int), Hs t → eFn tupO (eCons (eFrz C_law_5) eNil) (((eW sc (some (tD a)) (some (tD b)) (some (coD c)) ro none none (some (dueD c a b)) x cc none none none wo ba).set 13 none).set 13 (some (tD t))) st = .ok (tD (t.map (· + 5))) st := fun t ht => by
    have hcm := comp_intsA (a := eV 13) (j := 14) (ρ := ((eW sc (some (tD a)) (some (tD b)) (some (coD c)) ro none none (some (dueD c a b)) x cc none none none wo ba).set 13 none).set 13 (some (tD t))) (st := st) (el := eB addO (eV 14) (eC (.int 5))) (fun v => .int (v + 5)) (seq_tup rfl) True.intro (by have := ht.1; omega) fun v _ => by simp
    unfold C_law_5
    simp only [eFn, eCons, eFrz, hcm, R.bind]
    simp [tD, Function.comp_def]
  have hcm := comp_ix (j := 13) (el := eFn tupO (eCons (eFrz C_law_5) eNil)) (ρ := eW sc (some (tD a)) (some (tD b)) (some (coD c)) ro none none (some (dueD c a b)) x cc none none none wo ba) (st := st) (it := iSeq (eTup (eCons (eV 2) (eCons (eV 4) eNil)))) (ds := [tD a, tD b]) (fun i => if i = 0 then tD (a.map (· + 5)) else tD (b.map (· + 5))) (seq_tup (by simp)) True.intro (by simp) fun i d hd => by
    match i, hd with
    | 0, hd => cases hd; exact one a ha
    | 1, hd => cases hd; exact one b hb
  have e12 : G_law_s12 (eW sc (some (tD a)) (some (tD b)) (some (coD c)) ro none none (some (dueD c a b)) x cc none none none wo ba) st = .nx (eW sc (some (tD a)) (some (tD b)) (some (coD c)) ro none none (some (dueD c a b)) x cc (some (.list [tD (a.map (· + 5)), tD (b.map (· + 5))])) none none wo ba) st := by
    unfold G_law_s12 C_law_6
    simp only [sAsg, eFrz, hcm, R.bind, R.bindS]
    rfl
  refine ⟨some (.list [tD (a.map (· + 5)), tD (b.map (· + 5))]), ?_⟩
  rw [sq e12]
  have up : ∀ t : List Int, Hs t → (∀ v ∈ t, v ≤ 100) → Hs (t.map (· + 5)) := fun t h h2 => ⟨by rw [List.length_map]; exact h.1, fun v hv => by
    obtain ⟨w, hw, rfl⟩ := List.mem_map.mp hv
    have := h.2 w hw
    have := h2 w hw
    omega⟩
  have e := change_tD hc hs (up a ha ha2) (up b hb hb2) st
  rw [tabD_shift] at e
  have i0 : ixO (.list [tD (a.map (· + 5)), tD (b.map (· + 5))]) (.int 0) st = some (tD (a.map (· + 5)), st) := rfl
  have i1 : ixO (.list [tD (a.map (· + 5)), tD (b.map (· + 5))]) (.int 1) st = some (tD (b.map (· + 5)), st) := rfl
  obtain ⟨dp, dd⟩ := due_plain c a b
  have ne : neO (dueD c a b) (dueD c a b) st = some (.bool false, st) := by simp [neO, dv_self dp dd, eqv_self _ dp]
  generalize tD (a.map (· + 5)) = A at *
  generalize tD (b.map (· + 5)) = B at *
  unfold sSeq G_law_s13
  simp [i0, i1, e, ne]
/-! ### what is refused -/
theorem change_badA {d x y : D} (h : d.plain = true) (ht : isTune d = false) (st : Sto) : F_change [d, x, y] st = .exc 0 st := by
  have e := cktune_ok h st
  rw [ht, if_neg Bool.false_ne_true] at e
  unfold F_change fnF G_change sSeq G_change_s0
  simp [check_eq, e]
def badCo (d : D) : Prop := ∀ st, F_check_costs [d] st = .exc 0 st
theorem change_badC {a b : List Int} (ha : Hs a) (hb : Hs b) {d : D} (h : badCo d) (st : Sto) : F_change [tD a, tD b, d] st = .exc 0 st := by
  have e1 : F_cktune [tD a] st = .ok .none st := tune_ck ha st
  have e2 : F_cktune [tD b] st = .ok .none st := tune_ck hb st
  have e3 := h st
  unfold F_change fnF G_change sSeq G_change_s0 G_change_s1 G_change_s2
  simp [check_eq, e1, e2, e3]
theorem judge_badC {a b : List Int} (ha : Hs a) (hb : Hs b) {d x y : D} (h : badCo d) (st : Sto) : Fb_is_change [tD a, tD b, d, x, y] st = .exc 0 st := by
  have e1 : F_cktune [tD a] st = .ok .none st := tune_ck ha st
  have e2 : F_cktune [tD b] st = .ok .none st := tune_ck hb st
  have e3 := h st
  unfold Fb_is_change fnF Gb_is_change sSeq Gb_is_change_s0 Gb_is_change_s1 Gb_is_change_s2
  simp [check_eq, e1, e2, e3]
theorem ref0 {b : Ex} {ρ : Fl.Env} {st st' : Sto} (h : b ρ st = .exc 0 st') : eRef hs__law_refusal "" b ρ st = .ok (.str "BadTune") st' := by
  unfold eRef
  rw [h]
  simp [nmOf, hs__law_refusal, List.lookup]
theorem z14_ok {c : Co} {a b : List Int} (sc : D) (ro du x cc up : Option D) {o : Ob} (hbx : Bx o) :
    ∃ o', G_law_s14 (eW sc (some (tD a)) (some (tD b)) (some (coD c)) ro none none du x cc up none none none none) [o] =
      .nx (eW sc (some (tD a)) (some (tD b)) (some (coD c)) ro none none du x cc up none none (some (D.loc 1)) none) [o', .lst [.str "BadTune"]] ∧ Bx o' := by
  obtain ⟨i, d, o', e, hd, b'⟩ := pick_ok (ds := [.none, .tuple [.int 128], .list [.int 60]]) (by simp) (by simp) [] hbx
  have bad : ∀ d ∈ [PyData.none, .tuple [.int 128], .list [.int 60]], d.plain = true ∧ isTune d = false := by
    intro d hd
    simp only [List.mem_cons, List.not_mem_nil, or_false] at hd
    rcases hd with rfl | rfl | rfl
    · exact ⟨rfl, rfl⟩
    · exact ⟨rfl, by decide⟩
    · exact ⟨rfl, rfl⟩
  obtain ⟨p1, p2⟩ := bad d (List.mem_of_getElem? hd)
  refine ⟨o', ?_, b'⟩
  have k := change_badA (x := tD b) (y := coD c) p1 p2 [o']
  have r := ref0 (b := eCall 3 F_change (eCons (eCall 2 F__law_pick (eCons (eV 1) (eCons (eFrz (eDisp (eCons (eC .none) (eCons (eTup (eCons (eC (.int 128)) eNil)) (eCons (eFrz (eDisp (eCons (eC (.int 60)) eNil))) eNil))))) eNil))) (eCons (eV 4) (eCons (eV 5) eNil)))) (ρ := eW sc (some (tD a)) (some (tD b)) (some (coD c)) ro none none du x cc up none none none none) (st := [o]) (st' := [o']) (by
    rw [pick_eq]
    simp [e, k])
  unfold G_law_s14
  simp only [sAsg, eMut, eDisp, eCons, eNil, r, R.bind]
  rfl
theorem costs_bad {d : D} (h : d.plain = true) (hb : okCo d = false) : badCo d := fun st => by
  rw [costs_ok h st, hb, if_neg Bool.false_ne_true]
theorem z15_ok {c : Co} {a b : List Int} (ha : Hs a) (hb : Hs b) (sc : D) (ro du x cc up : Option D) {o : Ob} (hbx : Bx o) :
    ∃ st, (sSeq G_law_s15 (sSeq G_law_s16 (sSeq G_law_s17 G_law_s18))) (eW sc (some (tD a)) (some (tD b)) (some (coD c)) ro none none du x cc up none none (some (D.loc 1)) none) [o, .lst [.str "BadTune"]] = .ret (.bool true) st := by
  obtain ⟨i, d, o', e, hd, b'⟩ := pick_ok (ds := [.none, .tuple [.int 1, .int 1], .tuple [.int 1, .int 1, .int (-1)], .tuple [.int 1, .int 1, .bool true], .list [.int 1, .int 1, .int 1], .tuple [.int 1, .int 1, .int 1, .int 1]]) (by simp) (by simp) [.lst [.str "BadTune"]] hbx
  have bad : ∀ d ∈ [PyData.none, .tuple [.int 1, .int 1], .tuple [.int 1, .int 1, .int (-1)], .tuple [.int 1, .int 1, .bool true], .list [.int 1, .int 1, .int 1], .tuple [.int 1, .int 1, .int 1, .int 1]], badCo d := by
    intro d hd
    simp only [List.mem_cons, List.not_mem_nil, or_false] at hd
    rcases hd with rfl | rfl | rfl | rfl | rfl | rfl <;> exact costs_bad rfl (by decide)
  have hbad := bad d (List.mem_of_getElem? hd)
  have q15 : G_law_s15 (eW sc (some (tD a)) (some (tD b)) (some (coD c)) ro none none du x cc up none none (some (D.loc 1)) none) [o, .lst [.str "BadTune"]] = .nx (eW sc (some (tD a)) (some (tD b)) (some (coD c)) ro none none du x cc up none none (some (D.loc 1)) (some d)) [o', .lst [.str "BadTune"]] := by
    unfold G_law_s15
    rw [pick_eq]
    simp [e]
  have r16 := ref0 (b := eCall 3 F_change (eCons (eV 2) (eCons (eV 4) (eCons (eV 16) eNil)))) (ρ := eW sc (some (tD a)) (some (tD b)) (some (coD c)) ro none none du x cc up none none (some (D.loc 1)) (some d)) (st := [o', .lst [.str "BadTune"]]) (st' := [o', .lst [.str "BadTune"]]) (by simp [change_badC ha hb hbad])
  have q16 := app_ok (o := eV 15) (y := eRef hs__law_refusal "" (eCall 3 F_change (eCons (eV 2) (eCons (eV 4) (eCons (eV 16) eNil))))) (ρ := eW sc (some (tD a)) (some (tD b)) (some (coD c)) ro none none du x cc up none none (some (D.loc 1)) (some d)) (st := [o', .lst [.str "BadTune"]]) (s1 := [o', .lst [.str "BadTune"]]) (n := 1) (ds := [.str "BadTune"]) rfl rfl r16 rfl (by simp)
  have r17 := ref0 (b := eCall 5 Fb_is_change (eCons (eV 2) (eCons (eV 4) (eCons (eV 16) (eCons (eC (.int 0)) (eCons (eTup eNil) eNil)))))) (ρ := eW sc (some (tD a)) (some (tD b)) (some (coD c)) ro none none du x cc up none none (some (D.loc 1)) (some d)) (st := [o', .lst [.str "BadTune", .str "BadTune"]]) (st' := [o', .lst [.str "BadTune", .str "BadTune"]]) (by simp [judge_badC ha hb hbad])
  have q17 := app_ok (o := eV 15) (y := eRef hs__law_refusal "" (eCall 5 Fb_is_change (eCons (eV 2) (eCons (eV 4) (eCons (eV 16) (eCons (eC (.int 0)) (eCons (eTup eNil) eNil))))))) (ρ := eW sc (some (tD a)) (some (tD b)) (some (coD c)) ro none none du x cc up none none (some (D.loc 1)) (some d)) (st := [o', .lst [.str "BadTune", .str "BadTune"]]) (s1 := [o', .lst [.str "BadTune", .str "BadTune"]]) (n := 1) (ds := [.str "BadTune", .str "BadTune"]) rfl rfl r17 rfl (by simp)
  have rep := eRep_ok (a := eDisp (eCons (eC (.str "BadTune")) eNil)) (b := eC (.int 3)) (ρ := eW sc (some (tD a)) (some (tD b)) (some (coD c)) ro none none du x cc up none none (some (D.loc 1)) (some d)) (st := [o', .lst [.str "BadTune", .str "BadTune", .str "BadTune"]]) (s1 := [o', .lst [.str "BadTune", .str "BadTune", .str "BadTune"]]) (s2 := [o', .lst [.str "BadTune", .str "BadTune", .str "BadTune"]]) (ds := [.str "BadTune"]) (n := 3) rfl rfl (by omega) (by simp)
  rw [flat_one] at rep
  refine ⟨[o', .lst [.str "BadTune", .str "BadTune", .str "BadTune"]], ?_⟩
  have p16 : G_law_s16 (eW sc (some (tD a)) (some (tD b)) (some (coD c)) ro none none du x cc up none none (some (D.loc 1)) (some d)) [o', .lst [.str "BadTune"]] = .nx (eW sc (some (tD a)) (some (tD b)) (some (coD c)) ro none none du x cc up none none (some (D.loc 1)) (some d)) [o', .lst [.str "BadTune", .str "BadTune"]] := q16
  have p17 : G_law_s17 (eW sc (some (tD a)) (some (tD b)) (some (coD c)) ro none none du x cc up none none (some (D.loc 1)) (some d)) [o', .lst [.str "BadTune", .str "BadTune"]] = .nx (eW sc (some (tD a)) (some (tD b)) (some (coD c)) ro none none du x cc up none none (some (D.loc 1)) (some d)) [o', .lst [.str "BadTune", .str "BadTune", .str "BadTune"]] := q17
  rw [sq q15, sq p16, sq p17]
  have eq3 : eqO (D.loc 1) (.list (List.replicate 3 (.str "BadTune"))) [o', .lst [.str "BadTune", .str "BadTune", .str "BadTune"]] = some (.bool true, [o', .lst [.str "BadTune", .str "BadTune", .str "BadTune"]]) := by
    have h1 : dv [o', .lst [.str "BadTune", .str "BadTune", .str "BadTune"]] (D.loc 1) = some (.list [.str "BadTune", .str "BadTune", .str "BadTune"]) := rfl
    have h2 : dv [o', .lst [.str "BadTune", .str "BadTune", .str "BadTune"]] (.list (List.replicate 3 (.str "BadTune"))) = some (.list [.str "BadTune", .str "BadTune", .str "BadTune"]) := rfl
    unfold eqO
    rw [h1, h2]
    simp [PyData.eqv, PyData.eqvAll]
  have q18 : eFrz (eRep (eDisp (eCons (eC (.str "BadTune")) eNil)) (eC (.int 3))) (eW sc (some (tD a)) (some (tD b)) (some (coD c)) ro none none du x cc up none none (some (D.loc 1)) (some d)) [o', .lst [.str "BadTune", .str "BadTune", .str "BadTune"]] = .ok (.list (List.replicate 3 (.str "BadTune"))) [o', .lst [.str "BadTune", .str "BadTune", .str "BadTune"]] := by
    unfold eFrz
    rw [rep]
    rfl
  have v15 : eV 15 (eW sc (some (tD a)) (some (tD b)) (some (coD c)) ro none none du x cc up none none (some (D.loc 1)) (some d)) [o', .lst [.str "BadTune", .str "BadTune", .str "BadTune"]] = .ok (D.loc 1) [o', .lst [.str "BadTune", .str "BadTune", .str "BadTune"]] := rfl
  unfold G_law_s18 sRet eB
  rw [v15]
  simp only [R.bind]
  rw [q18]
  simp only
  rw [eq3]
  rfl
theorem law_true : ∀ ns : List Int, ns.length ≤ 63 → (∀ z ∈ ns, PySem.Builtin.Int.intBits z ≤ 1048576) → ∃ st, F_law [.list (ns.map PyData.int)] [] = .ok (.bool true) st := by
  intro ns hl _
  obtain ⟨o, e0, b0⟩ := box_ok ns [] hl
  generalize hsc : PyData.list (ns.map PyData.int) = sc at *
  obtain ⟨a, b, c, o1, e1, la, lb, va, vb, hc, hs, b1⟩ := z1_ok sc b0
  have ha : Hs a := ⟨by omega, fun v hv => by have := va v hv; omega⟩
  have hb : Hs b := ⟨by omega, fun v hv => by have := vb v hv; omega⟩
  have e4 := z4_ok hc hs ha hb sc [o1]
  obtain ⟨y, o2, e8, b2⟩ := z8_ok hc hs ha hb sc (some (.list ((List.range (a.length + 1)).map (rowT c a b)))) b1
  obtain ⟨d, o3, e9, ld, vd, b3⟩ := draw_tune (j := 3) (base := 60) (m := 6) (k := 6) (ρ := eW sc (some (tD a)) (some (tD b)) (some (coD c)) (some (.list ((List.range (a.length + 1)).map (rowT c a b)))) none none (some (dueD c a b)) (some y) none none none none none none) rfl (by omega) (by omega) (by omega) (by omega) (by omega) [] b2
  have hd : Hs d := ⟨by omega, fun v hv => by have := vd v hv; omega⟩
  obtain ⟨up, e12⟩ := z12_ok hc hs ha hb (fun v hv => by have := va v hv; omega) (fun v hv => by have := vb v hv; omega) sc (some (.list ((List.range (a.length + 1)).map (rowT c a b)))) (some y) (some (tD d)) none none [o3]
  obtain ⟨o4, e14, b4⟩ := z14_ok (c := c) (a := a) (b := b) sc (some (.list ((List.range (a.length + 1)).map (rowT c a b)))) (some (dueD c a b)) (some y) (some (tD d)) up b3
  obtain ⟨st, e15⟩ := z15_ok (c := c) ha hb sc (some (.list ((List.range (a.length + 1)).map (rowT c a b)))) (some (dueD c a b)) (some y) (some (tD d)) up b4
  refine ⟨st, ?_⟩
  have q0 : G_law_s0 [some sc, none, none, none, none, none, none, none, none, none, none, none, none, none, none, none, none] [] = .nx (eW sc none none none none none none none none none none none none none none) [o] := by
    unfold G_law_s0
    simp only [List.length_nil, List.nil_append] at e0
    simp [box_eq, e0]
  have e6 : ∀ st, G_law_s6 (eW sc (some (tD a)) (some (tD b)) (some (coD c)) (some (.list ((List.range (a.length + 1)).map (rowT c a b)))) none none (some (dueD c a b)) none none none none none none none) st = .nx (eW sc (some (tD a)) (some (tD b)) (some (coD c)) (some (.list ((List.range (a.length + 1)).map (rowT c a b)))) none none (some (dueD c a b)) none none none none none none none) st := fun st => by
    have ch := change_tD hc hs ha hb st
    have r := sm_repr (due_in hc hs ha hb).sm (by omega) (by omega) st
    unfold G_law_s6
    simp [ch, r, neO_str]
  have e7 : ∀ st, G_law_s7 (eW sc (some (tD a)) (some (tD b)) (some (coD c)) (some (.list ((List.range (a.length + 1)).map (rowT c a b)))) none none (some (dueD c a b)) none none none none none none none) st = .nx (eW sc (some (tD a)) (some (tD b)) (some (coD c)) (some (.list ((List.range (a.length + 1)).map (rowT c a b)))) none none (some (dueD c a b)) (some (dueD c a b)) none none none none none none) st := fun st => by
    unfold G_law_s7
    simp
  have q9 : G_law_s9 (eW sc (some (tD a)) (some (tD b)) (some (coD c)) (some (.list ((List.range (a.length + 1)).map (rowT c a b)))) none none (some (dueD c a b)) (some y) none none none none none none) [o2] = .nx (eW sc (some (tD a)) (some (tD b)) (some (coD c)) (some (.list ((List.range (a.length + 1)).map (rowT c a b)))) none none (some (dueD c a b)) (some y) (some (tD d)) none none none none none) [o3] := by
    unfold G_law_s9 C_law_4
    rw [take_eq]
    simp only [sAsg, e9, R.bindS]
    rfl
  unfold F_law fnF G_law
  show S.out (sSeq _ _ [some sc, none, none, none, none, none, none, none, none, none, none, none, none, none, none, none, none] []) = _
  rw [sq q0, sq3 e1, sq2 e4, sq (e6 _), sq (e7 _), sq e8, sq q9, sq (z10_ok hc hs ha hb sc _ _ _ _ _ _ _ _ _), sq (z11_ok hc hs ha hb hd sc _ _ _ _ _ _ _ _), sq2 e12, sq e14, e15]
  rfl
end K88
namespace K88
open PySem PySem.Spec PyProof.Rows L2 LamX Fl
abbrev Rw : PySem.W.OpenRow := PySem.W.OpenLaw.row PySem.Challenge.rw_tunehouse_k88_tunes_changed_into_others
abbrev qv : Program := PySem.W.view Rw.prog [28]
def tfs : List He.Defn := [("law", none)]
abbrev hk : PySem.W.Hook := He.hookX 4 fas fns [] tfs fun _ => true
def ob (s : PySem.W.SharedT) : He.AlX := He.obsX 4 fas fns [] tfs (fun _ => true) (HandSHeadRun.getT s)
theorem ob_eq (s : PySem.W.SharedT) : ob s = hk.obs s.abs := He.obsX_eq (HandSHeadRun.getT_eq s)
set_option maxHeartbeats 0 in
theorem headRun (w : World) : HandSHeadRun.RunEq Rw qv hk ob 8000 loose w := by
  intro os
  kernel_rfl
theorem headFacts (w : World) (mg : Str → Option Value) (fa : Addr) (h : Heap) (G : h.Ns mainGlobals mg) (hmg : mg ("law" : Str) = some (.ref fa)) (Y : hk.says w h) (law_true : ∀ ns : List Int, ns.length ≤ 63 → (∀ z ∈ ns, Builtin.Int.intBits z ≤ 1048576) → ∃ st, F_law [.list (ns.map PyData.int)] [] = .ok (.bool true) st) :
    ∃ K : PySem.W.Frag, K.In h ∧ LawAtG PySem.Challenge.rw_tunehouse_k88_tunes_changed_into_others w K (L2.CX PySem.Challenge.rw_tunehouse_k88_tunes_changed_into_others.prog w) 86 63 "script" mg fa h := by
  obtain ⟨K, KX, c⟩ := Y
  have t : Told fas fns K mg := ⟨c.t.d, h, KX, G⟩
  have e := hmg.symm.trans (t.glo "law" (fas.findIdx fun f => match f with | .glo x => x == "law" | _ => false) (by rfl))
  cases e
  have hd := c.hd ("law", none) (List.mem_singleton.mpr rfl)
  have ho := c.out ("law", none) (List.mem_singleton.mpr rfl)
  have he := c.empty ("law", none) (List.mem_singleton.mpr rfl)
  obtain ⟨fd, hb, hF⟩ := ok_law (P := PySem.Challenge.rw_tunehouse_k88_tunes_changed_into_others.prog) (w := w) t
  refine ⟨K, KX, fd, [(He.codeOf K ("law", none), lawT K)], _, ?_, ?_, ?_, fun s u => hb s [u] rfl, ?_, fun base _ _ TB => hF base (TB _ (List.mem_singleton.mpr rfl))⟩
  · intro p hp; rw [List.mem_singleton.mp hp]; exact he
  · intro p hp; rw [List.mem_singleton.mp hp]; exact ho
  · intro p hp; rw [List.mem_singleton.mp hp]; exact PySem.W.codeHd_of_K KX hd
  · intro H a ns hl hz hT hA
    exact law_sp (law_true ns hl hz) (hT _ (List.mem_singleton.mpr rfl)) hA
end K88
open PySem PySem.W PySem.Calls PyProof.Rows
theorem PySem.Challenge.cw_tunehouse_k88_tunes_changed_into_others_holds : PySem.Challenge.rw_tunehouse_k88_tunes_changed_into_others.Holds := by
  w_on; o_law
  refine HandSHeadRun.head_any (r := OpenLaw.row PySem.Challenge.rw_tunehouse_k88_tunes_changed_into_others) (q := K88.qv) (H := K88.hk) (ob := K88.ob) (M := 8000) (loose := K88.loose) (d := HandSHeadRun.topDef (OpenLaw.row PySem.Challenge.rw_tunehouse_k88_tunes_changed_into_others).prog 28) (kwd := []) K88.ob_eq
    (by kernel_rfl) (fun s => by kernel_rfl) K88.headRun (by kernel_rfl) (by kernel_rfl) (by kernel_rfl) (by rfl) (by first | assumption | decide +kernel) (by decide +kernel) ⟨rfl, rfl, rfl, rfl, rfl, by decide +kernel⟩ ?hw ?hc
  case hw => w_witness2
  case hc =>
    refine Fl.walk_g (l := PySem.Challenge.rw_tunehouse_k88_tunes_changed_into_others) (n := 63) (k := 86) (x := "script") (CX := fun w => L2.CX PySem.Challenge.rw_tunehouse_k88_tunes_changed_into_others.prog w) rfl (by decide) (by kernel_rfl) ⟨rfl, by decide, by decide⟩ ?F (fun _ _ _ _ _ h => Fl.cx_none h)
    intro w mg fa h Y G hmg0
    have hmg : mg ("law" : PySem.Str) = some (.ref fa) := by
      have e : (HandSHeadRun.topDef (OpenLaw.row PySem.Challenge.rw_tunehouse_k88_tunes_changed_into_others).prog 28).name = ("law" : PySem.Str) := by kernel_rfl
      rw [← e]
      exact hmg0
    exact K88.headFacts w mg fa h G hmg Y K88.law_true
