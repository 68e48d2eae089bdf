import PyProof.Rows.All
import Wide.All
import OpenK.AllK
import Wide.FinOn
import HandS.Base
import HandS.Call
import HandS.List
import HandS.Comp
import HandS.Words
import HandS.IsInst
import HandS.Flow
import HandS.Dict
import HandS.Iter
import HandS.Zip
import HandS.Text
import HandS.TupAny
import HandS.TupMul
import HandS.Wide
import HandS.Style
import HandS.Small
import HandS.RaiseMore
import HandS.Ends
import HandS.Exc
import HandS.ExcOwn
import PyProof.NeKinds
import PyProof.EqKinds
import PyProof.FactsAll.dict
import PyProof.Rows.EqNone
import HandS.Replace
import HandS.WordsDict
import HandS.Steps
import HandS.Set
import HandS.SetFor
import HandS.TupSets
import HandS.More
import HandS.Strs
import HandS.SetTxtIn
import PyProof.ReprReads
import PyProof.ReprRoads
import PySem.Challenge.RW_placeblind_k50_machines_recognized_and_r
section
set_option Elab.async false
set_option linter.all false
set_option maxRecDepth 100000
/-! Mp: a store of plain data over the abstract heap; every construct as a function of (slots, store). -/
namespace Mp
open PySem PySem.Spec PyProof.Rows L2

/-- data: a value without addresses; kl: a list that nobody writes (the script); loc n: the n-th object of the store -/
inductive D where
  | non | bl (b : Bool) | int (i : Int) | str (x : Str) | tup (xs : List D) | kl (xs : List D) | loc (n : Nat)
  deriving Inhabited
/-- an object of the store -/
inductive MO where
  | lst (xs : List D)
  | dK (kvs : List (Key × D))
  | ins (c : Str) (fs : List (Str × D))
  deriving Inhabited
abbrev Store := List MO
abbrev DSt := List (Option D)

/-- an answer: a value and the store; an exception (class, its fields if it has an own __init__); none -/
inductive R (α : Type) where
  | ok (a : α) (st : Store)
  | exc (c : Str) (fs : Option (List (Str × D))) (st : Store)
  | stuck
def R.bind {α β : Type} (r : R α) (k : α → Store → R β) : R β := match r with
  | .ok a st => k a st
  | .exc c fs st => .exc c fs st
  | .stuck => .stuck
@[simp] theorem R.bind_ok {α β : Type} (a : α) (st : Store) (k : α → Store → R β) : (R.ok a st).bind k = k a st := rfl
@[simp] theorem R.bind_exc {α β : Type} (c : Str) (fs) (st : Store) (k : α → Store → R β) : (R.exc c fs st : R α).bind k = .exc c fs st := rfl
@[simp] theorem R.bind_stuck {α β : Type} (k : α → Store → R β) : (R.stuck : R α).bind k = .stuck := rfl

/-- what is fixed: the written part, the classes' places -/
structure G where
  K : PySem.W.Frag
  cl : Str → Addr

/-! ### data and values -/
/-- a list that is read, never written -/
def SqR (K : PySem.W.Frag) (H : Hp) (a : Addr) (xs : List V) : Prop :=
  (∃ o, H a = some (.frz o (.lst xs))) ∨
    ∃ (o : Obj) (its : Array Value) (n : Nat), K.lookup a = some o ∧ o.cls = .type "list" ∧ o.dict = none ∧ o.data = .seq its n ∧ its.size ≤ sizeLine ∧ Vals xs its.toList
theorem SqR.seq {K : PySem.W.Frag} {H : Hp} {a : Addr} {xs : List V} (h : SqR K H a xs) : SqL K H a xs := by
  rcases h with ⟨o, h⟩ | h
  · exact .inl (.inr ⟨o, h⟩)
  · exact .inr h
mutual
def RelD (K : PySem.W.Frag) (H : Hp) (ad : List Addr) : D → V → Prop
  | .non, v => v = .non
  | .bl b, v => v = .bl b
  | .int i, v => v = .int i
  | .str x, v => v = .str x
  | .tup ds, v => ∃ a xs, v = .ref a ∧ SqT K H a xs ∧ RelDs K H ad ds xs
  | .kl ds, v => ∃ a xs, v = .ref a ∧ SqR K H a xs ∧ RelDs K H ad ds xs
  | .loc n, v => ∃ a, v = .ref a ∧ ad[n]? = some a
def RelDs (K : PySem.W.Frag) (H : Hp) (ad : List Addr) : List D → List V → Prop
  | [], vs => vs = []
  | d :: ds, vs => ∃ x xs, vs = x :: xs ∧ RelD K H ad d x ∧ RelDs K H ad ds xs
end

structure Ext (K : PySem.W.Frag) (H : Hp) (ad : List Addr) (H' : Hp) (ad' : List Addr) : Prop where
  tup : ∀ a xs, SqT K H a xs → SqT K H' a xs
  kl : ∀ a xs, SqR K H a xs → SqR K H' a xs
  frame : ∀ b o, H b = some o → b ∉ ad → H' b = some o
  there : ∀ b, H' b = none → H b = none
  pre : ∃ t, ad' = ad ++ t ∧ ∀ b ∈ t, H b = none
theorem Ext.refl {K : PySem.W.Frag} {H : Hp} {ad : List Addr} : Ext K H ad H ad := ⟨fun _ _ h => h, fun _ _ h => h, fun _ _ h _ => h, fun _ h => h, [], by simp, fun _ h => nomatch h⟩
theorem Ext.trans {K : PySem.W.Frag} {H H1 H2 : Hp} {ad ad1 ad2 : List Addr} (a : Ext K H ad H1 ad1) (b : Ext K H1 ad1 H2 ad2) : Ext K H ad H2 ad2 := by
  obtain ⟨t1, e1, n1⟩ := a.pre
  obtain ⟨t2, e2, n2⟩ := b.pre
  refine ⟨fun x xs h => b.tup _ _ (a.tup _ _ h), fun x xs h => b.kl _ _ (a.kl _ _ h), fun c o h hc => b.frame c o (a.frame c o h hc) ?_, fun c h => a.there c (b.there c h), t1 ++ t2, by rw [e2, e1, List.append_assoc], fun c hc => ?_⟩
  · rw [e1]; intro hm
    rcases List.mem_append.mp hm with hm | hm
    · exact hc hm
    · rw [n1 c hm] at h; cases h
  · rcases List.mem_append.mp hc with hm | hm
    · exact n1 c hm
    · exact a.there c (n2 c hm)
theorem Ext.at {K : PySem.W.Frag} {H H1 : Hp} {ad ad1 : List Addr} (a : Ext K H ad H1 ad1) {n : Nat} {x : Addr} (h : ad[n]? = some x) : ad1[n]? = some x := by
  obtain ⟨t, rfl, _⟩ := a.pre
  rw [List.getElem?_append_left (List.getElem?_eq_some_iff.mp h).1]
  exact h
/-- the part of it that data ask -/
structure Ext0 (K : PySem.W.Frag) (H : Hp) (ad : List Addr) (H' : Hp) (ad' : List Addr) : Prop where
  tup : ∀ a xs, SqT K H a xs → SqT K H' a xs
  kl : ∀ a xs, SqR K H a xs → SqR K H' a xs
  at_ : ∀ (n : Nat) (x : Addr), ad[n]? = some x → ad'[n]? = some x
theorem Ext.to0 {K : PySem.W.Frag} {H H1 : Hp} {ad ad1 : List Addr} (a : Ext K H ad H1 ad1) : Ext0 K H ad H1 ad1 := ⟨a.tup, a.kl, fun _ _ h => a.at h⟩
mutual
theorem RelD.ext0 {K : PySem.W.Frag} {H H1 : Hp} {ad ad1 : List Addr} (a : Ext0 K H ad H1 ad1) : ∀ {d : D} {v : V}, RelD K H ad d v → RelD K H1 ad1 d v
  | .non, _, h => h
  | .bl _, _, h => h
  | .int _, _, h => h
  | .str _, _, h => h
  | .tup ds, _, h => by
    unfold RelD at h ⊢
    obtain ⟨b, xs, e, s, r⟩ := h
    exact ⟨b, xs, e, a.tup _ _ s, RelDs.ext0 a r⟩
  | .kl ds, _, h => by
    unfold RelD at h ⊢
    obtain ⟨b, xs, e, s, r⟩ := h
    exact ⟨b, xs, e, a.kl _ _ s, RelDs.ext0 a r⟩
  | .loc n, _, h => by
    unfold RelD at h ⊢
    obtain ⟨b, e, s⟩ := h
    exact ⟨b, e, a.at_ _ _ s⟩
theorem RelDs.ext0 {K : PySem.W.Frag} {H H1 : Hp} {ad ad1 : List Addr} (a : Ext0 K H ad H1 ad1) : ∀ {ds : List D} {vs : List V}, RelDs K H ad ds vs → RelDs K H1 ad1 ds vs
  | [], _, h => by unfold RelDs at h ⊢; exact h
  | d :: ds, _, h => by
    unfold RelDs at h ⊢
    obtain ⟨x, xs, e, r, t⟩ := h
    exact ⟨x, xs, e, RelD.ext0 a r, RelDs.ext0 a t⟩
end
theorem RelD.ext {K : PySem.W.Frag} {H H1 : Hp} {ad ad1 : List Addr} (a : Ext K H ad H1 ad1) {d : D} {v : V} (h : RelD K H ad d v) : RelD K H1 ad1 d v := RelD.ext0 a.to0 h
theorem RelDs.ext {K : PySem.W.Frag} {H H1 : Hp} {ad ad1 : List Addr} (a : Ext K H ad H1 ad1) {ds : List D} {vs : List V} (h : RelDs K H ad ds vs) : RelDs K H1 ad1 ds vs := RelDs.ext0 a.to0 h
section
variable {K : PySem.W.Frag} {H : Hp} {ad : List Addr}
theorem relDs_nil {vs : List V} : RelDs K H ad [] vs ↔ vs = [] := by unfold RelDs; exact Iff.rfl
theorem relDs_cons {d : D} {ds : List D} {vs : List V} : RelDs K H ad (d :: ds) vs ↔ ∃ x xs, vs = x :: xs ∧ RelD K H ad d x ∧ RelDs K H ad ds xs := by
  constructor
  · intro h; unfold RelDs at h; exact h
  · intro h; unfold RelDs; exact h
theorem RelDs.cons {d : D} {ds : List D} {x : V} {xs : List V} (h : RelD K H ad d x) (t : RelDs K H ad ds xs) : RelDs K H ad (d :: ds) (x :: xs) := relDs_cons.mpr ⟨x, xs, rfl, h, t⟩
theorem RelDs.nil : RelDs K H ad [] [] := relDs_nil.mpr rfl
theorem RelDs.length : ∀ {ds : List D} {vs : List V}, RelDs K H ad ds vs → ds.length = vs.length
  | [], _, h => by rw [relDs_nil.mp h]; rfl
  | d :: ds, _, h => by
    obtain ⟨x, xs, rfl, _, t⟩ := relDs_cons.mp h
    simp [RelDs.length t]
theorem RelDs.append : ∀ {ds es : List D} {vs ws : List V}, RelDs K H ad ds vs → RelDs K H ad es ws → RelDs K H ad (ds ++ es) (vs ++ ws)
  | [], _, _, _, h, k => by rw [relDs_nil.mp h]; exact k
  | d :: ds, _, _, _, h, k => by
    obtain ⟨x, xs, rfl, r, t⟩ := relDs_cons.mp h
    exact RelDs.cons r (t.append k)
theorem RelDs.get : ∀ {ds : List D} {vs : List V} {i : Nat} {d : D}, RelDs K H ad ds vs → ds[i]? = some d → ∃ v, vs[i]? = some v ∧ RelD K H ad d v
  | [], _, _, _, _, e => by simp at e
  | d0 :: ds, _, 0, d, h, e => by
    obtain ⟨x, xs, rfl, r, t⟩ := relDs_cons.mp h
    simp at e; subst e
    exact ⟨x, by simp, r⟩
  | d0 :: ds, _, i + 1, d, h, e => by
    obtain ⟨x, xs, rfl, r, t⟩ := relDs_cons.mp h
    simpa using RelDs.get (i := i) t (by simpa using e)
theorem RelDs.get' {ds : List D} {vs : List V} {i : Nat} {v : V} (h : RelDs K H ad ds vs) (e : vs[i]? = some v) : ∃ d, ds[i]? = some d ∧ RelD K H ad d v := by
  have hl : i < ds.length := by rw [h.length]; exact (List.getElem?_eq_some_iff.mp e).1
  obtain ⟨v', e', r⟩ := h.get (List.getElem?_eq_getElem hl)
  rw [e] at e'; cases e'
  exact ⟨_, List.getElem?_eq_getElem hl, r⟩
theorem RelDs.set : ∀ {ds : List D} {vs : List V} {d : D} {v : V} (i : Nat), RelD K H ad d v → RelDs K H ad ds vs → RelDs K H ad (ds.set i d) (vs.set i v)
  | [], _, _, _, _, _, h => by rw [relDs_nil.mp h]; exact RelDs.nil
  | d0 :: ds, _, _, _, 0, r0, h => by
    obtain ⟨x, xs, rfl, r, t⟩ := relDs_cons.mp h
    exact RelDs.cons r0 t
  | d0 :: ds, _, _, _, i + 1, r0, h => by
    obtain ⟨x, xs, rfl, r, t⟩ := relDs_cons.mp h
    exact RelDs.cons r (RelDs.set i r0 t)
theorem RelDs.take : ∀ {ds : List D} {vs : List V} (n : Nat), RelDs K H ad ds vs → RelDs K H ad (ds.take n) (vs.take n)
  | _, _, 0, _ => by simp; exact RelDs.nil
  | [], _, n + 1, h => by rw [relDs_nil.mp h]; exact RelDs.nil
  | d0 :: ds, _, n + 1, h => by
    obtain ⟨x, xs, rfl, r, t⟩ := relDs_cons.mp h
    exact RelDs.cons r (RelDs.take n t)
theorem RelDs.drop : ∀ {ds : List D} {vs : List V} (n : Nat), RelDs K H ad ds vs → RelDs K H ad (ds.drop n) (vs.drop n)
  | _, _, 0, h => by simpa using h
  | [], _, n + 1, h => by rw [relDs_nil.mp h]; exact RelDs.nil
  | d0 :: ds, _, n + 1, h => by
    obtain ⟨x, xs, rfl, r, t⟩ := relDs_cons.mp h
    simpa using RelDs.drop n t
theorem RelDs.of_nil {vs : List V} (h : RelDs K H ad [] vs) : vs = [] := relDs_nil.mp h
end

/-! ### what does not touch tuples and read-only lists -/
/-- nothing unchangeable stands at a -/
structure NoTup (H : Hp) (a : Addr) : Prop where
  tup : ∀ xs, ¬ Rd H a (.tup xs)
  kl : ∀ o xs, H a ≠ some (.frz o (.lst xs))
theorem NoTup.none {H : Hp} {a : Addr} (h : H a = none) : NoTup H a := by
  constructor
  · intro xs r
    rcases r with r | ⟨o, r⟩ <;> rw [h] at r <;> cases r
  · intro o xs r
    rw [h] at r; cases r
theorem SqT.upd {K : PySem.W.Frag} {H : Hp} {a b : Addr} {o : HO} {xs : List V} (n : NoTup H a) (h : SqT K H b xs) : SqT K (upd H a o) b xs := by
  rcases h with h | h
  · refine .inl ?_
    have hb : b ≠ a := fun e => n.tup xs (e ▸ h)
    rcases h with h | ⟨u, h⟩
    · exact .inl (by rw [upd_ne hb]; exact h)
    · exact .inr ⟨u, by rw [upd_ne hb]; exact h⟩
  · exact .inr h
theorem SqR.upd {K : PySem.W.Frag} {H : Hp} {a b : Addr} {o : HO} {xs : List V} (n : NoTup H a) (h : SqR K H b xs) : SqR K (L2.upd H a o) b xs := by
  rcases h with ⟨u, h⟩ | h
  · have hb : b ≠ a := fun e => n.kl u xs (e ▸ h)
    exact .inl ⟨u, by rw [upd_ne hb]; exact h⟩
  · exact .inr h
/-- a new thing at a free place -/
theorem Ext.fresh {K : PySem.W.Frag} {H : Hp} {ad : List Addr} {a : Addr} {o : HO} (n : H a = none) : Ext K H ad (L2.upd H a o) ad := by
  refine ⟨fun _ _ h => SqT.upd (.none n) h, fun _ _ h => SqR.upd (.none n) h, fun b u h _ => ?_, fun b h => ?_, [], by simp, fun _ h => nomatch h⟩
  · rw [upd_ne (ne_of_none h n)]; exact h
  · by_cases hb : b = a
    · rw [hb]; exact n
    · rwa [upd_ne hb] at h
theorem Ext.new {K : PySem.W.Frag} {H : Hp} {ad : List Addr} {a : Addr} {o : HO} (n : H a = none) : Ext K H ad (L2.upd H a o) (ad ++ [a]) := by
  have x : Ext K H ad (L2.upd H a o) ad := Ext.fresh n
  exact ⟨x.tup, x.kl, x.frame, x.there, [a], rfl, fun b hb => by rw [List.mem_singleton.mp hb]; exact n⟩
/-- an object of the store written -/
theorem Ext.write {K : PySem.W.Frag} {H : Hp} {ad : List Addr} {a : Addr} {o : HO} (h : a ∈ ad) (n : NoTup H a) : Ext K H ad (L2.upd H a o) ad := by
  refine ⟨fun _ _ h => SqT.upd n h, fun _ _ h => SqR.upd n h, fun b u e hb => ?_, fun b e => ?_, [], by simp, fun _ h => nomatch h⟩
  · have hba : b ≠ a := by rintro rfl; exact hb h
    rw [upd_ne hba]; exact e
  · by_cases hb : b = a
    · rw [hb, upd_same] at e; cases e
    · rwa [upd_ne hb] at e
theorem Ext.notin {K : PySem.W.Frag} {H H1 : Hp} {ad ad1 : List Addr} (x : Ext K H ad H1 ad1) {b : Addr} {o : HO} (h : H b = some o) (n : b ∉ ad) : b ∉ ad1 := by
  obtain ⟨t, e, f⟩ := x.pre
  rw [e]; intro hm
  rcases List.mem_append.mp hm with hm | hm
  · exact n hm
  · rw [f b hm] at h; cases h

/-! ### the store's objects -/
def RelKs (K : PySem.W.Frag) (H : Hp) (ad : List Addr) (kvs : List (Key × D)) (ks : List (Key × V)) : Prop := Paired (fun p q => p.1 = q.1 ∧ RelD K H ad p.2 q.2) kvs ks
def RelFs (K : PySem.W.Frag) (H : Hp) (ad : List Addr) (kvs : List (Str × D)) (ks : List (Str × V)) : Prop := Paired (fun p q => p.1 = q.1 ∧ RelD K H ad p.2 q.2) kvs ks
theorem RelKs.ext {K : PySem.W.Frag} {H H1 : Hp} {ad ad1 : List Addr} {kvs : List (Key × D)} {ks : List (Key × V)} (a : Ext K H ad H1 ad1) (h : RelKs K H ad kvs ks) : RelKs K H1 ad1 kvs ks :=
  Paired.mapP h fun _ _ r => ⟨r.1, r.2.ext a⟩
theorem RelFs.ext {K : PySem.W.Frag} {H H1 : Hp} {ad ad1 : List Addr} {kvs : List (Str × D)} {ks : List (Str × V)} (a : Ext K H ad H1 ad1) (h : RelFs K H ad kvs ks) : RelFs K H1 ad1 kvs ks :=
  Paired.mapP h fun _ _ r => ⟨r.1, r.2.ext a⟩
/-- the object at a -/
def ObjRel (g : G) (H : Hp) (ad : List Addr) (a : Addr) : MO → Prop
  | .lst ds => ∃ xs, H a = some (.lst xs) ∧ RelDs g.K H ad ds xs
  | .dK kvs => ∃ ks, H a = some (.dK ks) ∧ RelKs g.K H ad kvs ks
  | .ins c fs => ∃ dx ks, H a = some (.ins (g.cl c) dx ks) ∧ RelFs g.K H ad fs ks
structure Sim (g : G) (H : Hp) (ad : List Addr) (st : Store) : Prop where
  len : ad.length = st.length
  nd : ad.Nodup
  obj : ∀ (n : Nat) (o : MO), st[n]? = some o → ∃ a, ad[n]? = some a ∧ ObjRel g H ad a o
section
variable {g : G} {H H' : Hp} {ad ad' : List Addr} {st : Store} {a : Addr} {o o' : MO} {u : HO}
theorem NoTup.of {x : HO} (h : H a = some x) (h1 : ∀ xs, x ≠ .tup xs) (h2 : ∀ o y, x ≠ .frz o y) : NoTup H a := by
  constructor
  · intro ys r
    rcases r with r | ⟨o, r⟩ <;> rw [h] at r <;> cases r
    · exact h1 _ rfl
    · exact h2 _ _ rfl
  · intro o ys r
    rw [h] at r; cases r; exact h2 _ _ rfl
theorem NoTup.of_lst {xs : List V} (h : H a = some (.lst xs)) : NoTup H a := .of h (fun _ z => by cases z) (fun _ _ z => by cases z)
theorem NoTup.of_dK {xs : List (Key × V)} (h : H a = some (.dK xs)) : NoTup H a := .of h (fun _ z => by cases z) (fun _ _ z => by cases z)
theorem NoTup.of_ins {c d : Addr} {fs : List (Str × V)} (h : H a = some (.ins c d fs)) : NoTup H a := .of h (fun _ z => by cases z) (fun _ _ z => by cases z)
theorem ObjRel.noTup (h : ObjRel g H ad a o) : NoTup H a := by
  cases o with
  | lst ds => obtain ⟨xs, e, _⟩ := h; exact .of_lst e
  | dK kvs => obtain ⟨xs, e, _⟩ := h; exact .of_dK e
  | ins c fs => obtain ⟨xs, _, e, _⟩ := h; exact .of_ins e
theorem ObjRel.there (h : ObjRel g H ad a o) : H a ≠ none := by
  cases o with
  | lst ds => obtain ⟨xs, e, _⟩ := h; rw [e]; simp
  | dK kvs => obtain ⟨xs, e, _⟩ := h; rw [e]; simp
  | ins c fs => obtain ⟨xs, _, e, _⟩ := h; rw [e]; simp
/-- the object stays while its own place stays and all data stay -/
theorem ObjRel.stay0 (h : ObjRel g H ad a o) (x : Ext0 g.K H ad H' ad') (e : H' a = H a) : ObjRel g H' ad' a o := by
  cases o with
  | lst ds => obtain ⟨xs, e1, r⟩ := h; exact ⟨xs, e.trans e1, r.ext0 x⟩
  | dK kvs => obtain ⟨xs, e1, r⟩ := h; exact ⟨xs, e.trans e1, Paired.mapP r fun _ _ r => ⟨r.1, r.2.ext0 x⟩⟩
  | ins c fs => obtain ⟨dx, xs, e1, r⟩ := h; exact ⟨dx, xs, e.trans e1, Paired.mapP r fun _ _ r => ⟨r.1, r.2.ext0 x⟩⟩
theorem ObjRel.stay (h : ObjRel g H ad a o) (x : Ext g.K H ad H' ad') (e : H' a = H a) : ObjRel g H' ad' a o := h.stay0 x.to0 e
theorem Sim.lt (S : Sim g H ad st) {n : Nat} (h : ad[n]? = some a) : ∃ o, st[n]? = some o ∧ ObjRel g H ad a o := by
  have hl : n < st.length := by rw [← S.len]; exact (List.getElem?_eq_some_iff.mp h).1
  obtain ⟨b, hb, r⟩ := S.obj n _ (List.getElem?_eq_getElem hl)
  rw [h] at hb; cases hb
  exact ⟨_, List.getElem?_eq_getElem hl, r⟩
theorem Sim.ne (S : Sim g H ad st) {n m : Nat} {b : Addr} (h : ad[n]? = some a) (h' : ad[m]? = some b) (d : n ≠ m) : a ≠ b := by
  rintro rfl
  obtain ⟨h1, e1⟩ := List.getElem?_eq_some_iff.mp h
  obtain ⟨h2, e2⟩ := List.getElem?_eq_some_iff.mp h'
  exact d ((List.getElem_inj S.nd).mp (e1.trans e2.symm))
theorem Sim.notin (S : Sim g H ad st) (hn : H a = none) {n : Nat} : ad[n]? ≠ some a := fun e => by
  obtain ⟨o, _, r⟩ := S.lt e
  exact r.there hn
/-- a new thing that the store does not hold (a tuple) -/
theorem Sim.fresh (S : Sim g H ad st) (hn : H a = none) : Sim g (upd H a u) ad st := by
  refine ⟨S.len, S.nd, fun n o e => ?_⟩
  obtain ⟨b, hb, r⟩ := S.obj n o e
  exact ⟨b, hb, r.stay (Ext.fresh hn) (upd_ne fun z => S.notin hn (z ▸ hb))⟩
/-- a new object of the store -/
theorem Sim.new (S : Sim g H ad st) (hn : H a = none) (r : ObjRel g (upd H a u) (ad ++ [a]) a o) : Sim g (upd H a u) (ad ++ [a]) (st ++ [o]) := by
  have hm : a ∉ ad := fun h => by
    obtain ⟨n, hl, e⟩ := List.getElem_of_mem h
    exact S.notin hn (n := n) (List.getElem?_eq_some_iff.mpr ⟨hl, e⟩)
  refine ⟨by simp [S.len], List.nodup_append.mpr ⟨S.nd, by simp, fun x hx y hy => ?_⟩, fun n o' e => ?_⟩
  · rw [List.mem_singleton.mp hy]; rintro rfl; exact hm hx
  · by_cases hl : n < st.length
    · rw [List.getElem?_append_left hl] at e
      obtain ⟨b, hb, r⟩ := S.obj n o' e
      refine ⟨b, ?_, r.stay (Ext.new hn) (upd_ne fun z => S.notin hn (z ▸ hb))⟩
      rw [List.getElem?_append_left (by rw [S.len]; exact hl)]; exact hb
    · have hn' : n = st.length := by
        have := (List.getElem?_eq_some_iff.mp e).1
        simp at this; omega
      subst hn'
      simp at e; subst e
      exact ⟨a, by rw [← S.len]; simp, r⟩
/-- a thing that the store does not hold is written -/
theorem Ext0.upd {K : PySem.W.Frag} (n : NoTup H a) : Ext0 K H ad (L2.upd H a u) ad := ⟨fun _ _ h => SqT.upd n h, fun _ _ h => SqR.upd n h, fun _ _ h => h⟩
theorem Sim.off (S : Sim g H ad st) (hn : a ∉ ad) (nt : NoTup H a) : Sim g (upd H a u) ad st := by
  refine ⟨S.len, S.nd, fun n o e => ?_⟩
  obtain ⟨b, hb, r⟩ := S.obj n o e
  exact ⟨b, hb, r.stay0 (Ext0.upd nt) (upd_ne fun z => hn (z ▸ List.mem_of_getElem? hb))⟩
/-- a list that the store did not hold is taken into it -/
theorem Sim.adopt (S : Sim g H ad st) {xs : List D} {vs : List V} (hn : a ∉ ad) (e : H a = some (.lst vs)) (r : RelDs g.K H ad xs vs) : Sim g H (ad ++ [a]) (st ++ [.lst xs]) := by
  have x : Ext0 g.K H ad H (ad ++ [a]) := ⟨fun _ _ h => h, fun _ _ h => h, fun n y h => by
    rw [List.getElem?_append_left (List.getElem?_eq_some_iff.mp h).1]; exact h⟩
  refine ⟨by simp [S.len], List.nodup_append.mpr ⟨S.nd, by simp, fun x hx y hy => ?_⟩, fun n o' e' => ?_⟩
  · rw [List.mem_singleton.mp hy]; rintro rfl; exact hn hx
  · by_cases hl : n < st.length
    · rw [List.getElem?_append_left hl] at e'
      obtain ⟨b, hb, r⟩ := S.obj n o' e'
      exact ⟨b, x.at_ _ _ hb, r.stay0 x rfl⟩
    · have hn' : n = st.length := by
        have := (List.getElem?_eq_some_iff.mp e').1
        simp at this; omega
      subst hn'
      simp at e'; subst e'
      exact ⟨a, by rw [← S.len]; simp, vs, e, r.ext0 x⟩
theorem Sim.mem (S : Sim g H ad st) (hn : H a = none) : a ∉ ad := fun h => by
  obtain ⟨n, hl, e⟩ := List.getElem_of_mem h
  exact S.notin hn (n := n) (List.getElem?_eq_some_iff.mpr ⟨hl, e⟩)
/-- an object of the store is written -/
theorem Sim.write (S : Sim g H ad st) {n : Nat} (hn : ad[n]? = some a) (nt : NoTup H a) (r : ObjRel g (upd H a u) ad a o) : Sim g (upd H a u) ad (st.set n o) := by
  refine ⟨by simp [S.len], S.nd, fun m o' e => ?_⟩
  by_cases hm : n = m
  · subst hm
    have hl : n < st.length := by rw [← S.len]; exact (List.getElem?_eq_some_iff.mp hn).1
    rw [List.getElem?_set_self hl] at e; cases e
    exact ⟨a, hn, r⟩
  · rw [List.getElem?_set_ne hm] at e
    obtain ⟨b, hb, r⟩ := S.obj m o' e
    exact ⟨b, hb, r.stay (Ext.write (List.mem_of_getElem? hn) nt) (upd_ne (S.ne hb hn fun z => hm z.symm))⟩
end

/-! ### what an answer says of the heap behind it -/
def XRel (K : PySem.W.Frag) (H : Hp) (ad : List Addr) (fs : Option (List (Str × D))) (dx : Option Addr) : Prop := match fs with
  | none => dx = none
  | some fs => ∃ d ks, dx = some d ∧ H d = some (.xd ks) ∧ RelFs K H ad fs ks
def Post (g : G) (E : XK) (H : Hp) (ad : List Addr) (r : R D) (Q : VK) : Prop := match r with
  | .ok d st => ∀ v H' ad', Ext g.K H ad H' ad' → Sim g H' ad' st → RelD g.K H' ad' d v → Q v H'
  | .exc c fs st => ∀ dx H' ad', Ext g.K H ad H' ad' → Sim g H' ad' st → XRel g.K H' ad' fs dx → E (.ref (g.cl c)) dx H'
  | .stuck => False
def PostT (g : G) (E : XK) (H : Hp) (ad : List Addr) (r : R Bool) (Q : Bool → Hp → Prop) : Prop := match r with
  | .ok b st => ∀ H' ad', Ext g.K H ad H' ad' → Sim g H' ad' st → Q b H'
  | .exc c fs st => ∀ dx H' ad', Ext g.K H ad H' ad' → Sim g H' ad' st → XRel g.K H' ad' fs dx → E (.ref (g.cl c)) dx H'
  | .stuck => False
def PostA (g : G) (E : XK) (H : Hp) (ad : List Addr) (r : R (List D)) (Q : List V → Hp → Prop) : Prop := match r with
  | .ok ds st => ∀ vs H' ad', Ext g.K H ad H' ad' → Sim g H' ad' st → RelDs g.K H' ad' ds vs → Q vs H'
  | .exc c fs st => ∀ dx H' ad', Ext g.K H ad H' ad' → Sim g H' ad' st → XRel g.K H' ad' fs dx → E (.ref (g.cl c)) dx H'
  | .stuck => False
/-- a statement's answer -/
inductive RS where
  | nx (ds : DSt) (st : Store) | rt (d : D) (st : Store) | bk (ds : DSt) (st : Store) | ct (ds : DSt) (st : Store)
  | exc (c : Str) (fs : Option (List (Str × D))) (st : Store) | stuck
def RelS (K : PySem.W.Frag) (H : Hp) (ad : List Addr) (ds : DSt) (σ : L2.St) : Prop := ds.length = σ.length ∧ ∀ (i : Nat) (d : D), ds[i]? = some (some d) → ∃ v, σ[i]? = some (some v) ∧ RelD K H ad d v
theorem RelS.ext {K : PySem.W.Frag} {H H1 : Hp} {ad ad1 : List Addr} {ds : DSt} {σ : L2.St} (h : RelS K H ad ds σ) (a : Ext K H ad H1 ad1) : RelS K H1 ad1 ds σ :=
  ⟨h.1, fun i d e => let ⟨v, e1, r⟩ := h.2 i d e; ⟨v, e1, r.ext a⟩⟩
theorem RelS.set {K : PySem.W.Frag} {H : Hp} {ad : List Addr} {ds : DSt} {σ : L2.St} (h : RelS K H ad ds σ) (i : Nat) {d : D} {v : V} (r : RelD K H ad d v) : RelS K H ad (ds.set i (some d)) (σ.set i (some v)) := by
  refine ⟨by simp [h.1], fun j d' e => ?_⟩
  by_cases hj : i = j
  · subst hj
    have hl : i < ds.length := by
      have := (List.getElem?_eq_some_iff.mp e).1
      simpa using this
    rw [List.getElem?_set_self hl] at e; cases e
    exact ⟨v, by rw [List.getElem?_set_self (by rw [← h.1]; exact hl)], r⟩
  · rw [List.getElem?_set_ne hj] at e
    obtain ⟨v', e', r'⟩ := h.2 j d' e
    exact ⟨v', by rw [List.getElem?_set_ne hj]; exact e', r'⟩
def PostS (g : G) (E : XK) (H : Hp) (ad : List Addr) (r : RS) (D : Ends) : Prop := match r with
  | .nx ds st => ∀ σ H' ad', Ext g.K H ad H' ad' → Sim g H' ad' st → RelS g.K H' ad' ds σ → D.nx σ H'
  | .bk ds st => ∀ σ H' ad', Ext g.K H ad H' ad' → Sim g H' ad' st → RelS g.K H' ad' ds σ → D.bk σ H'
  | .ct ds st => ∀ σ H' ad', Ext g.K H ad H' ad' → Sim g H' ad' st → RelS g.K H' ad' ds σ → D.ct σ H'
  | .rt d st => ∀ v H' ad', Ext g.K H ad H' ad' → Sim g H' ad' st → RelD g.K H' ad' d v → D.rt v H'
  | .exc c fs st => ∀ dx H' ad', Ext g.K H ad H' ad' → Sim g H' ad' st → XRel g.K H' ad' fs dx → E (.ref (g.cl c)) dx H'
  | .stuck => False
/-- the target of an assignment gives the new slots and store -/
def PostG (g : G) (E : XK) (H : Hp) (ad : List Addr) (r : R DSt) (Q : L2.St → Hp → Prop) : Prop := match r with
  | .ok ds st => ∀ σ H' ad', Ext g.K H ad H' ad' → Sim g H' ad' st → RelS g.K H' ad' ds σ → Q σ H'
  | .exc _ _ _ => False
  | .stuck => False
section
variable {g : G} {E : XK} {H H1 : Hp} {ad ad1 : List Addr}
theorem Post.ext {r : R D} {Q : VK} (x : Ext g.K H ad H1 ad1) (h : Post g E H ad r Q) : Post g E H1 ad1 r Q := by
  cases r with
  | ok d st => exact fun v H' ad' e S r => h v H' ad' (x.trans e) S r
  | exc c fs st => exact fun v H' ad' e S r => h v H' ad' (x.trans e) S r
  | stuck => exact h
theorem PostT.ext {r : R Bool} {Q : Bool → Hp → Prop} (x : Ext g.K H ad H1 ad1) (h : PostT g E H ad r Q) : PostT g E H1 ad1 r Q := by
  cases r with
  | ok d st => exact fun H' ad' e S => h H' ad' (x.trans e) S
  | exc c fs st => exact fun v H' ad' e S r => h v H' ad' (x.trans e) S r
  | stuck => exact h
theorem PostA.ext {r : R (List D)} {Q : List V → Hp → Prop} (x : Ext g.K H ad H1 ad1) (h : PostA g E H ad r Q) : PostA g E H1 ad1 r Q := by
  cases r with
  | ok d st => exact fun v H' ad' e S r => h v H' ad' (x.trans e) S r
  | exc c fs st => exact fun v H' ad' e S r => h v H' ad' (x.trans e) S r
  | stuck => exact h
theorem PostS.ext {r : RS} {Q : Ends} (x : Ext g.K H ad H1 ad1) (h : PostS g E H ad r Q) : PostS g E H1 ad1 r Q := by
  cases r with
  | nx d st => exact fun v H' ad' e S r => h v H' ad' (x.trans e) S r
  | bk d st => exact fun v H' ad' e S r => h v H' ad' (x.trans e) S r
  | ct d st => exact fun v H' ad' e S r => h v H' ad' (x.trans e) S r
  | rt d st => exact fun v H' ad' e S r => h v H' ad' (x.trans e) S r
  | exc c fs st => exact fun v H' ad' e S r => h v H' ad' (x.trans e) S r
  | stuck => exact h
theorem PostG.ext {r : R DSt} {Q : L2.St → Hp → Prop} (x : Ext g.K H ad H1 ad1) (h : PostG g E H ad r Q) : PostG g E H1 ad1 r Q := by
  cases r with
  | ok d st => exact fun v H' ad' e S r => h v H' ad' (x.trans e) S r
  | exc c fs st => exact h
  | stuck => exact h
end

/-! ### readings from functions of (slots, store) -/
abbrev M (α : Type) := DSt → Store → R α
abbrev MS := DSt → Store → RS
section
variable (g : G) (E : XK)
def tE (m : M D) : TE := fun σ H Q => ∃ ad ds st, Sim g H ad st ∧ RelS g.K H ad ds σ ∧ Post g E H ad (m ds st) Q
def tT (m : M Bool) : TT := fun σ H Q => ∃ ad ds st, Sim g H ad st ∧ RelS g.K H ad ds σ ∧ PostT g E H ad (m ds st) Q
def tA (m : M (List D)) : TA := fun σ H Q => ∃ ad ds st, Sim g H ad st ∧ RelS g.K H ad ds σ ∧ PostA g E H ad (m ds st) Q
def tS (m : MS) : TS := fun D σ H => ∃ ad ds st, Sim g H ad st ∧ RelS g.K H ad ds σ ∧ PostS g E H ad (m ds st) D
/-- a target: from the value -/
def tG (m : D → M DSt) : TG := fun v σ H Q => ∃ ad d ds st, Sim g H ad st ∧ RelS g.K H ad ds σ ∧ RelD g.K H ad d v ∧ PostG g E H ad (m d ds st) Q
def tGs (m : List D → M DSt) : TGs := fun vs σ H Q => ∃ ad d ds st, Sim g H ad st ∧ RelS g.K H ad ds σ ∧ RelDs g.K H ad d vs ∧ PostG g E H ad (m d ds st) Q
/-- an operation on two values -/
def r2 (f : D → D → Store → R D) : R2 := fun x y H Q => ∃ ad d e st, Sim g H ad st ∧ RelD g.K H ad d x ∧ RelD g.K H ad e y ∧ Post g E H ad (f d e st) Q
def r1 (f : D → Store → R D) : V → Hp → VK → Prop := fun x H Q => ∃ ad d st, Sim g H ad st ∧ RelD g.K H ad d x ∧ Post g E H ad (f d st) Q
def rC (f : List D → Store → R D) : List V → Hp → VK → Prop := fun xs H Q => ∃ ad ds st, Sim g H ad st ∧ RelDs g.K H ad ds xs ∧ Post g E H ad (f ds st) Q
def rM (f : D → List D → Store → R D) : V → List V → Hp → VK → Prop := fun x xs H Q => ∃ ad d ds st, Sim g H ad st ∧ RelD g.K H ad d x ∧ RelDs g.K H ad ds xs ∧ Post g E H ad (f d ds st) Q
end
section
variable {g : G} {E : XK} {H : Hp} {ad : List Addr} {ds : DSt} {σ : L2.St} {st : Store}
theorem tE.go {m : M D} {Q : VK} (S : Sim g H ad st) (r : RelS g.K H ad ds σ) {k : D → Store → R D} {Q' : VK} (h : Post g E H ad ((m ds st).bind k) Q')
    (nx : ∀ d st' v H' ad', Ext g.K H ad H' ad' → Sim g H' ad' st' → RelS g.K H' ad' ds σ → RelD g.K H' ad' d v → Post g E H' ad' (k d st') Q' → Q v H') : tE g E m σ H Q := by
  refine ⟨ad, ds, st, S, r, ?_⟩
  cases e : m ds st with
  | ok d st' => rw [e] at h; exact fun v H' ad' x S' rd => nx d st' v H' ad' x S' (r.ext x) rd (Post.ext x h)
  | exc c fs st' => rw [e] at h; exact h
  | stuck => rw [e] at h; exact h
theorem tE.goT {m : M D} {Q : VK} (S : Sim g H ad st) (r : RelS g.K H ad ds σ) {k : D → Store → R Bool} {Q' : Bool → Hp → Prop} (h : PostT g E H ad ((m ds st).bind k) Q')
    (nx : ∀ d st' v H' ad', Ext g.K H ad H' ad' → Sim g H' ad' st' → RelS g.K H' ad' ds σ → RelD g.K H' ad' d v → PostT g E H' ad' (k d st') Q' → Q v H') : tE g E m σ H Q := by
  refine ⟨ad, ds, st, S, r, ?_⟩
  cases e : m ds st with
  | ok d st' => rw [e] at h; exact fun v H' ad' x S' rd => nx d st' v H' ad' x S' (r.ext x) rd (PostT.ext x h)
  | exc c fs st' => rw [e] at h; exact h
  | stuck => rw [e] at h; exact h
theorem tE.goA {m : M D} {Q : VK} (S : Sim g H ad st) (r : RelS g.K H ad ds σ) {k : D → Store → R (List D)} {Q' : List V → Hp → Prop} (h : PostA g E H ad ((m ds st).bind k) Q')
    (nx : ∀ d st' v H' ad', Ext g.K H ad H' ad' → Sim g H' ad' st' → RelS g.K H' ad' ds σ → RelD g.K H' ad' d v → PostA g E H' ad' (k d st') Q' → Q v H') : tE g E m σ H Q := by
  refine ⟨ad, ds, st, S, r, ?_⟩
  cases e : m ds st with
  | ok d st' => rw [e] at h; exact fun v H' ad' x S' rd => nx d st' v H' ad' x S' (r.ext x) rd (PostA.ext x h)
  | exc c fs st' => rw [e] at h; exact h
  | stuck => rw [e] at h; exact h
theorem tT.go {m : M Bool} {Q : Bool → Hp → Prop} (S : Sim g H ad st) (r : RelS g.K H ad ds σ) {k : Bool → Store → R D} {Q' : VK} (h : Post g E H ad ((m ds st).bind k) Q')
    (nx : ∀ d st' H' ad', Ext g.K H ad H' ad' → Sim g H' ad' st' → RelS g.K H' ad' ds σ → Post g E H' ad' (k d st') Q' → Q d H') : tT g E m σ H Q := by
  refine ⟨ad, ds, st, S, r, ?_⟩
  cases e : m ds st with
  | ok d st' => rw [e] at h; exact fun H' ad' x S' => nx d st' H' ad' x S' (r.ext x) (Post.ext x h)
  | exc c fs st' => rw [e] at h; exact h
  | stuck => rw [e] at h; exact h
theorem tT.goT {m : M Bool} {Q : Bool → Hp → Prop} (S : Sim g H ad st) (r : RelS g.K H ad ds σ) {k : Bool → Store → R Bool} {Q' : Bool → Hp → Prop} (h : PostT g E H ad ((m ds st).bind k) Q')
    (nx : ∀ d st' H' ad', Ext g.K H ad H' ad' → Sim g H' ad' st' → RelS g.K H' ad' ds σ → PostT g E H' ad' (k d st') Q' → Q d H') : tT g E m σ H Q := by
  refine ⟨ad, ds, st, S, r, ?_⟩
  cases e : m ds st with
  | ok d st' => rw [e] at h; exact fun H' ad' x S' => nx d st' H' ad' x S' (r.ext x) (PostT.ext x h)
  | exc c fs st' => rw [e] at h; exact h
  | stuck => rw [e] at h; exact h
theorem tA.go {m : M (List D)} {Q : List V → Hp → Prop} (S : Sim g H ad st) (r : RelS g.K H ad ds σ) {k : List D → Store → R D} {Q' : VK} (h : Post g E H ad ((m ds st).bind k) Q')
    (nx : ∀ d st' v H' ad', Ext g.K H ad H' ad' → Sim g H' ad' st' → RelS g.K H' ad' ds σ → RelDs g.K H' ad' d v → Post g E H' ad' (k d st') Q' → Q v H') : tA g E m σ H Q := by
  refine ⟨ad, ds, st, S, r, ?_⟩
  cases e : m ds st with
  | ok d st' => rw [e] at h; exact fun v H' ad' x S' rd => nx d st' v H' ad' x S' (r.ext x) rd (Post.ext x h)
  | exc c fs st' => rw [e] at h; exact h
  | stuck => rw [e] at h; exact h
theorem tA.goA {m : M (List D)} {Q : List V → Hp → Prop} (S : Sim g H ad st) (r : RelS g.K H ad ds σ) {k : List D → Store → R (List D)} {Q' : List V → Hp → Prop} (h : PostA g E H ad ((m ds st).bind k) Q')
    (nx : ∀ d st' v H' ad', Ext g.K H ad H' ad' → Sim g H' ad' st' → RelS g.K H' ad' ds σ → RelDs g.K H' ad' d v → PostA g E H' ad' (k d st') Q' → Q v H') : tA g E m σ H Q := by
  refine ⟨ad, ds, st, S, r, ?_⟩
  cases e : m ds st with
  | ok d st' => rw [e] at h; exact fun v H' ad' x S' rd => nx d st' v H' ad' x S' (r.ext x) rd (PostA.ext x h)
  | exc c fs st' => rw [e] at h; exact h
  | stuck => rw [e] at h; exact h
/-- a value is handed on -/
theorem Post.ret {d : D} {v : V} {Q : VK} (h : Post g E H ad (.ok d st) Q) (S : Sim g H ad st) (r : RelD g.K H ad d v) : Q v H := h v H ad Ext.refl S r
/-- a new tuple -/
theorem Post.tup {xs : List D} {vs : List V} {p : Addr} {Q : VK} (h : Post g E H ad (.ok (.tup xs) st) Q) (S : Sim g H ad st) (r : RelDs g.K H ad xs vs) (hp : H p = none) : Q (.ref p) (upd H p (.tup vs)) := by
  refine h _ _ ad (Ext.fresh hp) (S.fresh hp) ?_
  unfold RelD
  exact ⟨p, vs, rfl, .inl (.inl upd_same), r.ext (Ext.fresh hp)⟩
/-- a new list -/
theorem Post.lst {xs : List D} {vs : List V} {p : Addr} {Q : VK} (h : Post g E H ad (.ok (.loc st.length) (st ++ [.lst xs])) Q) (S : Sim g H ad st) (r : RelDs g.K H ad xs vs) (hp : H p = none) : Q (.ref p) (upd H p (.lst vs)) := by
  refine h _ _ (ad ++ [p]) (Ext.new hp) (S.new hp ⟨vs, upd_same, r.ext (Ext.new hp)⟩) ?_
  unfold RelD
  exact ⟨p, rfl, by rw [← S.len]; simp⟩
end
end Mp
end
section
set_option Elab.async false
set_option linter.all false
set_option maxRecDepth 100000
set_option maxHeartbeats 1000000
/-! Mp, the rules: each construct's function and that it tells what the construct does. -/
namespace Mp
open PySem PySem.Spec PyProof.Rows L2
abbrev gx (X : Cx) (cl : Str → Addr) : G := ⟨X.K, cl⟩

/-! ### functions -/
def mC (d : D) : M D := fun _ st => .ok d st
def mVar (i : Nat) : M D := fun ds st => match ds[i]? with
  | some (some d) => .ok d st
  | _ => .stuck
def m1 (f : D → Store → R D) (a : M D) : M D := fun ds st => (a ds st).bind f
def m2 (f : D → D → Store → R D) (a b : M D) : M D := fun ds st => (a ds st).bind fun x st => (b ds st).bind fun y st => f x y st
def mNil : M (List D) := fun _ st => .ok [] st
def mCons (a : M D) (r : M (List D)) : M (List D) := fun ds st => (a ds st).bind fun x st => (r ds st).bind fun xs st => .ok (x :: xs) st
def mTup (a : M (List D)) : M D := fun ds st => (a ds st).bind fun xs st => if xs.length ≤ sizeLine then .ok (.tup xs) st else .stuck
def mLst (a : M (List D)) : M D := fun ds st => (a ds st).bind fun xs st => if xs.length ≤ sizeLine then .ok (.loc st.length) (st ++ [.lst xs]) else .stuck
def mCall (f : List D → Store → R D) (a : M (List D)) : M D := fun ds st => (a ds st).bind f
def mMeth (f : D → List D → Store → R D) (o : M D) (a : M (List D)) : M D := fun ds st => (o ds st).bind fun x st => (a ds st).bind fun xs st => f x xs st
def mIf (c : M Bool) (a b : M D) : M D := fun ds st => (c ds st).bind fun k st => if k = true then a ds st else b ds st
/-- a truth value as a value -/
def mB (c : M Bool) : M D := fun ds st => (c ds st).bind fun k st => .ok (.bl k) st
def isB : D → Store → R Bool := fun d st => match d with
  | .bl b => .ok b st
  | _ => .stuck
def truth : D → Store → R Bool := fun d st => match d with
  | .non => .ok false st
  | .bl b => .ok b st
  | .int i => .ok (i != 0) st
  | .str x => if x.length ≤ sizeLine then .ok ((x.length : Int) != 0) st else .stuck
  | .tup xs => .ok (!xs.isEmpty) st
  | .kl xs => .ok (!xs.isEmpty) st
  | .loc n => match st[n]? with
    | some (.lst xs) => .ok (!xs.isEmpty) st
    | some (.dK kvs) => .ok (!kvs.isEmpty) st
    | _ => .stuck
def tVal (a : M D) : M Bool := fun ds st => (a ds st).bind truth
def tB1 (a : M D) : M Bool := fun ds st => (a ds st).bind isB
def tAnd (a b : M Bool) : M Bool := fun ds st => (a ds st).bind fun k st => if k = true then b ds st else .ok false st
def tOr (a b : M Bool) : M Bool := fun ds st => (a ds st).bind fun k st => if k = true then .ok true st else b ds st
def tNot (a : M Bool) : M Bool := fun ds st => (a ds st).bind fun k st => .ok (!k) st
def mAnd (a b : M D) : M D := fun ds st => (a ds st).bind fun x st => (isB x st).bind fun k st => if k = true then b ds st else .ok (.bl false) st
def mOr (a b : M D) : M D := fun ds st => (a ds st).bind fun x st => (isB x st).bind fun k st => if k = true then .ok (.bl true) st else b ds st
/-- a chain of two comparisons -/
def mChain (f f' : D → D → Store → R D) (a b c : M D) : M D := fun ds st => (a ds st).bind fun x st => (b ds st).bind fun y st => (f x y st).bind fun z st => (isB z st).bind fun k st => if k = true then (c ds st).bind fun w st => f' y w st else .ok (.bl false) st

def sSkip : MS := fun ds st => .nx ds st
def sSeq (a b : MS) : MS := fun ds st => match a ds st with
  | .nx ds st => b ds st
  | r => r
def ofR {α : Type} (r : R α) (k : α → Store → RS) : RS := match r with
  | .ok a st => k a st
  | .exc c fs st => .exc c fs st
  | .stuck => .stuck
@[simp] theorem ofR_ok {α : Type} (a : α) (st : Store) (k : α → Store → RS) : ofR (.ok a st) k = k a st := rfl
@[simp] theorem ofR_stuck {α : Type} (k : α → Store → RS) : ofR (.stuck : R α) k = .stuck := rfl
@[simp] theorem ofR_exc {α : Type} (c : Str) (fs) (st : Store) (k : α → Store → RS) : ofR (.exc c fs st : R α) k = .exc c fs st := rfl
def sExpr (a : M D) : MS := fun ds st => ofR (a ds st) fun _ st => .nx ds st
def sRet (a : M D) : MS := fun ds st => ofR (a ds st) fun d st => .rt d st
def sRetN : MS := fun _ st => .rt .non st
def sBrk : MS := fun ds st => .bk ds st
def sCnt : MS := fun ds st => .ct ds st
def sIf (c : M Bool) (a b : MS) : MS := fun ds st => ofR (c ds st) fun k st => if k = true then a ds st else b ds st
def sAsg (a : M D) (g : D → M DSt) : MS := fun ds st => ofR (a ds st) fun d st => match g d ds st with
  | .ok ds st => .nx ds st
  | _ => .stuck
def gNm (i : Nat) : D → M DSt := fun d ds st => .ok (ds.set i (some d)) st
def gNil' : List D → M DSt := fun xs ds st => if xs = [] then .ok ds st else .stuck
def gCons' (a : D → M DSt) (r : List D → M DSt) : List D → M DSt := fun xs ds st => match xs with
  | x :: xs => (a x ds st).bind fun ds st => r xs ds st
  | [] => .stuck
def gTp (n : Nat) (r : List D → M DSt) : D → M DSt := fun d ds st => match d with
  | .tup xs => if xs.length = n then r xs ds st else .stuck
  | _ => .stuck

/-! ### readings: names, constants -/
section
variable {X : Cx} {cl : Str → Addr} {E : XK}
theorem relD_non {K : PySem.W.Frag} {H : Hp} {ad : List Addr} {v : V} : RelD K H ad .non v ↔ v = .non := by unfold RelD; exact Iff.rfl
theorem relD_bl {K : PySem.W.Frag} {H : Hp} {ad : List Addr} {b : Bool} {v : V} : RelD K H ad (.bl b) v ↔ v = .bl b := by unfold RelD; exact Iff.rfl
theorem relD_int {K : PySem.W.Frag} {H : Hp} {ad : List Addr} {b : Int} {v : V} : RelD K H ad (.int b) v ↔ v = .int b := by unfold RelD; exact Iff.rfl
theorem relD_str {K : PySem.W.Frag} {H : Hp} {ad : List Addr} {b : Str} {v : V} : RelD K H ad (.str b) v ↔ v = .str b := by unfold RelD; exact Iff.rfl
theorem relD_tup {K : PySem.W.Frag} {H : Hp} {ad : List Addr} {b : List D} {v : V} : RelD K H ad (.tup b) v ↔ ∃ a xs, v = .ref a ∧ SqT K H a xs ∧ RelDs K H ad b xs := by
  constructor
  · intro h; unfold RelD at h; exact h
  · intro h; unfold RelD; exact h
theorem relD_kl {K : PySem.W.Frag} {H : Hp} {ad : List Addr} {b : List D} {v : V} : RelD K H ad (.kl b) v ↔ ∃ a xs, v = .ref a ∧ SqR K H a xs ∧ RelDs K H ad b xs := by
  constructor
  · intro h; unfold RelD at h; exact h
  · intro h; unfold RelD; exact h
theorem relD_loc {K : PySem.W.Frag} {H : Hp} {ad : List Addr} {n : Nat} {v : V} : RelD K H ad (.loc n) v ↔ ∃ a, v = .ref a ∧ ad[n]? = some a := by
  constructor
  · intro h; unfold RelD at h; exact h
  · intro h; unfold RelD; exact h

theorem tE.imp {g : G} {e : Expr} {t : TE} {m : M D} (h : PE X e t) (i : ∀ σ H Q, tE g E m σ H Q → t σ H Q) : PE X e (tE g E m) := ⟨fun pins s σ H Q I q => h.run pins s σ H Q I (i σ H Q q)⟩
theorem tT.imp {g : G} {e : Expr} {t : TT} {m : M Bool} (h : PT X e t) (i : ∀ σ H Q, tT g E m σ H Q → t σ H Q) : PT X e (tT g E m) := ⟨fun pins s σ H Q I q => h.run pins s σ H Q I (i σ H Q q)⟩
theorem tA.imp {g : G} {e : List Expr} {t : TA} {m : M (List D)} (h : PA X e t) (i : ∀ σ H Q, tA g E m σ H Q → t σ H Q) : PA X e (tA g E m) := ⟨fun pos pins s σ H Q I q => h.run pos pins s σ H Q I (i σ H Q q)⟩
theorem tS.imp {g : G} {e : Stmt} {t : TS} {m : MS} (h : PS X e t) (i : ∀ σ H Q, tS g E m Q σ H → t Q σ H) : PS X e (tS g E m) := ⟨fun pins s σ H Q I q => h.run pins s σ H Q I (i σ H Q q)⟩
theorem tS.imps {g : G} {e : List Stmt} {t : TS} {m : MS} (h : PSs X e t) (i : ∀ σ H Q, tS g E m Q σ H → t Q σ H) : PSs X e (tS g E m) := ⟨fun pins s σ H Q I q => h.run pins s σ H Q I (i σ H Q q)⟩

theorem me_var (i : Nat) {x : Str} {pos : Pos} (hN : X.N[i]? = some x := by rfl) (hv : Vis X.env.scope x := by first | exact Or.inl rfl | exact Or.inr (Or.inl rfl) | exact Or.inr (Or.inr rfl)) (hd : (x == ("__debug__" : Str)) = false := by decide)
    (hcd : (x == ("__classdict__" : Str)) = false := by decide) : PE X (.Name x pos) (tE (gx X cl) E (mVar i)) :=
  tE.imp (pv i hN hv hd hcd) fun σ H Q ⟨ad, ds, st, S, r, h⟩ => by
    unfold mVar at h
    cases e : ds[i]? with
    | none => rw [e] at h; exact h.elim
    | some o =>
      rw [e] at h
      cases o with
      | none => exact h.elim
      | some d =>
        obtain ⟨v, e1, rv⟩ := r.2 i d e
        exact ⟨v, e1, Post.ret h S rv⟩
theorem me_c {e : Expr} {v : V} {d : D} (h : PE X e (tC v)) (r : ∀ H ad, RelD X.K H ad d v) : PE X e (tE (gx X cl) E (mC d)) :=
  tE.imp h fun σ H Q ⟨ad, ds, st, S, _, h⟩ => Post.ret h S (r _ _)
theorem me_int {i j pos} : PE X (.Constant (.int i) j pos) (tE (gx X cl) E (mC (.int i))) := me_c pe_int fun _ _ => relD_int.mpr rfl
theorem me_bl {i j pos} : PE X (.Constant (.bool i) j pos) (tE (gx X cl) E (mC (.bl i))) := me_c pe_bl fun _ _ => relD_bl.mpr rfl
theorem me_str {i j pos} : PE X (.Constant (.str i) j pos) (tE (gx X cl) E (mC (.str i))) := me_c pe_str fun _ _ => relD_str.mpr rfl
theorem me_non {j pos} : PE X (.Constant .none j pos) (tE (gx X cl) E (mC .non)) := me_c pe_non fun _ _ => relD_non.mpr rfl
/-- a constant of the module: an int, a text -/
theorem me_gInt {x : Str} {i : Int} {t : Tok} {pos : Pos} (hm : X.mg x = some (.int i t)) (hg : Gl X x := by rfl) (hd : (x == ("__debug__" : Str)) = false := by decide) : PE X (.Name x pos) (tE (gx X cl) E (mC (.int i))) :=
  me_c (pe_glob (v := .int i) hg hm ⟨t, rfl⟩ hd) fun _ _ => relD_int.mpr rfl
theorem me_gStr {x : Str} {i : Str} {t : Tok} {pos : Pos} (hm : X.mg x = some (.str i t)) (hg : Gl X x := by rfl) (hd : (x == ("__debug__" : Str)) = false := by decide) : PE X (.Name x pos) (tE (gx X cl) E (mC (.str i))) :=
  me_c (pe_glob (v := .str i) hg hm ⟨t, rfl⟩ hd) fun _ _ => relD_str.mpr rfl

/-! ### operators, displays, calls -/
variable {a b c : Expr} {ma mb mc : M D} {pos : Pos} {es : List Expr} {mas : M (List D)}
theorem me_op2 {op : Operator} {f : D → D → Store → R D} (ho : OpR X (binaryOp op) (r2 (gx X cl) E f)) (ha : PE X a (tE (gx X cl) E ma)) (hb : PE X b (tE (gx X cl) E mb)) : PE X (.BinOp a op b pos) (tE (gx X cl) E (m2 f ma mb)) :=
  tE.imp (pe_op ho ha hb) fun σ H Q ⟨ad, ds, st, S, r, h⟩ => by
    refine tE.go S r h fun x st1 v H1 ad1 e1 S1 r1 rx h1 => ?_
    refine tE.go S1 r1 h1 fun y st2 u H2 ad2 e2 S2 r2 ry h2 => ?_
    exact ⟨ad2, x, y, st2, S2, rx.ext e2, ry, h2⟩
theorem me_un {op : UnaryOp} {f : D → Store → R D} (ho : UnR X (unaryOp op) (r1 (gx X cl) E f)) (ha : PE X a (tE (gx X cl) E ma)) : PE X (.UnaryOp op a pos) (tE (gx X cl) E (m1 f ma)) :=
  tE.imp (pe_un ho ha) fun σ H Q ⟨ad, ds, st, S, r, h⟩ => by
    refine tE.go S r h fun x st1 v H1 ad1 e1 S1 r1 rx h1 => ?_
    exact ⟨ad1, x, st1, S1, rx, h1⟩
theorem me_cmp {op : CmpOp} {f : D → D → Store → R D} (ho : OpR X (compareOp op) (r2 (gx X cl) E f)) (ha : PE X a (tE (gx X cl) E ma)) (hb : PE X b (tE (gx X cl) E mb)) (hm : behindInMarks op b = false := by rfl) : PE X (.Compare a [op] [b] pos) (tE (gx X cl) E (m2 f ma mb)) :=
  tE.imp (pe_cmpR ho ha hb hm) fun σ H Q ⟨ad, ds, st, S, r, h⟩ => by
    refine tE.go S r h fun x st1 v H1 ad1 e1 S1 r1 rx h1 => ?_
    refine tE.go S1 r1 h1 fun y st2 u H2 ad2 e2 S2 r2 ry h2 => ?_
    exact ⟨ad2, x, y, st2, S2, rx.ext e2, ry, h2⟩
/-- an answer's Bool from a value's -/
theorem Post.isB {g : G} {H : Hp} {ad : List Addr} {r : R D} {Q : Bool → Hp → Prop} (h : PostT g E H ad (r.bind isB) Q) : Post g E H ad r fun v H' => ∃ k, v = .bl k ∧ Q k H' := by
  cases r with
  | ok d st =>
    intro v H' ad' e S rd
    cases d with
    | bl b => exact ⟨b, relD_bl.mp rd, h H' ad' e S⟩
    | _ => exact h.elim
  | exc c fs st => exact h
  | stuck => exact h
theorem mt_cmp {op : CmpOp} {f : D → D → Store → R D} (ho : OpR X (compareOp op) (r2 (gx X cl) E f)) (ha : PE X a (tE (gx X cl) E ma)) (hb : PE X b (tE (gx X cl) E mb)) (hm : behindInMarks op b = false := by rfl) : PT X (.Compare a [op] [b] pos) (tT (gx X cl) E (tB1 (m2 f ma mb))) :=
  tT.imp (pt_cmpR ho ha hb hm) fun σ H Q ⟨ad, ds, st, S, r, h⟩ => by
    have h := Post.isB h
    refine tE.go S r h fun x st1 v H1 ad1 e1 S1 r1 rx h1 => ?_
    refine tE.go S1 r1 h1 fun y st2 u H2 ad2 e2 S2 r2 ry h2 => ?_
    exact ⟨ad2, x, y, st2, S2, rx.ext e2, ry, h2⟩
theorem mt_val (ha : PE X a (tE (gx X cl) E ma)) (he : ∀ whole, isTrue a X.env whole = (do let v ← whole; standAt a.pos; holding [v] (truthy v)) := by intro _; rfl) : PT X a (tT (gx X cl) E (tVal ma)) :=
  tT.imp (pt_truth ha he) fun σ H Q ⟨ad, ds, st, S, r, h⟩ => by
    refine tE.goT S r h fun x st1 v H1 ad1 e1 S1 r1 rx h1 => ?_
    show ∃ k, TruV X.K v H1 k ∧ Q k H1
    unfold truth at h1
    cases x with
    | non => rw [relD_non.mp rx]; exact ⟨false, rfl, h1 _ _ .refl S1⟩
    | bl b => rw [relD_bl.mp rx]; exact ⟨b, rfl, h1 _ _ .refl S1⟩
    | int b => rw [relD_int.mp rx]; exact ⟨_, rfl, h1 _ _ .refl S1⟩
    | str b =>
      rw [relD_str.mp rx]
      simp only at h1
      split at h1
      · exact ⟨_, ⟨by assumption, rfl⟩, h1 _ _ .refl S1⟩
      · exact h1.elim
    | tup xs =>
      obtain ⟨p, ys, rfl, hs, rs⟩ := relD_tup.mp rx
      refine ⟨_, .inr (.inl ⟨ys, hs, rfl⟩), ?_⟩
      have q := h1 _ _ .refl S1
      have := rs.length
      cases xs <;> cases ys <;> simp_all
    | kl xs =>
      obtain ⟨p, ys, rfl, hs, rs⟩ := relD_kl.mp rx
      refine ⟨_, .inl ⟨ys, hs.seq, rfl⟩, ?_⟩
      have q := h1 _ _ .refl S1
      have := rs.length
      cases xs <;> cases ys <;> simp_all
    | loc n =>
      obtain ⟨p, rfl, hp⟩ := relD_loc.mp rx
      obtain ⟨o, eo, ro⟩ := S1.lt hp
      simp only [eo] at h1
      cases o with
      | lst xs =>
        obtain ⟨ys, e, rs⟩ := ro
        refine ⟨_, .inl ⟨ys, .of e, rfl⟩, ?_⟩
        have q := h1 _ _ .refl S1
        have := rs.length
        cases xs <;> cases ys <;> simp_all
      | dK kvs =>
        obtain ⟨ys, e, rs⟩ := ro
        refine ⟨_, .inr (.inr ⟨ys, e, rfl⟩), ?_⟩
        have q := h1 _ _ .refl S1
        have := Paired.length rs
        cases kvs <;> cases ys <;> simp_all
      | ins _ _ => exact h1.elim
theorem mt_not {ta : M Bool} (ha : PT X a (tT (gx X cl) E ta)) : PT X (.UnaryOp .Not a pos) (tT (gx X cl) E (tNot ta)) :=
  tT.imp (pt_not ha) fun σ H Q ⟨ad, ds, st, S, r, h⟩ => by
    refine tT.goT S r h fun k st1 H1 ad1 e1 S1 r1 h1 => ?_
    exact h1 _ _ .refl S1
theorem mw_and1 {ta : M Bool} (ha : PT X a (tT (gx X cl) E ta)) : PW X (.BoolOp .And [a] pos) (tT (gx X cl) E ta) := pw_and1 ha
theorem mw_or1 {ta : M Bool} (ha : PT X a (tT (gx X cl) E ta)) : PW X (.BoolOp .Or [a] pos) (tT (gx X cl) E ta) := pw_or1 ha
theorem tT.impW {g : G} {e : Expr} {t : TT} {m : M Bool} (h : PW X e t) (i : ∀ σ H Q, tT g E m σ H Q → t σ H Q) : PW X e (tT g E m) := ⟨fun w pins s σ H Q I q => h.run w pins s σ H Q I (i σ H Q q)⟩
theorem mw_and {ta tb : M Bool} {rest : List Expr} (ha : PT X a (tT (gx X cl) E ta)) (hb : PW X (.BoolOp .And (b :: rest) pos) (tT (gx X cl) E tb)) : PW X (.BoolOp .And (a :: b :: rest) pos) (tT (gx X cl) E (tAnd ta tb)) :=
  tT.impW (pw_and ha hb) fun σ H Q ⟨ad, ds, st, S, r, h⟩ => by
    refine tT.goT S r h fun k st1 H1 ad1 e1 S1 r1 h1 => ?_
    cases k with
    | true => exact iteT ⟨ad1, ds, st1, S1, r1, h1⟩
    | false => exact iteF (h1 _ _ .refl S1)
theorem mw_or {ta tb : M Bool} {rest : List Expr} (ha : PT X a (tT (gx X cl) E ta)) (hb : PW X (.BoolOp .Or (b :: rest) pos) (tT (gx X cl) E tb)) : PW X (.BoolOp .Or (a :: b :: rest) pos) (tT (gx X cl) E (tOr ta tb)) :=
  tT.impW (pw_or ha hb) fun σ H Q ⟨ad, ds, st, S, r, h⟩ => by
    refine tT.goT S r h fun k st1 H1 ad1 e1 S1 r1 h1 => ?_
    cases k with
    | true => exact iteT (h1 _ _ .refl S1)
    | false => exact iteF ⟨ad1, ds, st1, S1, r1, h1⟩
theorem me_one {op} (ha : PE X a (tE (gx X cl) E ma)) : PE X (.BoolOp op [a] pos) (tE (gx X cl) E ma) := pe_one ha
theorem me_and {rest : List Expr} (ha : PE X a (tE (gx X cl) E ma)) (hb : PE X (.BoolOp .And (b :: rest) pos) (tE (gx X cl) E mb)) : PE X (.BoolOp .And (a :: b :: rest) pos) (tE (gx X cl) E (mAnd ma mb)) :=
  tE.imp (pe_and ha hb) fun σ H Q ⟨ad, ds, st, S, r, h⟩ => by
    refine tE.go S r h fun x st1 v H1 ad1 e1 S1 r1 rx h1 => ?_
    cases x with
    | bl k =>
      refine ⟨k, relD_bl.mp rx, ?_⟩
      cases k with
      | true => exact iteT ⟨ad1, ds, st1, S1, r1, h1⟩
      | false => exact iteF (Post.ret h1 S1 (relD_bl.mpr rfl))
    | _ => exact h1.elim
theorem me_or {rest : List Expr} (ha : PE X a (tE (gx X cl) E ma)) (hb : PE X (.BoolOp .Or (b :: rest) pos) (tE (gx X cl) E mb)) : PE X (.BoolOp .Or (a :: b :: rest) pos) (tE (gx X cl) E (mOr ma mb)) :=
  tE.imp (pe_or ha hb) fun σ H Q ⟨ad, ds, st, S, r, h⟩ => by
    refine tE.go S r h fun x st1 v H1 ad1 e1 S1 r1 rx h1 => ?_
    cases x with
    | bl k =>
      refine ⟨k, relD_bl.mp rx, ?_⟩
      cases k with
      | true => exact iteT (Post.ret h1 S1 (relD_bl.mpr rfl))
      | false => exact iteF ⟨ad1, ds, st1, S1, r1, h1⟩
    | _ => exact h1.elim
def mNotV (a : M D) : M D := fun ds st => (a ds st).bind fun x st => (isB x st).bind fun k st => .ok (.bl (!k)) st
theorem me_not (ha : PE X a (tE (gx X cl) E ma)) : PE X (.UnaryOp .Not a pos) (tE (gx X cl) E (mNotV ma)) :=
  tE.imp (pe_not ha) fun σ H Q ⟨ad, ds, st, S, r, h⟩ => by
    refine tE.go S r h fun x st1 v H1 ad1 e1 S1 r1 rx h1 => ?_
    cases x with
    | bl k => exact ⟨k, relD_bl.mp rx, Post.ret h1 S1 (relD_bl.mpr rfl)⟩
    | _ => exact h1.elim
theorem me_ifExp {tc : M Bool} (hc : PT X c (tT (gx X cl) E tc)) (ha : PE X a (tE (gx X cl) E ma)) (hb : PE X b (tE (gx X cl) E mb)) : PE X (.IfExp c a b pos) (tE (gx X cl) E (mIf tc ma mb)) :=
  tE.imp (pe_ifExp hc ha hb) fun σ H Q ⟨ad, ds, st, S, r, h⟩ => by
    refine tT.go S r h fun k st1 H1 ad1 e1 S1 r1 h1 => ?_
    cases k with
    | true => exact iteT ⟨ad1, ds, st1, S1, r1, h1⟩
    | false => exact iteF ⟨ad1, ds, st1, S1, r1, h1⟩
theorem chain_reads {f f' : D → D → Store → R D} {σ : L2.St} {H : Hp} {Q : VK} (h : tE (gx X cl) E (mChain f f' ma mb mc) σ H Q) : tChain (r2 (gx X cl) E f) (r2 (gx X cl) E f') (tE (gx X cl) E ma) (tE (gx X cl) E mb) (tE (gx X cl) E mc) σ H Q := by
    obtain ⟨ad, ds, st, S, r, h⟩ := h
    refine tE.go S r h fun x st1 v H1 ad1 e1 S1 r1 rx h1 => ?_
    refine tE.go S1 r1 h1 fun y st2 u H2 ad2 e2 S2 r2 ry h2 => ?_
    refine ⟨ad2, x, y, st2, S2, rx.ext e2, ry, ?_⟩
    cases ef : f x y st2 with
    | ok z st3 =>
      rw [ef] at h2
      intro w H3 ad3 e3 S3 rz
      have h3 := Post.ext e3 h2
      simp only [R.bind_ok] at h3
      cases z with
      | bl k =>
        refine ⟨k, relD_bl.mp rz, ?_⟩
        cases k with
        | true =>
          refine iteT ?_
          have h4 : Post (gx X cl) E H3 ad3 ((mc ds st3).bind fun w st => f' y w st) Q := h3
          refine tE.go S3 (r2.ext e3) h4 fun w st4 wv H4 ad4 e4 S4 r4 rw4 h5 => ?_
          exact ⟨ad4, y, w, st4, S4, (ry.ext e3).ext e4, rw4, h5⟩
        | false => exact iteF (Post.ret h3 S3 (relD_bl.mpr rfl))
      | _ => exact h3.elim
    | exc c fs st' => rw [ef] at h2; exact h2
    | stuck => rw [ef] at h2; exact h2
theorem me_chain {op op' : CmpOp} {f f' : D → D → Store → R D} (ho : OpR X (compareOp op) (r2 (gx X cl) E f)) (ho' : OpR X (compareOp op') (r2 (gx X cl) E f')) (ha : PE X a (tE (gx X cl) E ma)) (hb : PE X b (tE (gx X cl) E mb)) (hc : PE X c (tE (gx X cl) E mc))
    (hm : lastMarks [op, op'] [b, c] = false := by with_unfolding_all rfl) : PE X (.Compare a [op, op'] [b, c] pos) (tE (gx X cl) E (mChain f f' ma mb mc)) :=
  tE.imp (pe_chain ho ho' ha hb hc hm) fun σ H Q h => chain_reads h
theorem mt_chain {op op' : CmpOp} {f f' : D → D → Store → R D} (ho : OpR X (compareOp op) (r2 (gx X cl) E f)) (ho' : OpR X (compareOp op') (r2 (gx X cl) E f')) (ha : PE X a (tE (gx X cl) E ma)) (hb : PE X b (tE (gx X cl) E mb)) (hc : PE X c (tE (gx X cl) E mc))
    (hm : lastMarks [op, op'] [b, c] = false := by with_unfolding_all rfl) : PT X (.Compare a [op, op'] [b, c] pos) (tT (gx X cl) E (tB1 (mChain f f' ma mb mc))) :=
  tT.imp (pt_chain ho ho' ha hb hc hm) fun σ H Q ⟨ad, ds, st, S, r, h⟩ => chain_reads ⟨ad, ds, st, S, r, Post.isB h⟩
theorem ma_nil : PA X [] (tA (gx X cl) E mNil) := tA.imp pa_nil fun σ H Q ⟨ad, ds, st, S, r, h⟩ => h _ _ _ .refl S .nil
theorem ma_cons (ha : PE X a (tE (gx X cl) E ma)) (hr : PA X es (tA (gx X cl) E mas)) (hs : starEach (a :: es) X.env = (false, eval a X.env) :: starEach es X.env := by rfl) : PA X (a :: es) (tA (gx X cl) E (mCons ma mas)) :=
  tA.imp (pa_cons ha hr hs) fun σ H Q ⟨ad, ds, st, S, r, h⟩ => by
    refine tE.goA S r h fun x st1 v H1 ad1 e1 S1 r1 rx h1 => ?_
    refine tA.goA S1 r1 h1 fun y st2 u H2 ad2 e2 S2 r2 ry h2 => ?_
    exact h2 _ _ _ .refl S2 (.cons (rx.ext e2) ry)
theorem me_tup {x1} (h : PA X es (tA (gx X cl) E mas)) : PE X (.Tuple es x1 pos) (tE (gx X cl) E (mTup mas)) :=
  tE.imp (pe_tup h) fun σ H Q ⟨ad, ds, st, S, r, h⟩ => by
    refine tA.go S r h fun xs st1 vs H1 ad1 e1 S1 r1 rx h1 => ?_
    by_cases hz : xs.length ≤ sizeLine
    · rw [if_pos hz] at h1
      exact ⟨by rw [← rx.length]; exact hz, fun p hp => Post.tup h1 S1 rx hp⟩
    · rw [if_neg hz] at h1; exact h1.elim
theorem me_lst (h : PA X es (tA (gx X cl) E mas)) : PE X (.List es pos) (tE (gx X cl) E (mLst mas)) :=
  tE.imp (pe_lst h) fun σ H Q ⟨ad, ds, st, S, r, h⟩ => by
    refine tA.go S r h fun xs st1 vs H1 ad1 e1 S1 r1 rx h1 => ?_
    by_cases hz : xs.length ≤ sizeLine
    · rw [if_pos hz] at h1
      exact ⟨by rw [← rx.length]; exact hz, fun p hp => Post.lst h1 S1 rx hp⟩
    · rw [if_neg hz] at h1; exact h1.elim
end

/-! ### statements -/
section
variable {X : Cx} {cl : Str → Addr} {E : XK} {a b c : Expr} {ma mb mc : M D} {pos : Pos} {s1 s2 : MS}
theorem tE.goS {g : G} {H : Hp} {ad : List Addr} {ds : DSt} {σ : L2.St} {st : Store} {m : M D} {Q : VK} (S : Sim g H ad st) (r : RelS g.K H ad ds σ) {k : D → Store → RS} {Q' : Ends} (h : PostS g E H ad (ofR (m ds st) k) Q')
    (nx : ∀ d st' v H' ad', Ext g.K H ad H' ad' → Sim g H' ad' st' → RelS g.K H' ad' ds σ → RelD g.K H' ad' d v → PostS g E H' ad' (k d st') Q' → Q v H') : tE g E m σ H Q := by
  refine ⟨ad, ds, st, S, r, ?_⟩
  cases e : m ds st with
  | ok d st' => rw [e] at h; exact fun v H' ad' x S' rd => nx d st' v H' ad' x S' (r.ext x) rd (PostS.ext x h)
  | exc c fs st' => rw [e] at h; exact h
  | stuck => rw [e] at h; exact h
theorem tT.goS {g : G} {H : Hp} {ad : List Addr} {ds : DSt} {σ : L2.St} {st : Store} {m : M Bool} {Q : Bool → Hp → Prop} (S : Sim g H ad st) (r : RelS g.K H ad ds σ) {k : Bool → Store → RS} {Q' : Ends} (h : PostS g E H ad (ofR (m ds st) k) Q')
    (nx : ∀ d st' H' ad', Ext g.K H ad H' ad' → Sim g H' ad' st' → RelS g.K H' ad' ds σ → PostS g E H' ad' (k d st') Q' → Q d H') : tT g E m σ H Q := by
  refine ⟨ad, ds, st, S, r, ?_⟩
  cases e : m ds st with
  | ok d st' => rw [e] at h; exact fun H' ad' x S' => nx d st' H' ad' x S' (r.ext x) (PostS.ext x h)
  | exc c fs st' => rw [e] at h; exact h
  | stuck => rw [e] at h; exact h
theorem mss_nil : PSs X [] (tS (gx X cl) E sSkip) := tS.imps pss_nil fun σ H Q ⟨ad, ds, st, S, r, h⟩ => h _ _ _ .refl S r
theorem mss_one {st : Stmt} (h : PS X st (tS (gx X cl) E s1)) : PSs X [st] (tS (gx X cl) E s1) := pss_one h
theorem mss_cons {st : Stmt} {sts : List Stmt} (h : PS X st (tS (gx X cl) E s1)) (t : PSs X sts (tS (gx X cl) E s2)) : PSs X (st :: sts) (tS (gx X cl) E (sSeq s1 s2)) :=
  tS.imps (pss_cons h t) fun σ H Q ⟨ad, ds, st, S, r, h⟩ => by
    refine ⟨ad, ds, st, S, r, ?_⟩
    unfold sSeq at h
    cases e : s1 ds st with
    | nx ds' st' => rw [e] at h; exact fun σ' H' ad' x S' r' => ⟨ad', ds', st', S', r', PostS.ext x h⟩
    | rt d st' => rw [e] at h; exact h
    | bk d st' => rw [e] at h; exact h
    | ct d st' => rw [e] at h; exact h
    | exc d fs st' => rw [e] at h; exact h
    | stuck => rw [e] at h; exact h
theorem ms_pass : PS X (.Pass pos) (tS (gx X cl) E sSkip) := tS.imp ps_pass fun σ H Q ⟨ad, ds, st, S, r, h⟩ => h _ _ _ .refl S r
theorem ms_brk : PS X (.Break pos) (tS (gx X cl) E sBrk) := tS.imp ps_break fun σ H Q ⟨ad, ds, st, S, r, h⟩ => h _ _ _ .refl S r
theorem ms_cnt : PS X (.Continue pos) (tS (gx X cl) E sCnt) := tS.imp ps_continue fun σ H Q ⟨ad, ds, st, S, r, h⟩ => h _ _ _ .refl S r
theorem ms_doc {x j p p'} : PS X (.Expr (.Constant (.str x) j p) p') (tS (gx X cl) E sSkip) := tS.imp ps_doc fun σ H Q ⟨ad, ds, st, S, r, h⟩ => h _ _ _ .refl S r
theorem ms_expr (ha : PE X a (tE (gx X cl) E ma)) (hs : swapsWith a none pos.line X.env = pure false := by rfl) : PS X (.Expr a pos) (tS (gx X cl) E (sExpr ma)) :=
  tS.imp (ps_expr ha hs) fun σ H Q ⟨ad, ds, st, S, r, h⟩ => by
    refine tE.goS S r h fun x st1 v H1 ad1 e1 S1 r1 rx h1 => ?_
    exact h1 _ _ _ .refl S1 r1
theorem ms_ret (ha : PE X a (tE (gx X cl) E ma)) : PS X (.Return (some a) pos) (tS (gx X cl) E (sRet ma)) :=
  tS.imp (ps_ret ha) fun σ H Q ⟨ad, ds, st, S, r, h⟩ => by
    refine tE.goS S r h fun x st1 v H1 ad1 e1 S1 r1 rx h1 => ?_
    exact h1 _ _ _ .refl S1 rx
theorem ms_retN : PS X (.Return none pos) (tS (gx X cl) E sRetN) :=
  tS.imp ps_retN fun σ H Q ⟨ad, ds, st, S, r, h⟩ => h _ _ _ .refl S (relD_non.mpr rfl)
theorem ms_if {tc : M Bool} {xs ys : List Stmt} (hc : PT X c (tT (gx X cl) E tc)) (ha : PSs X xs (tS (gx X cl) E s1)) (hb : PSs X ys (tS (gx X cl) E s2)) : PS X (.If c xs ys pos) (tS (gx X cl) E (sIf tc s1 s2)) :=
  tS.imp (ps_if hc ha hb) fun σ H Q ⟨ad, ds, st, S, r, h⟩ => by
    refine tT.goS S r h fun k st1 H1 ad1 e1 S1 r1 h1 => ?_
    cases k with
    | true => exact iteT ⟨ad1, ds, st1, S1, r1, h1⟩
    | false => exact iteF ⟨ad1, ds, st1, S1, r1, h1⟩
theorem mg_name {i : Nat} {x : Str} (hN : X.N.Nodup) (hi : X.N[i]? = some x := by rfl) (hx : Loc X.env.scope x := by first | exact Or.inl rfl | exact Or.inr rfl) (hf : X.fn x = true ∨ X.env.scope.names.lookup x = some .local := by first | exact .inl rfl | exact .inr rfl | assumption) : PG X (.Name x pos) (tG (gx X cl) E (gNm i)) := by
  have p : PG X (.Name x pos) (gName i) := pg_name hN hi hx hf
  refine ⟨fun pins s σ H v u Q I r h => p.run pins s σ H v u Q I r ?_⟩
  obtain ⟨ad, d, ds, st, S, rs, rd, h⟩ := h
  exact h _ _ _ .refl S (rs.set i rd)
theorem mgs_nil : PGs X [] (tGs (gx X cl) E gNil') := by
  refine ⟨fun pins s σ H vs us Q I r h => pgs_nil.run pins s σ H vs us Q I r ?_⟩
  obtain ⟨ad, d, ds, st, S, rs, rd, h⟩ := h
  unfold gNil' at h
  split at h
  · rename_i e; subst e
    exact ⟨rd.of_nil, h _ _ _ .refl S rs⟩
  · exact h.elim
theorem mgs_cons {es : List Expr} {m : D → M DSt} {r : List D → M DSt} (h1 : PG X a (tG (gx X cl) E m)) (h2 : PGs X es (tGs (gx X cl) E r)) (hs : (assignEach (a :: es) X.env).map (·.2) = assign a X.env :: (assignEach es X.env).map (·.2) := by rfl) : PGs X (a :: es) (tGs (gx X cl) E (gCons' m r)) := by
  have p := pgs_cons h1 h2 hs
  refine ⟨fun pins s σ H vs us Q I r h => p.run pins s σ H vs us Q I r ?_⟩
  obtain ⟨ad, d, ds, st, S, rs, rd, h⟩ := h
  cases d with
  | nil => exact h.elim
  | cons x xs =>
    obtain ⟨v, ws, rfl, rx, rr⟩ := relDs_cons.mp rd
    refine ⟨v, ws, rfl, ad, x, ds, st, S, rs, rx, ?_⟩
    have h : PostG (gx X cl) E H ad ((m x ds st).bind fun ds st => _) Q := h
    cases e : m x ds st with
    | ok ds' st' =>
      rw [e] at h
      exact fun σ' H' ad' x' S' r' => ⟨ad', xs, ds', st', S', r', rr.ext x', PostG.ext x' h⟩
    | exc _ _ _ => rw [e] at h; exact h.elim
    | stuck => rw [e] at h; exact h.elim
theorem mg_tup {es : List Expr} {k : Nat} {r : List D → M DSt} {n : Nat} (hc : X.calm = true) (h : PGs X es (tGs (gx X cl) E r)) (hn : (assignEach es X.env).length = n := by rfl) (hst : (assignEach es X.env).findIdx? (·.1) = none := by rfl) : PG X (.Tuple es k pos) (tG (gx X cl) E (gTp n r)) := by
  have p : PG X (.Tuple es k pos) (gTup X.K n (tGs (gx X cl) E r)) := pg_tup hc h hn hst
  refine ⟨fun pins s σ H v u Q I r h => p.run pins s σ H v u Q I r ?_⟩
  obtain ⟨ad, d, ds, st, S, rs, rd, h⟩ := h
  cases d with
  | tup xs =>
    obtain ⟨q, ys, rfl, hs, rr⟩ := relD_tup.mp rd
    unfold gTp at h
    simp only at h
    split at h
    · exact ⟨q, ys, rfl, hs, by rw [← rr.length]; assumption, ad, xs, ds, st, S, rs, rr, h⟩
    · exact h.elim
  | _ => exact h.elim
theorem ms_asg {tg : Expr} {m : D → M DSt} (ha : PE X a (tE (gx X cl) E ma)) (hg : PG X tg (tG (gx X cl) E m)) (hs : swapsWithSole [tg] a pos.line X.env = pure false := by rfl) (hw : swappedStores [tg] a X.env = pure none := by rfl) (h1 : (assignEach [tg] X.env).map (·.2) = [assign tg X.env] := by rfl) : PS X (.Assign [tg] a pos) (tS (gx X cl) E (sAsg ma m)) :=
  tS.imp (ps_asg ha hg hs hw h1) fun σ H Q ⟨ad, ds, st, S, r, h⟩ => by
    refine tE.goS S r h fun x st1 v H1 ad1 e1 S1 r1 rx h1 => ?_
    refine ⟨ad1, x, ds, st1, S1, r1, rx, ?_⟩
    cases e : m x ds st1 with
    | ok ds' st' => rw [e] at h1; exact h1
    | exc _ _ _ => rw [e] at h1; exact h1.elim
    | stuck => rw [e] at h1; exact h1.elim
end
end Mp
end
section
set_option Elab.async false
set_option linter.all false
set_option maxRecDepth 100000
set_option maxHeartbeats 1000000
/-! Mp, the loops: while, for, comprehensions; what they walk. -/
namespace Mp
open PySem PySem.Spec PyProof.Rows L2

/-! ### while -/
def whileN (c : M Bool) (b : MS) : Nat → DSt → Store → Option RS
  | 0, _, _ => none
  | n + 1, ds, st => match c ds st with
    | .ok true st1 => match b ds st1 with
      | .nx ds' st' => whileN c b n ds' st'
      | .ct ds' st' => whileN c b n ds' st'
      | .bk ds' st' => some (.nx ds' st')
      | .rt d st' => some (.rt d st')
      | .exc e fs st' => some (.exc e fs st')
      | .stuck => some .stuck
    | .ok false st1 => some (.nx ds st1)
    | .exc e fs st' => some (.exc e fs st')
    | .stuck => some .stuck
theorem whileN_succ {c : M Bool} {b : MS} : ∀ {n : Nat} {ds : DSt} {st : Store} {r : RS}, whileN c b n ds st = some r → whileN c b (n + 1) ds st = some r
  | 0, _, _, _, h => by cases h
  | n + 1, ds, st, r, h => by
    rw [whileN] at h ⊢
    cases e : c ds st with
    | ok k st1 =>
      rw [e] at h
      cases k with
      | false => exact h
      | true =>
        simp only at h ⊢
        cases e2 : b ds st1 with
        | nx ds' st' => rw [e2] at h; exact whileN_succ h
        | ct ds' st' => rw [e2] at h; exact whileN_succ h
        | bk ds' st' => rw [e2] at h; exact h
        | rt ds' st' => rw [e2] at h; exact h
        | exc _ _ _ => rw [e2] at h; exact h
        | stuck => rw [e2] at h; exact h
    | exc _ _ _ => rw [e] at h; exact h
    | stuck => rw [e] at h; exact h
theorem whileN_mono {c : M Bool} {b : MS} {n m : Nat} {ds : DSt} {st : Store} {r : RS} (h : whileN c b n ds st = some r) (l : n ≤ m) : whileN c b m ds st = some r := by
  induction m with
  | zero => have : n = 0 := by omega
            subst this; exact h
  | succ m ih =>
    by_cases e : n = m + 1
    · subst e; exact h
    · exact whileN_succ (ih (by omega))
theorem whileN_det {c : M Bool} {b : MS} {n m : Nat} {ds : DSt} {st : Store} {r r' : RS} (h : whileN c b n ds st = some r) (h' : whileN c b m ds st = some r') : r = r' := by
  have a := whileN_mono h (Nat.le_max_left n m)
  have b := whileN_mono h' (Nat.le_max_right n m)
  rw [a] at b; exact Option.some.inj b
open Classical in
/-- the while loop: the answer that some number of turns gives -/
noncomputable def sWhile (c : M Bool) (b : MS) : MS := fun ds st => if h : ∃ n r, whileN c b n ds st = some r then Classical.choose (Classical.choose_spec h) else .stuck
theorem sWhile_of {c : M Bool} {b : MS} {n : Nat} {ds : DSt} {st : Store} {r : RS} (h : whileN c b n ds st = some r) : sWhile c b ds st = r := by
  have hx : ∃ n r, whileN c b n ds st = some r := ⟨n, r, h⟩
  unfold sWhile
  rw [dif_pos hx]
  exact whileN_det (Classical.choose_spec (Classical.choose_spec hx)) h
/-- one turn -/
theorem sWhile_eq {c : M Bool} {b : MS} {ds : DSt} {st : Store} : sWhile c b ds st = match c ds st with
    | .ok true st1 => (match b ds st1 with
      | .nx ds' st' => sWhile c b ds' st'
      | .ct ds' st' => sWhile c b ds' st'
      | .bk ds' st' => .nx ds' st'
      | .rt d st' => .rt d st'
      | .exc e fs st' => .exc e fs st'
      | .stuck => .stuck)
    | .ok false st1 => .nx ds st1
    | .exc e fs st' => .exc e fs st'
    | .stuck => .stuck := by
  have fin : ∀ {r : RS}, whileN c b 1 ds st = some r → sWhile c b ds st = r := fun h => sWhile_of h
  have again : ∀ {ds' st'} {st1}, c ds st = .ok true st1 → (b ds st1 = .nx ds' st' ∨ b ds st1 = .ct ds' st') → sWhile c b ds st = sWhile c b ds' st' := by
    intro ds' st' st1 h1 h2
    by_cases hx : ∃ n r, whileN c b n ds' st' = some r
    · obtain ⟨n, r, h⟩ := hx
      rw [sWhile_of h]
      refine sWhile_of (n := n + 1) ?_
      rw [whileN, h1]
      rcases h2 with h2 | h2 <;> simp only [h2, h]
    · have hx' : ¬ ∃ n r, whileN c b n ds st = some r := by
        rintro ⟨n, r, h⟩
        cases n with
        | zero => cases h
        | succ n =>
          rw [whileN, h1] at h
          refine hx ⟨n, r, ?_⟩
          rcases h2 with h2 | h2 <;> simp only [h2] at h <;> exact h
      unfold sWhile
      rw [dif_neg hx, dif_neg hx']
  cases e : c ds st with
  | ok k st1 =>
    cases k with
    | false => simp only; exact fin (by rw [whileN, e])
    | true =>
      simp only
      cases e2 : b ds st1 with
      | nx ds' st' => exact again e (.inl e2)
      | ct ds' st' => exact again e (.inr e2)
      | bk ds' st' => exact fin (by rw [whileN, e]; simp only [e2])
      | rt ds' st' => exact fin (by rw [whileN, e]; simp only [e2])
      | exc _ _ _ => exact fin (by rw [whileN, e]; simp only [e2])
      | stuck => exact fin (by rw [whileN, e]; simp only [e2])
  | exc _ _ _ => simp only; exact fin (by rw [whileN, e])
  | stuck => simp only; exact fin (by rw [whileN, e])
section
variable {X : Cx} {cl : Str → Addr} {E : XK} {a b c : Expr} {ma mb mc : M D} {pos : Pos} {s1 s2 : MS}
theorem ms_while {tc : M Bool} {xs : List Stmt} (hp : PassesOwn (model X.prog X.w) X.A X.env X.xe) (hc : PT X c (tT (gx X cl) E tc)) (hb : PSs X xs (tS (gx X cl) E s1)) : PS X (.While c xs [] pos) (tS (gx X cl) E (sWhile tc s1)) :=
  tS.imp (ps_while hp hc hb) fun σ H Q ⟨ad, ds, st, S, r, h⟩ => by
    by_cases hx : ∃ n r, whileN tc s1 n ds st = some r
    · obtain ⟨n, r0, h0⟩ := hx
      rw [sWhile_of h0] at h
      refine ⟨fun m σ H => ∃ ad ds st r, Sim (gx X cl) H ad st ∧ RelS X.K H ad ds σ ∧ whileN tc s1 m ds st = some r ∧ PostS (gx X cl) E H ad r Q, ⟨n, ad, ds, st, r0, S, r, h0, h⟩, ?_⟩
      rintro m σ H ⟨ad, ds, st, r0, S, r, h0, h⟩
      cases m with
      | zero => cases h0
      | succ m =>
        rw [whileN] at h0
        refine ⟨ad, ds, st, S, r, ?_⟩
        cases e : tc ds st with
        | ok k st1 =>
          rw [e] at h0
          intro H1 ad1 e1 S1
          have h := PostS.ext e1 h
          cases k with
          | false =>
            cases h0
            exact iteF (h _ _ _ .refl S1 (r.ext e1))
          | true =>
            refine iteT ⟨fun σ H => ∃ ad ds st r, Sim (gx X cl) H ad st ∧ RelS X.K H ad ds σ ∧ whileN tc s1 m ds st = some r ∧ PostS (gx X cl) E H ad r Q, fun σ' H' q => ⟨m, Nat.lt_succ_self _, q⟩, ?_⟩
            refine ⟨ad1, ds, st1, S1, r.ext e1, ?_⟩
            simp only at h0
            cases e2 : s1 ds st1 with
            | nx ds' st' => rw [e2] at h0; exact fun σ' H' ad' x S' r' => ⟨ad', ds', st', r0, S', r', h0, PostS.ext x h⟩
            | ct ds' st' => rw [e2] at h0; exact fun σ' H' ad' x S' r' => ⟨ad', ds', st', r0, S', r', h0, PostS.ext x h⟩
            | bk ds' st' => rw [e2] at h0; cases h0; exact h
            | rt d st' => rw [e2] at h0; cases h0; exact h
            | exc _ _ _ => rw [e2] at h0; cases h0; exact h
            | stuck => rw [e2] at h0; cases h0; exact h
        | exc _ _ _ => rw [e] at h0; cases h0; exact h
        | stuck => rw [e] at h0; cases h0; exact h
    · unfold sWhile at h
      rw [dif_neg hx] at h
      exact h.elim
end

/-! ### what is walked: the items, and the lists of the store that must stay -/
structure ItD where
  items : List D
  lists : List (Nat × List D)
def ItD.ok (it : ItD) (st : Store) : Prop := ∀ p ∈ it.lists, st[p.1]? = some (.lst p.2)
open Classical in
noncomputable def forL (it : ItD) (tg : D → M DSt) (b : MS) : List D → DSt → Store → RS
  | [], ds, st => if it.ok st then .nx ds st else .stuck
  | x :: xs, ds, st => if it.ok st then (match tg x ds st with
    | .ok ds1 st1 => (match b ds1 st1 with
      | .nx ds' st' => forL it tg b xs ds' st'
      | .ct ds' st' => forL it tg b xs ds' st'
      | .bk ds' st' => .nx ds' st'
      | .rt d st' => .rt d st'
      | .exc e fs st' => .exc e fs st'
      | .stuck => .stuck)
    | _ => .stuck) else .stuck
noncomputable def sFor (mi : M ItD) (tg : D → M DSt) (b : MS) : MS := fun ds st => ofR (mi ds st) fun it st => forL it tg b it.items ds st
/-- the walk J goes over these items, while the lists stay -/
structure JRel (g : G) (it : ItD) (J : It) (H0 : Hp) (ad0 : List Addr) : Prop where
  go : ∀ i x H ad st, it.items[i]? = some x → Ext g.K H0 ad0 H ad → Sim g H ad st → it.ok st → J.go i H ∧ ∀ v H', J.yld i H v H' → Ext g.K H ad H' ad ∧ Sim g H' ad st ∧ RelD g.K H' ad x v
  stop : ∀ H ad st, Ext g.K H0 ad0 H ad → Sim g H ad st → it.ok st → J.stop it.items.length H
def PostI (g : G) (E : XK) (H : Hp) (ad : List Addr) (r : R ItD) (Q : It → Hp → Prop) : Prop := match r with
  | .ok it st => ∀ J H' ad', Ext g.K H ad H' ad' → Sim g H' ad' st → JRel g it J H' ad' → Q J H'
  | .exc c fs st => ∀ dx H' ad', Ext g.K H ad H' ad' → Sim g H' ad' st → XRel g.K H' ad' fs dx → E (.ref (g.cl c)) dx H'
  | .stuck => False
theorem PostI.ext {g : G} {E : XK} {H H1 : Hp} {ad ad1 : List Addr} {r : R ItD} {Q : It → Hp → Prop} (x : Ext g.K H ad H1 ad1) (h : PostI g E H ad r Q) : PostI g E H1 ad1 r Q := by
  cases r with
  | ok d st => exact fun v H' ad' e S r => h v H' ad' (x.trans e) S r
  | exc c fs st => exact fun v H' ad' e S r => h v H' ad' (x.trans e) S r
  | stuck => exact h
def tI (g : G) (E : XK) (m : M ItD) : TI := fun σ H Q => ∃ ad ds st, Sim g H ad st ∧ RelS g.K H ad ds σ ∧ PostI g E H ad (m ds st) Q
theorem JRel.ext {g : G} {it : ItD} {J : It} {H H1 : Hp} {ad ad1 : List Addr} (h : JRel g it J H ad) (e : Ext g.K H ad H1 ad1) : JRel g it J H1 ad1 :=
  ⟨fun i x H2 ad2 st hi x1 S o => h.go i x H2 ad2 st hi (e.trans x1) S o, fun H2 ad2 st x1 S o => h.stop H2 ad2 st (e.trans x1) S o⟩
section
variable {X : Cx} {cl : Str → Addr} {E : XK} {a b c tg iter : Expr} {ma mb mc : M D} {pos : Pos} {s1 s2 : MS}
theorem ms_for {mi : M ItD} {mg : D → M DSt} {xs : List Stmt} (hp : PassesOwn (model X.prog X.w) X.A X.env X.xe) (hc : X.calm = true) (hi : PI X tg iter (tI (gx X cl) E mi)) (hg : PG X tg (tG (gx X cl) E mg)) (hb : PSs X xs (tS (gx X cl) E s1))
    (hs : ∀ x, foldedSetIterable iter X.env x = pure x := by intro _; rfl) : PS X (.For tg iter xs [] pos) (tS (gx X cl) E (sFor mi mg s1)) :=
  tS.imp (ps_for hp hc hi hg hb hs) fun σ H Q ⟨ad, ds, st, S, r, h⟩ => by
    refine ⟨ad, ds, st, S, r, ?_⟩
    unfold sFor at h
    cases e : mi ds st with
    | exc _ _ _ => rw [e] at h; exact h
    | stuck => rw [e] at h; exact h
    | ok it st1 =>
      rw [e] at h
      intro J H1 ad1 e1 S1 j
      have h : PostS (gx X cl) E H1 ad1 (forL it mg s1 it.items ds st1) Q := PostS.ext e1 h
      let W : Nat → Nat → L2.St → Hp → Prop := fun i m σ H => m = it.items.length - i ∧ i ≤ it.items.length ∧ ∃ ad ds st, Ext X.K H1 ad1 H ad ∧ Sim (gx X cl) H ad st ∧ RelS X.K H ad ds σ ∧ PostS (gx X cl) E H ad (forL it mg s1 (it.items.drop i) ds st) Q
      refine ⟨W, ⟨it.items.length, by simp, Nat.zero_le _, ad1, ds, st1, .refl, S1, r.ext e1, by simpa using h⟩, ?_⟩
      rintro i m σ2 H2 ⟨rfl, hle, ad2, ds2, st2, x2, S2, r2, h2⟩
      by_cases hlt : i < it.items.length
      · right
        rw [List.drop_eq_getElem_cons hlt, forL] at h2
        split at h2
        case isFalse => exact h2.elim
        rename_i hok
        obtain ⟨g1, g2⟩ := j.go i _ H2 ad2 st2 (List.getElem?_eq_getElem hlt) x2 S2 hok
        refine ⟨g1, fun σ H => ∃ ad ds st, Ext X.K H1 ad1 H ad ∧ Sim (gx X cl) H ad st ∧ RelS X.K H ad ds σ ∧ PostS (gx X cl) E H ad (forL it mg s1 (it.items.drop (i + 1)) ds st) Q, fun σ' H' q => ⟨_, by omega, rfl, hlt, q⟩, ?_⟩
        intro v H3 hy
        obtain ⟨x3, S3, rv⟩ := g2 v H3 hy
        refine ⟨ad2, _, ds2, st2, S3, r2.ext x3, rv, ?_⟩
        have h2 := PostS.ext x3 h2
        cases eg : mg it.items[i] ds2 st2 with
        | exc _ _ _ => rw [eg] at h2; exact h2.elim
        | stuck => rw [eg] at h2; exact h2.elim
        | ok ds4 st4 =>
          rw [eg] at h2
          intro σ4 H4 ad4 x4 S4 r4
          have h2 := PostS.ext x4 h2
          refine ⟨ad4, ds4, st4, S4, r4, ?_⟩
          simp only at h2
          cases es : s1 ds4 st4 with
          | nx ds' st' => rw [es] at h2; exact fun σ' H' ad' x S' r' => ⟨ad', ds', st', ((x2.trans x3).trans x4).trans x, S', r', PostS.ext x h2⟩
          | ct ds' st' => rw [es] at h2; exact fun σ' H' ad' x S' r' => ⟨ad', ds', st', ((x2.trans x3).trans x4).trans x, S', r', PostS.ext x h2⟩
          | bk ds' st' => rw [es] at h2; exact h2
          | rt ds' st' => rw [es] at h2; exact h2
          | exc _ _ _ => rw [es] at h2; exact h2
          | stuck => rw [es] at h2; exact h2
      · left
        have ei : i = it.items.length := by omega
        subst ei
        rw [List.drop_length, forL] at h2
        split at h2
        · exact ⟨j.stop H2 ad2 st2 x2 S2 (by assumption), h2 _ _ _ .refl S2 r2⟩
        · exact h2.elim

/-! ### list comprehensions: the items are made in order; the new list stands behind them -/
def wipeD (ds : DSt) : List Nat → DSt
  | [] => ds
  | v :: vs => (wipeD ds vs).set v none
theorem RelS.wipe {K : PySem.W.Frag} {H : Hp} {ad : List Addr} {ds : DSt} {σ : L2.St} (h : RelS K H ad ds σ) : ∀ vs : List Nat, RelS K H ad (wipeD ds vs) (L2.wipe σ vs)
  | [] => h
  | v :: vs => by
    have ih := RelS.wipe h vs
    unfold wipeD L2.wipe
    refine ⟨by simp [ih.1], fun i d e => ?_⟩
    by_cases hi : v = i
    · subst hi
      by_cases hl : v < (wipeD ds vs).length
      · rw [List.getElem?_set_self hl] at e; cases e
      · rw [List.getElem?_eq_none (by simpa using hl)] at e; cases e
    · rw [List.getElem?_set_ne hi] at e
      obtain ⟨v', e', r⟩ := ih.2 i d e
      exact ⟨v', by rw [List.getElem?_set_ne hi]; exact e', r⟩
/-- slots but those of vs are kept -/
def Agree (vs : List Nat) (σ σ' : L2.St) : Prop := σ'.length = σ.length ∧ ∀ i, i ∉ vs → σ'[i]? = σ[i]?
theorem wipe_get {vs : List Nat} {σ : L2.St} {i : Nat} : (L2.wipe σ vs)[i]? = if i ∈ vs ∧ i < σ.length then some none else σ[i]? := by
  induction vs with
  | nil => simp [L2.wipe]
  | cons v vs ih =>
    unfold L2.wipe
    by_cases hi : v = i
    · subst hi
      by_cases hl : v < σ.length
      · rw [List.getElem?_set_self (by rw [wipe_length]; exact hl)]; simp [hl]
      · rw [List.getElem?_eq_none (by rw [List.length_set, wipe_length]; omega)]; simp [hl]
    · rw [List.getElem?_set_ne hi, ih]
      have : i ≠ v := fun z => hi z.symm
      simp [this]
theorem Agree.wipe {vs : List Nat} {σ σ' : L2.St} (h : Agree vs σ σ') : L2.wipe σ' vs = L2.wipe σ vs := by
  apply List.ext_getElem?
  intro i
  rw [wipe_get, wipe_get, h.1]
  by_cases hi : i ∈ vs
  · by_cases hl : i < σ.length
    · simp [hi, hl]
    · simp only [hi, hl, and_false, if_false]
      rw [List.getElem?_eq_none (by rw [h.1]; omega), List.getElem?_eq_none (by omega)]
  · simp [hi, h.2 i hi]
theorem wipe_wipe {vs : List Nat} {σ : L2.St} : L2.wipe (L2.wipe σ vs) vs = L2.wipe σ vs := by
  apply List.ext_getElem?
  intro i
  rw [wipe_get, wipe_get, wipe_length]
  by_cases hi : i ∈ vs ∧ i < σ.length <;> simp [hi]
/-- a target within a comprehension: it stores into vs alone -/
def tGW (g : G) (E : XK) (vs : List Nat) (m : D → M DSt) : TG := fun v σ H Q => ∃ ad d ds st, Sim g H ad st ∧ RelS g.K H ad ds σ ∧ RelD g.K H ad d v ∧ PostG g E H ad (m d ds st) (fun σ' H' => Agree vs σ σ' → Q σ' H')
def tGsW (g : G) (E : XK) (vs : List Nat) (m : List D → M DSt) : TGs := fun ws σ H Q => ∃ ad d ds st, Sim g H ad st ∧ RelS g.K H ad ds σ ∧ RelDs g.K H ad d ws ∧ PostG g E H ad (m d ds st) (fun σ' H' => Agree vs σ σ' → Q σ' H')
theorem mgw_name {i : Nat} {x : Str} {vs : List Nat} (hN : X.N.Nodup) (hi : X.N[i]? = some x := by rfl) (hv : vs.contains i = true := by rfl) (hx : Loc X.env.scope x := by first | exact Or.inl rfl | exact Or.inr rfl) (hf : X.fn x = true ∨ X.env.scope.names.lookup x = some .local := by first | exact .inl rfl | exact .inr rfl | assumption) : PG X (.Name x pos) (tGW (gx X cl) E vs (gNm i)) := by
  have p : PG X (.Name x pos) (gName i) := pg_name hN hi hx hf
  refine ⟨fun pins s σ H v u Q I r h => p.run pins s σ H v u Q I r ?_⟩
  obtain ⟨ad, d, ds, st, S, rs, rd, h⟩ := h
  refine h _ _ _ .refl S (rs.set i rd) ⟨by simp, fun j hj => ?_⟩
  rw [List.getElem?_set_ne]
  rintro rfl
  exact hj (by simpa using hv)
theorem mgsw_nil {vs : List Nat} : PGs X [] (tGsW (gx X cl) E vs gNil') := by
  refine ⟨fun pins s σ H ws us Q I r h => pgs_nil.run pins s σ H ws us Q I r ?_⟩
  obtain ⟨ad, d, ds, st, S, rs, rd, h⟩ := h
  unfold gNil' at h
  split at h
  · rename_i e; subst e
    exact ⟨rd.of_nil, h _ _ _ .refl S rs ⟨rfl, fun _ _ => rfl⟩⟩
  · exact h.elim
theorem mgsw_cons {es : List Expr} {vs : List Nat} {m : D → M DSt} {mr : List D → M DSt} (h1 : PG X a (tGW (gx X cl) E vs m)) (h2 : PGs X es (tGsW (gx X cl) E vs mr)) (hs : (assignEach (a :: es) X.env).map (·.2) = assign a X.env :: (assignEach es X.env).map (·.2) := by rfl) : PGs X (a :: es) (tGsW (gx X cl) E vs (gCons' m mr)) := by
  have p := pgs_cons h1 h2 hs
  refine ⟨fun pins s σ H ws us Q I r h => p.run pins s σ H ws us Q I r ?_⟩
  obtain ⟨ad, d, ds, st, S, rs, rd, h⟩ := h
  cases d with
  | nil => exact h.elim
  | cons x xs =>
    obtain ⟨v, ws, rfl, rx, rr⟩ := relDs_cons.mp rd
    refine ⟨v, ws, rfl, ad, x, ds, st, S, rs, rx, ?_⟩
    have h : PostG (gx X cl) E H ad ((m x ds st).bind fun ds st => _) _ := h
    cases e : m x ds st with
    | ok ds' st' =>
      rw [e] at h
      intro σ' H' ad' x' S' r' ag
      refine ⟨ad', xs, ds', st', S', r', rr.ext x', ?_⟩
      have h' := PostG.ext x' h
      simp only [R.bind_ok] at h'
      cases e2 : mr xs ds' st' with
      | ok ds3 st3 =>
        rw [e2] at h'
        exact fun σ3 H3 ad3 x3 S3 r3 ag3 => h' σ3 H3 ad3 x3 S3 r3 ⟨ag3.1.trans ag.1, fun i hi => (ag3.2 i hi).trans (ag.2 i hi)⟩
      | exc _ _ _ => rw [e2] at h'; exact h'.elim
      | stuck => rw [e2] at h'; exact h'.elim
    | exc _ _ _ => rw [e] at h; exact h.elim
    | stuck => rw [e] at h; exact h.elim
theorem mgw_tup {es : List Expr} {k : Nat} {vs : List Nat} {r : List D → M DSt} {n : Nat} (hc : X.calm = true) (h : PGs X es (tGsW (gx X cl) E vs r)) (hn : (assignEach es X.env).length = n := by rfl) (hst : (assignEach es X.env).findIdx? (·.1) = none := by rfl) : PG X (.Tuple es k pos) (tGW (gx X cl) E vs (gTp n r)) := by
  have p : PG X (.Tuple es k pos) (gTup X.K n (tGsW (gx X cl) E vs r)) := pg_tup hc h hn hst
  refine ⟨fun pins s σ H v u Q I r h => p.run pins s σ H v u Q I r ?_⟩
  obtain ⟨ad, d, ds, st, S, rs, rd, h⟩ := h
  cases d with
  | tup xs =>
    obtain ⟨q, ys, rfl, hs, rr⟩ := relD_tup.mp rd
    unfold gTp at h
    simp only at h
    split at h
    · exact ⟨q, ys, rfl, hs, by rw [← rr.length]; assumption, ad, xs, ds, st, S, rs, rr, h⟩
    · exact h.elim
  | _ => exact h.elim

open Classical in
/-- the items of a comprehension -/
noncomputable def lcL (it : ItD) (tg : D → M DSt) (tt : M Bool) (te : M D) (ds : DSt) : List D → List D → Store → R (List D)
  | [], acc, st => if it.ok st then .ok acc st else .stuck
  | x :: xs, acc, st => if it.ok st then (match tg x ds st with
    | .ok ds1 st1 => (match tt ds1 st1 with
      | .ok true st2 => (match te ds1 st2 with
        | .ok y st3 => if acc.length < sizeLine then lcL it tg tt te ds xs (acc ++ [y]) st3 else .stuck
        | _ => .stuck)
      | .ok false st2 => lcL it tg tt te ds xs acc st2
      | _ => .stuck)
    | _ => .stuck) else .stuck
noncomputable def mLc (mi : M ItD) (tg : D → M DSt) (tt : M Bool) (te : M D) (vs : List Nat) : M D := fun ds st => (mi ds st).bind fun it st => (lcL it tg tt te (wipeD ds vs) it.items [] st).bind fun ys st => .ok (.loc st.length) (st ++ [.lst ys])
def tYes' : M Bool := fun _ st => .ok true st
theorem mts_nil : PTs X [] (tT (gx X cl) E tYes') := ⟨fun pins s σ H Q I ⟨ad, ds, st, S, r, h⟩ => pts_nil.run pins s σ H Q I (h _ _ .refl S)⟩
theorem mts_one {t : M Bool} (h : PT X a (tT (gx X cl) E t)) : PTs X [a] (tT (gx X cl) E t) := pts_one h
theorem lc_reads {mi : M ItD} {mg : D → M DSt} {tt : M Bool} {me : M D} {vs : List Nat} {σ : L2.St} {H : Hp} {Q : VK} {ad : List Addr} {ds : DSt} {st : Store} (S : Sim (gx X cl) H ad st) (r : RelS X.K H ad ds σ)
    (h : Post (gx X cl) E H ad (mLc mi mg tt me vs ds st) Q) : tLc (tI (gx X cl) E mi) (tGW (gx X cl) E0 vs mg) (tT (gx X cl) E0 tt) (tE (gx X cl) E0 me) vs σ H Q := by
  refine ⟨ad, ds, st, S, r, ?_⟩
  unfold mLc at h
  cases e : mi ds st with
  | exc _ _ _ => rw [e] at h; exact h
  | stuck => rw [e] at h; exact h
  | ok it st1 =>
    rw [e] at h
    simp only [R.bind_ok] at h
    intro J H1 ad1 e1 S1 j Dn hD
    have h := Post.ext e1 h
    let W : Nat → Nat → Hp → Prop := fun i m H => m = it.items.length - i ∧ i ≤ it.items.length ∧ ∃ ad2 st2 acc vac, Ext X.K H1 ad1 H ad2 ∧ Sim (gx X cl) H ad2 st2 ∧ Dn ∉ ad2 ∧ H Dn = some (.lst vac) ∧ RelDs X.K H ad2 acc vac ∧
      Post (gx X cl) E H1 ad1 ((lcL it mg tt me (wipeD ds vs) (it.items.drop i) acc st2).bind fun ys st => .ok (.loc st.length) (st ++ [.lst ys])) Q
    have x0 : Ext X.K H1 ad1 (upd H1 Dn (.lst [])) ad1 := Ext.fresh hD
    refine ⟨W, ⟨it.items.length, by simp, Nat.zero_le _, ad1, st1, [], [], x0, S1.fresh hD, S1.mem hD, upd_same, .nil, by simpa using h⟩, ?_⟩
    rintro i m H2 ⟨rfl, hle, ad2, st2, acc, vac, x2, S2, nD, eD, ra, h2⟩
    by_cases hlt : i < it.items.length
    · right
      rw [List.drop_eq_getElem_cons hlt, lcL] at h2
      split at h2
      case isFalse => exact h2.elim
      rename_i hok
      obtain ⟨g1, g2⟩ := j.go i _ H2 ad2 st2 (List.getElem?_eq_getElem hlt) x2 S2 hok
      refine ⟨g1, fun H => i + 1 ≤ it.items.length ∧ ∃ ad2 st2 acc vac, Ext X.K H1 ad1 H ad2 ∧ Sim (gx X cl) H ad2 st2 ∧ Dn ∉ ad2 ∧ H Dn = some (.lst vac) ∧ RelDs X.K H ad2 acc vac ∧
        Post (gx X cl) E H1 ad1 ((lcL it mg tt me (wipeD ds vs) (it.items.drop (i + 1)) acc st2).bind fun ys st => .ok (.loc st.length) (st ++ [.lst ys])) Q, fun H' q => ⟨_, by omega, rfl, q⟩, ?_⟩
      intro v H3 hy
      obtain ⟨x3, S3, rv⟩ := g2 v H3 hy
      refine ⟨ad2, _, wipeD ds vs, st2, S3, ((RelS.wipe r vs).ext (e1.trans (x2.trans x3))), rv, ?_⟩
      have eD3 : H3 Dn = some (.lst vac) := x3.frame _ _ eD nD
      have ra3 := ra.ext x3
      cases eg : mg it.items[i] (wipeD ds vs) st2 with
      | exc _ _ _ => rw [eg] at h2; exact h2.elim
      | stuck => rw [eg] at h2; exact h2.elim
      | ok ds4 st4 =>
        rw [eg] at h2
        simp only at h2
        intro σ4 H4 ad4 x4 S4 r4 ag
        refine ⟨ag.wipe.trans wipe_wipe, ad4, ds4, st4, S4, r4, ?_⟩
        have eD4 : H4 Dn = some (.lst vac) := x4.frame _ _ eD3 nD
        have nD4 : Dn ∉ ad4 := x4.notin eD3 nD
        have ra4 := ra3.ext x4
        cases et : tt ds4 st4 with
        | exc _ _ _ => rw [et] at h2; exact h2.elim
        | stuck => rw [et] at h2; exact h2.elim
        | ok k st5 =>
          rw [et] at h2
          intro H5 ad5 x5 S5
          have eD5 : H5 Dn = some (.lst vac) := x5.frame _ _ eD4 nD4
          have nD5 : Dn ∉ ad5 := x5.notin eD4 nD4
          have ra5 := ra4.ext x5
          cases k with
          | false =>
            refine iteF ⟨hlt, ad5, st5, acc, vac, ((x2.trans x3).trans x4).trans x5, S5, nD5, eD5, ra5, h2⟩
          | true =>
            refine iteT ⟨ad5, ds4, st5, S5, r4.ext x5, ?_⟩
            simp only at h2
            cases em : me ds4 st5 with
            | exc _ _ _ => rw [em] at h2; exact h2.elim
            | stuck => rw [em] at h2; exact h2.elim
            | ok y st6 =>
              rw [em] at h2
              intro w H6 ad6 x6 S6 rw6
              have eD6 : H6 Dn = some (.lst vac) := x6.frame _ _ eD5 nD5
              have nD6 : Dn ∉ ad6 := x6.notin eD5 nD5
              have ra6 := ra5.ext x6
              simp only at h2
              split at h2
              case isFalse => exact h2.elim
              rename_i hz
              have nt : NoTup H6 Dn := .of_lst eD6
              have z0 : Ext0 X.K H6 ad6 (upd H6 Dn (.lst (vac ++ [w]))) ad6 := Ext0.upd nt
              refine ⟨vac, eD6, by rw [← ra6.length]; exact hz, hlt, ad6, st6, acc ++ [y], vac ++ [w], ?_, S6.off nD6 nt, nD6, upd_same, (ra6.append (.cons rw6 .nil)).ext0 z0, ?_⟩
              · have xx := (((x2.trans x3).trans x4).trans x5).trans x6
                refine ⟨fun a xs q => z0.tup _ _ (xx.tup _ _ q), fun a xs q => z0.kl _ _ (xx.kl _ _ q), fun b o q hb => ?_, fun b q => ?_, xx.pre⟩
                · rw [upd_ne (ne_of_none q hD)]; exact xx.frame b o q hb
                · by_cases hb : b = Dn
                  · rw [hb]; exact hD
                  · rw [upd_ne hb] at q; exact xx.there b q
              · exact h2
    · left
      have ei : i = it.items.length := by omega
      subst ei
      rw [List.drop_length, lcL] at h2
      split at h2
      case isFalse => exact h2.elim
      refine ⟨j.stop H2 ad2 st2 x2 S2 (by assumption), ?_⟩
      simp only [R.bind_ok] at h2
      refine h2 _ _ (ad2 ++ [Dn]) ?_ (S2.adopt nD eD ra) ?_
      · obtain ⟨t, et, ft⟩ := x2.pre
        refine ⟨x2.tup, x2.kl, x2.frame, x2.there, t ++ [Dn], by rw [et, List.append_assoc], fun b hb => ?_⟩
        rcases List.mem_append.mp hb with hb | hb
        · exact ft b hb
        · rw [List.mem_singleton.mp hb]; exact hD
      · exact relD_loc.mpr ⟨Dn, rfl, by rw [← S2.len]; simp⟩
theorem me_lc {elt : Expr} {ifs : List Expr} {scope : Scope} {own : List (Str × Nat)} {mi : M ItD} {mg : D → M DSt} {tt : M Bool} {me : M D} (hc : X.calm = true) (hN : X.N.Nodup) (hi : PI X tg iter (tI (gx X cl) E mi)) (ok : BlkOk X.N X.env.scope scope own)
    (hg : ∀ (s : Shared) (H : Hp) (C : Addr) (cls : List (Str × Addr)) (fp : List Addr), PG (X.blk s H scope (compEnvC scope cls C X.env) fp) tg (tGW (gx X cl) E0 (own.map (·.2)) mg))
    (ht : ∀ (s : Shared) (H : Hp) (C : Addr) (cls : List (Str × Addr)) (fp : List Addr), PTs (X.blk s H scope (compEnvC scope cls C X.env) fp) ifs (tT (gx X cl) E0 tt))
    (he : ∀ (s : Shared) (H : Hp) (C : Addr) (cls : List (Str × Addr)) (fp : List Addr), PE (X.blk s H scope (compEnvC scope cls C X.env) fp) elt (tE (gx X cl) E0 me)) (hs : ∀ x, foldedSetIterable iter X.env x = pure x := by intro _; rfl) :
    PE X (.ListComp elt [⟨tg, iter, ifs, 0⟩] scope pos) (tE (gx X cl) E (mLc mi mg tt me (own.map (·.2)))) :=
  tE.imp (pe_lc hc hN hi ok hg ht he hs) fun σ H Q ⟨ad, ds, st, S, r, h⟩ => lc_reads S r h
end
end Mp
end
section
set_option Elab.async false
set_option linter.all false
set_option maxRecDepth 100000
set_option maxHeartbeats 1000000
/-! Mp: what loops and comprehensions walk. -/
namespace Mp
open PySem PySem.Spec PyProof.Rows L2
/-- a value's items -/
def strItems (x : Str) : List D := x.cps.toList.map fun c => .str ⟨#[c]⟩
def iterOf (d : D) (st : Store) : R ItD := match d with
  | .tup xs => .ok ⟨xs, []⟩ st
  | .kl xs => .ok ⟨xs, []⟩ st
  | .str x => .ok ⟨strItems x, []⟩ st
  | .loc n => match st[n]? with
    | some (.lst xs) => .ok ⟨xs, [(n, xs)]⟩ st
    | _ => .stuck
  | _ => .stuck
def mIt (m : M D) : M ItD := fun ds st => (m ds st).bind iterOf
def rangeItems (lo : Int) (n : Nat) : List D := (List.range n).map fun i => .int (lo + (i : Nat))
def mRange1 (m : M D) : M ItD := fun ds st => (m ds st).bind fun d st => match d with
  | .int j => if -(2 ^ 62) ≤ j ∧ j < 2 ^ 62 then .ok ⟨rangeItems 0 j.toNat, []⟩ st else .stuck
  | _ => .stuck
def mRange2 (m m' : M D) : M ItD := fun ds st => (m ds st).bind fun d st => (m' ds st).bind fun e st => match d, e with
  | .int i, .int j => if -(2 ^ 62) ≤ i ∧ i < 2 ^ 62 ∧ -(2 ^ 62) ≤ j ∧ j < 2 ^ 62 then .ok ⟨rangeItems i (j - i).toNat, []⟩ st else .stuck
  | _, _ => .stuck
def enumItems : Nat → List D → List D
  | _, [] => []
  | k, x :: xs => .tup [.int (k : Nat), x] :: enumItems (k + 1) xs
theorem enumItems_get : ∀ (xs : List D) (k i : Nat), (enumItems k xs)[i]? = (xs[i]?).map fun x => .tup [.int ((k + i : Nat) : Int), x]
  | [], k, i => by simp [enumItems]
  | x :: xs, k, 0 => by simp [enumItems]
  | x :: xs, k, i + 1 => by
    have h := enumItems_get xs (k + 1) i
    rw [show k + 1 + i = k + (i + 1) by omega] at h
    simpa [enumItems] using h
theorem enumItems_length : ∀ (xs : List D) (k : Nat), (enumItems k xs).length = xs.length
  | [], k => rfl
  | x :: xs, k => by simp [enumItems, enumItems_length xs (k + 1)]
def mEnum (m : M D) : M ItD := fun ds st => (m ds st).bind fun d st => match d with
  | .kl xs => .ok ⟨enumItems 0 xs, []⟩ st
  | .loc n => match st[n]? with
    | some (.lst xs) => .ok ⟨enumItems 0 xs, [(n, xs)]⟩ st
    | _ => .stuck
  | _ => .stuck
def zipItems (xs ys : List D) : List D := (xs.zip ys).map fun p => .tup [p.1, p.2]
def mZip (m m' : M D) : M ItD := fun ds st => (m ds st).bind fun d st => (m' ds st).bind fun e st => match d, e with
  | .tup xs, .tup ys => .ok ⟨zipItems xs ys, []⟩ st
  | .loc n, .loc k => match st[n]?, st[k]? with
    | some (.lst xs), some (.lst ys) => .ok ⟨zipItems xs ys, [(n, xs), (k, ys)]⟩ st
    | _, _ => .stuck
  | .kl xs, .loc k => match st[k]? with
    | some (.lst ys) => .ok ⟨zipItems xs ys, [(k, ys)]⟩ st
    | _ => .stuck
  | _, _ => .stuck

section
variable {X : Cx} {cl : Str → Addr} {E : XK} {a b c tg iter : Expr} {ma mb mc : M D} {pos : Pos}
theorem tI.imp {g : G} {t : TI} {m : M ItD} (h : PI X tg a t) (i : ∀ σ H Q, tI g E m σ H Q → t σ H Q) : PI X tg a (tI g E m) := ⟨fun pins s σ H Q I q => h.run pins s σ H Q I (i σ H Q q)⟩
theorem tE.goI {g : G} {H : Hp} {ad : List Addr} {ds : DSt} {σ : L2.St} {st : Store} {m : M D} {Q : VK} (S : Sim g H ad st) (r : RelS g.K H ad ds σ) {k : D → Store → R ItD} {Q' : It → Hp → Prop} (h : PostI g E H ad ((m ds st).bind k) Q')
    (nx : ∀ d st' v H' ad', Ext g.K H ad H' ad' → Sim g H' ad' st' → RelS g.K H' ad' ds σ → RelD g.K H' ad' d v → PostI g E H' ad' (k d st') Q' → Q v H') : tE g E m σ H Q := by
  refine ⟨ad, ds, st, S, r, ?_⟩
  cases e : m ds st with
  | ok d st' => rw [e] at h; exact fun v H' ad' x S' rd => nx d st' v H' ad' x S' (r.ext x) rd (PostI.ext x h)
  | exc c fs st' => rw [e] at h; exact h
  | stuck => rw [e] at h; exact h
/-- the walk over a tuple -/
theorem jrel_tup {g : G} {H : Hp} {ad : List Addr} {p : Addr} {xs : List D} {ys : List V} (hs : SqT g.K H p ys) (r : RelDs g.K H ad xs ys) (inj : ∀ H' zs ws, SqT g.K H' p zs → SqT g.K H' p ws → zs = ws) : JRel g ⟨xs, []⟩ (Itt g.K p) H ad := by
  refine ⟨fun i x H' ad' st hi e S _ => ?_, fun H' ad' st e S _ => ⟨ys, e.tup _ _ hs, by rw [← r.length]; exact Nat.le_refl _⟩⟩
  obtain ⟨v, hv, rv⟩ := (r.ext e).get hi
  refine ⟨⟨ys, v, e.tup _ _ hs, hv⟩, fun w H2 q => ?_⟩
  obtain ⟨rfl, q⟩ := q
  have := q ys (e.tup _ _ hs)
  rw [hv] at this; cases this
  exact ⟨.refl, S, rv⟩
theorem jrel_kl {g : G} {H : Hp} {ad : List Addr} {p : Addr} {xs : List D} {ys : List V} (hs : SqR g.K H p ys) (r : RelDs g.K H ad xs ys) : JRel g ⟨xs, []⟩ (Itl g.K p) H ad := by
  refine ⟨fun i x H' ad' st hi e S _ => ?_, fun H' ad' st e S _ => ⟨ys, (e.kl _ _ hs).seq, by rw [← r.length]; exact Nat.le_refl _⟩⟩
  obtain ⟨v, hv, rv⟩ := (r.ext e).get hi
  refine ⟨⟨ys, v, (e.kl _ _ hs).seq, hv⟩, fun w H2 q => ?_⟩
  obtain ⟨rfl, q⟩ := q
  have := q ys (e.kl _ _ hs).seq
  rw [hv] at this; cases this
  exact ⟨.refl, S, rv⟩
theorem lst_at {g : G} {H : Hp} {ad : List Addr} {st : Store} {n : Nat} {p : Addr} {xs : List D} (S : Sim g H ad st) (hp : ad[n]? = some p) (e : st[n]? = some (.lst xs)) : ∃ ys, H p = some (.lst ys) ∧ RelDs g.K H ad xs ys := by
  obtain ⟨o, eo, ro⟩ := S.lt hp
  rw [e] at eo; cases eo
  exact ro
theorem jrel_loc {g : G} {H : Hp} {ad : List Addr} {n : Nat} {p : Addr} {xs : List D} (hp : ad[n]? = some p) : JRel g ⟨xs, [(n, xs)]⟩ (Itl g.K p) H ad := by
  refine ⟨fun i x H' ad' st hi e S o => ?_, fun H' ad' st e S o => ?_⟩
  · obtain ⟨ys, q1, q2⟩ := lst_at S (e.at hp) (o (n, xs) (by simp))
    obtain ⟨v, hv, rv⟩ := q2.get hi
    refine ⟨⟨ys, v, .of q1, hv⟩, fun w H2 q => ?_⟩
    obtain ⟨rfl, q⟩ := q
    have := q ys (.of q1)
    rw [hv] at this; cases this
    exact ⟨.refl, S, rv⟩
  · obtain ⟨ys, q1, q2⟩ := lst_at S (e.at hp) (o (n, xs) (by simp))
    exact ⟨ys, .of q1, by rw [← q2.length]; exact Nat.le_refl _⟩
theorem jrel_str {g : G} {H : Hp} {ad : List Addr} {x : Str} : JRel g ⟨strItems x, []⟩ (Its x) H ad := by
  refine ⟨fun i y H' ad' st hi e S _ => ?_, fun H' ad' st e S _ => ?_⟩
  · have hl : i < x.cps.size := by
      have := (List.getElem?_eq_some_iff.mp hi).1
      simpa [strItems] using this
    refine ⟨hl, fun w H2 q => ?_⟩
    obtain ⟨rfl, c, hc, rfl⟩ := q
    refine ⟨.refl, S, ?_⟩
    have : (strItems x)[i]? = some (.str ⟨#[c]⟩) := by simp [strItems, hc]
    rw [show (ItD.mk (strItems x) []).items = strItems x from rfl] at hi
    rw [this] at hi; cases hi
    exact relD_str.mpr rfl
  · show x.cps.size ≤ _
    simp [strItems]
theorem jrel_range {g : G} {H : Hp} {ad : List Addr} {lo : Int} {n : Nat} : JRel g ⟨rangeItems lo n, []⟩ (Itr lo n) H ad := by
  refine ⟨fun i y H' ad' st hi e S _ => ?_, fun H' ad' st e S _ => ?_⟩
  · have hl : i < n := by
      have := (List.getElem?_eq_some_iff.mp hi).1
      simpa [rangeItems] using this
    refine ⟨hl, fun w H2 q => ?_⟩
    obtain ⟨rfl, rfl⟩ := q
    refine ⟨.refl, S, ?_⟩
    have : (rangeItems lo n)[i]? = some (.int (lo + (i : Nat))) := by simp [rangeItems, hl]
    rw [show (ItD.mk (rangeItems lo n) []).items = rangeItems lo n from rfl] at hi
    rw [this] at hi; cases hi
    exact relD_int.mpr rfl
  · show n ≤ _
    simp [rangeItems]
theorem pair_new {g : G} {H : Hp} {ad : List Addr} {st : Store} {T : Addr} {x y : V} {d e : D} (S : Sim g H ad st) (hT : H T = none) (rx : RelD g.K H ad d x) (ry : RelD g.K H ad e y) :
    Ext g.K H ad (upd H T (.tup [x, y])) ad ∧ Sim g (upd H T (.tup [x, y])) ad st ∧ RelD g.K (upd H T (.tup [x, y])) ad (.tup [d, e]) (.ref T) := by
  have x0 : Ext g.K H ad (upd H T (.tup [x, y])) ad := Ext.fresh hT
  exact ⟨x0, S.fresh hT, relD_tup.mpr ⟨T, [x, y], rfl, .inl (.inl upd_same), .cons (rx.ext x0) (.cons (ry.ext x0) .nil)⟩⟩

/-- for x in e -/
theorem mi_any (ha : PE X a (tE (gx X cl) E ma)) : PI X tg a (tI (gx X cl) E (mIt ma)) := by
  refine ⟨fun pins s σ H Q I h => ?_⟩
  obtain ⟨ad, ds, st, S, r, h⟩ := h
  cases e : ma ds st with
  | exc c fs st' =>
    unfold mIt at h; rw [e] at h
    exact (pi_list ha).run pins s σ H Q I ⟨ad, ds, st, S, r, by rw [e]; exact h⟩
  | stuck => unfold mIt at h; rw [e] at h; exact h.elim
  | ok d st' =>
    unfold mIt at h; rw [e] at h
    simp only [R.bind_ok] at h
    have go : ∀ {Q' : VK}, (∀ v H' ad', Ext X.K H ad H' ad' → Sim (gx X cl) H' ad' st' → RelD X.K H' ad' d v → Q' v H') → tE (gx X cl) E ma σ H Q' := fun {Q'} f => ⟨ad, ds, st, S, r, by rw [e]; exact f⟩
    cases d with
    | tup xs =>
      refine (pi_tup ha).run pins s σ H Q I (go fun v H' ad' x S' rd => ?_)
      obtain ⟨p, ys, rfl, hs, rs⟩ := relD_tup.mp rd
      refine ⟨p, rfl, ⟨ys, hs⟩, h _ _ _ x S' ?_⟩
      refine ⟨fun i x H' ad' st hi e S _ => ?_, fun H' ad' st e S _ => ⟨ys, e.tup _ _ hs, by rw [← rs.length]; exact Nat.le_refl _⟩⟩
      obtain ⟨v, hv, rv⟩ := (rs.ext e).get hi
      refine ⟨⟨ys, v, e.tup _ _ hs, hv⟩, fun w H2 q => ?_⟩
      obtain ⟨rfl, q⟩ := q
      have := q ys (e.tup _ _ hs)
      rw [hv] at this; cases this
      exact ⟨.refl, S, rv⟩
    | kl xs =>
      refine (pi_list ha).run pins s σ H Q I (go fun v H' ad' x S' rd => ?_)
      obtain ⟨p, ys, rfl, hs, rs⟩ := relD_kl.mp rd
      exact ⟨p, rfl, ⟨ys, hs.seq⟩, h _ _ _ x S' (jrel_kl hs rs)⟩
    | str y =>
      refine (pi_str ha).run pins s σ H Q I (go fun v H' ad' x S' rd => ?_)
      exact ⟨y, relD_str.mp rd, h _ _ _ x S' jrel_str⟩
    | loc n =>
      refine (pi_list ha).run pins s σ H Q I (go fun v H' ad' x S' rd => ?_)
      obtain ⟨p, rfl, hp⟩ := relD_loc.mp rd
      unfold iterOf at h
      simp only at h
      split at h
      · rename_i xs hst
        obtain ⟨ys, q1, q2⟩ := lst_at S' hp hst
        exact ⟨p, rfl, ⟨ys, .of q1⟩, h _ _ _ x S' (jrel_loc hp)⟩
      · exact h.elim
    | non => exact h.elim
    | bl _ => exact h.elim
    | int _ => exact h.elim
theorem mi_range1 {p : Pos} (hm : X.mg "range" = none) (ha : PE X a (tE (gx X cl) E ma)) (hg : Gl X "range" := by rfl) (hs : starEach [a] X.env = [(false, eval a X.env)] := by rfl)
    (hs2 : starEach (a :: []) X.env = (false, eval a X.env) :: starEach [] X.env := by rfl) : PI X tg (.Call (.Name "range" p) [a] [] pos) (tI (gx X cl) E (mRange1 ma)) :=
  tI.imp (pi_range1 hg hm (pa_cons ha pa_nil hs2) hs) fun σ H Q ⟨ad, ds, st, S, r, h⟩ => by
    refine tE.goI S r h fun x st1 v H1 ad1 e1 S1 r1 rx h1 => ?_
    cases x with
    | int j =>
      simp only at h1
      split at h1
      · rename_i hb
        exact ⟨j, by rw [relD_int.mp rx], hb.1, hb.2, h1 _ _ _ .refl S1 jrel_range⟩
      · exact h1.elim
    | _ => exact h1.elim
theorem mi_range2 {p : Pos} (hm : X.mg "range" = none) (ha : PE X a (tE (gx X cl) E ma)) (hb : PE X b (tE (gx X cl) E mb)) (hg : Gl X "range" := by rfl) (hs : starEach [a, b] X.env = [(false, eval a X.env), (false, eval b X.env)] := by rfl)
    (hs2 : starEach (a :: [b]) X.env = (false, eval a X.env) :: starEach [b] X.env := by rfl) (hs3 : starEach (b :: []) X.env = (false, eval b X.env) :: starEach [] X.env := by rfl) (t : PA X [a, b] (tCons (tE (gx X cl) E ma) (tCons (tE (gx X cl) E mb) tNil)) → PI X tg (.Call (.Name "range" p) [a, b] [] pos) (iRng2 (tCons (tE (gx X cl) E ma) (tCons (tE (gx X cl) E mb) tNil))) := by exact fun q => pi_range2 (by assumption) (by assumption) q (by assumption)) :
    PI X tg (.Call (.Name "range" p) [a, b] [] pos) (tI (gx X cl) E (mRange2 ma mb)) :=
  tI.imp (t (pa_cons ha (pa_cons hb pa_nil hs3) hs2)) fun σ H Q ⟨ad, ds, st, S, r, h⟩ => by
    refine tE.goI S r h fun x st1 v H1 ad1 e1 S1 r1 rx h1 => ?_
    refine tE.goI S1 r1 h1 fun y st2 u H2 ad2 e2 S2 r2 ry h2 => ?_
    cases x with
    | int i =>
      cases y with
      | int j =>
        simp only at h2
        split at h2
        · rename_i hb
          exact ⟨i, j, by rw [relD_int.mp rx, relD_int.mp ry], hb, h2 _ _ _ .refl S2 jrel_range⟩
        · exact h2.elim
      | _ => exact h2.elim
    | _ => exact h2.elim
theorem mi_enum {p tpos : Pos} {elts : List Expr} {kk : Nat} (hm : X.mg "enumerate" = none) (ha : PE X a (tE (gx X cl) E ma)) (hg : Gl X "enumerate" := by rfl) (hs : starEach [a] X.env = [(false, eval a X.env)] := by rfl)
    (hs2 : starEach (a :: []) X.env = (false, eval a X.env) :: starEach [] X.env := by rfl) : PI X (.Tuple elts kk tpos) (.Call (.Name "enumerate" p) [a] [] pos) (tI (gx X cl) E (mEnum ma)) :=
  tI.imp (pi_enum hg hm (pa_cons ha pa_nil hs2) hs) fun σ H Q ⟨ad, ds, st, S, r, h⟩ => by
    refine tE.goI S r h fun x st1 v H1 ad1 e1 S1 r1 rx h1 => ?_
    cases x with
    | kl xs =>
      obtain ⟨q, ys, rfl, hs, rs⟩ := relD_kl.mp rx
      refine ⟨q, ys, rfl, hs.seq, h1 _ _ _ .refl S1 ⟨fun i x H' ad' st hi e S _ => ?_, fun H' ad' st e S _ => ⟨ys, (e.kl _ _ hs).seq, by rw [enumItems_length, rs.length]; exact Nat.le_refl _⟩⟩⟩
      rw [show (ItD.mk (enumItems 0 xs) []).items = enumItems 0 xs from rfl, enumItems_get] at hi
      cases hx : xs[i]? with
      | none => rw [hx] at hi; cases hi
      | some z =>
        rw [hx] at hi; cases hi
        obtain ⟨w, hw, rw'⟩ := (rs.ext e).get hx
        refine ⟨⟨ys, w, (e.kl _ _ hs).seq, hw⟩, fun v H2 q => ?_⟩
        obtain ⟨T, y, rfl, hT, rfl, q⟩ := q
        have := q ys (e.kl _ _ hs).seq
        rw [hw] at this; cases this
        exact pair_new S hT (relD_int.mpr (by simp)) rw'
    | loc n =>
      obtain ⟨q, rfl, hp⟩ := relD_loc.mp rx
      simp only at h1
      split at h1
      · rename_i xs hst
        obtain ⟨ys, q1, q2⟩ := lst_at S1 hp hst
        refine ⟨q, ys, rfl, .of q1, h1 _ _ _ .refl S1 ⟨fun i x H' ad' st hi e S o => ?_, fun H' ad' st e S o => ?_⟩⟩
        · obtain ⟨ys, q1, q2⟩ := lst_at S (e.at hp) (o (n, xs) (by simp))
          rw [show (ItD.mk (enumItems 0 xs) [(n, xs)]).items = enumItems 0 xs from rfl, enumItems_get] at hi
          cases hx : xs[i]? with
          | none => rw [hx] at hi; cases hi
          | some z =>
            rw [hx] at hi; cases hi
            obtain ⟨w, hw, rw'⟩ := q2.get hx
            refine ⟨⟨ys, w, .of q1, hw⟩, fun v H2 q => ?_⟩
            obtain ⟨T, y, rfl, hT, rfl, q⟩ := q
            have := q ys (.of q1)
            rw [hw] at this; cases this
            exact pair_new S hT (relD_int.mpr (by simp)) rw'
        · obtain ⟨ys, q1, q2⟩ := lst_at S (e.at hp) (o (n, xs) (by simp))
          exact ⟨ys, .of q1, by rw [enumItems_length, q2.length]; exact Nat.le_refl _⟩
      · exact h1.elim
    | non => exact h1.elim
    | bl _ => exact h1.elim
    | int _ => exact h1.elim
    | str _ => exact h1.elim
    | tup _ => exact h1.elim
theorem zipItems_get {xs ys : List D} {i : Nat} {z : D} (h : (zipItems xs ys)[i]? = some z) : ∃ x y, xs[i]? = some x ∧ ys[i]? = some y ∧ z = .tup [x, y] := by
  unfold zipItems at h
  rw [List.getElem?_map] at h
  cases e : (xs.zip ys)[i]? with
  | none => rw [e] at h; cases h
  | some p =>
    rw [e] at h
    obtain ⟨x, y⟩ := p
    have := List.getElem?_zip_eq_some.mp e
    cases h
    exact ⟨x, y, this.1, this.2, rfl⟩
theorem mi_zip {p tpos : Pos} {elts : List Expr} {kk : Nat} (hm : X.mg "zip" = none) (ha : PE X a (tE (gx X cl) E ma)) (hb : PE X b (tE (gx X cl) E mb)) (hg : Gl X "zip" := by rfl)
    (hs : starEach [a, b] X.env = (false, eval a X.env) :: starEach [b] X.env := by rfl) (hpl : (backTo pos (starEach [b] X.env)).any (·.1) = false := by rfl) (hs3 : starEach (b :: []) X.env = (false, eval b X.env) :: starEach [] X.env := by rfl) :
    PI X (.Tuple elts kk tpos) (.Call (.Name "zip" p) [a, b] [] pos) (tI (gx X cl) E (mZip ma mb)) :=
  tI.imp (RZ.pi_zipA hg hm (pa_cons ha (pa_cons hb pa_nil hs3) hs) hs hpl) fun σ H Q ⟨ad, ds, st, S, r, h⟩ => by
    refine tE.goI S r h fun x st1 v H1 ad1 e1 S1 r1 rx h1 => ?_
    refine tE.goI S1 r1 h1 fun y st2 u H2 ad2 e2 S2 r2 ry h2 => ?_
    have rx := rx.ext e2
    cases x with
    | tup xs =>
      cases y with
      | tup zs =>
        obtain ⟨p, vs, rfl, hp, rp⟩ := relD_tup.mp rx
        obtain ⟨q, us, rfl, hq, rq⟩ := relD_tup.mp ry
        refine ⟨p, q, vs, us, rfl, .inr ⟨hp, hq, h2 _ _ _ .refl S2 ⟨fun i x H' ad' st hi e S _ => ?_, fun H' ad' st e S _ => ⟨vs, us, e.tup _ _ hp, e.tup _ _ hq, ?_⟩⟩⟩⟩
        · obtain ⟨x, y, hx, hy, rfl⟩ := zipItems_get hi
          obtain ⟨v, hv, rv⟩ := (rp.ext e).get hx
          obtain ⟨u, hu, ru⟩ := (rq.ext e).get hy
          refine ⟨⟨vs, us, v, u, e.tup _ _ hp, e.tup _ _ hq, hv, hu⟩, fun w H2 k => ?_⟩
          obtain ⟨T, v', u', rfl, hT, rfl, k1, k2⟩ := k
          have := k1 vs (e.tup _ _ hp)
          rw [hv] at this; cases this
          have := k2 us (e.tup _ _ hq)
          rw [hu] at this; cases this
          exact pair_new S hT rv ru
        · have := rp.length
          have := rq.length
          simp [zipItems]; omega
      | _ => exact h2.elim
    | kl xs =>
      cases y with
      | loc n =>
        obtain ⟨p, vs, rfl, hp, rp⟩ := relD_kl.mp rx
        obtain ⟨q, rfl, hq⟩ := relD_loc.mp ry
        simp only at h2
        split at h2
        · rename_i zs hst
          obtain ⟨us, q1, q2⟩ := lst_at S2 hq hst
          refine ⟨p, q, vs, us, rfl, .inl ⟨hp.seq, .of q1, h2 _ _ _ .refl S2 ⟨fun i x H' ad' st hi e S o => ?_, fun H' ad' st e S o => ?_⟩⟩⟩
          · obtain ⟨us, q1, rq⟩ := lst_at S (e.at hq) (o (n, zs) (by simp))
            obtain ⟨x, y, hx, hy, rfl⟩ := zipItems_get hi
            obtain ⟨v, hv, rv⟩ := (rp.ext e).get hx
            obtain ⟨u, hu, ru⟩ := rq.get hy
            refine ⟨⟨vs, us, v, u, (e.kl _ _ hp).seq, .of q1, hv, hu⟩, fun w H2 k => ?_⟩
            obtain ⟨T, v', u', rfl, hT, rfl, k1, k2⟩ := k
            have := k1 vs (e.kl _ _ hp).seq
            rw [hv] at this; cases this
            have := k2 us (.of q1)
            rw [hu] at this; cases this
            exact pair_new S hT rv ru
          · obtain ⟨us, q1, rq⟩ := lst_at S (e.at hq) (o (n, zs) (by simp))
            refine ⟨vs, us, (e.kl _ _ hp).seq, .of q1, ?_⟩
            have e1 : xs.length = vs.length := rp.length
            have e2 : zs.length = us.length := rq.length
            rw [show (ItD.mk (zipItems xs zs) [(n, zs)]).items.length = min xs.length zs.length by simp [zipItems]]
            omega
        · exact h2.elim
      | _ => exact h2.elim
    | loc m =>
      cases y with
      | loc n =>
        obtain ⟨p, rfl, hp⟩ := relD_loc.mp rx
        obtain ⟨q, rfl, hq⟩ := relD_loc.mp ry
        simp only at h2
        split at h2
        · rename_i xs zs hst1 hst2
          obtain ⟨vs, p1, p2⟩ := lst_at S2 hp hst1
          obtain ⟨us, q1, q2⟩ := lst_at S2 hq hst2
          refine ⟨p, q, vs, us, rfl, .inl ⟨.of p1, .of q1, h2 _ _ _ .refl S2 ⟨fun i x H' ad' st hi e S o => ?_, fun H' ad' st e S o => ?_⟩⟩⟩
          · obtain ⟨vs, p1, rp⟩ := lst_at S (e.at hp) (o (m, xs) (by simp))
            obtain ⟨us, q1, rq⟩ := lst_at S (e.at hq) (o (n, zs) (by simp))
            obtain ⟨x, y, hx, hy, rfl⟩ := zipItems_get hi
            obtain ⟨v, hv, rv⟩ := rp.get hx
            obtain ⟨u, hu, ru⟩ := rq.get hy
            refine ⟨⟨vs, us, v, u, .of p1, .of q1, hv, hu⟩, fun w H2 k => ?_⟩
            obtain ⟨T, v', u', rfl, hT, rfl, k1, k2⟩ := k
            have := k1 vs (.of p1)
            rw [hv] at this; cases this
            have := k2 us (.of q1)
            rw [hu] at this; cases this
            exact pair_new S hT rv ru
          · obtain ⟨vs, p1, rp⟩ := lst_at S (e.at hp) (o (m, xs) (by simp))
            obtain ⟨us, q1, rq⟩ := lst_at S (e.at hq) (o (n, zs) (by simp))
            refine ⟨vs, us, .of p1, .of q1, ?_⟩
            have e1 : xs.length = vs.length := rp.length
            have e2 : zs.length = us.length := rq.length
            rw [show (ItD.mk (zipItems xs zs) [(m, xs), (n, zs)]).items.length = min xs.length zs.length by simp [zipItems]]
            omega
        · exact h2.elim
      | _ => exact h2.elim
    | _ => exact h2.elim
end
end Mp
end
section
set_option Elab.async false
set_option linter.all false
set_option maxRecDepth 100000
set_option maxHeartbeats 1000000
/-! Mp: operators, subscripts, slices, built-in functions and methods. -/
namespace Mp
open PySem PySem.Spec PyProof.Rows L2

/-! ### arithmetic -/
def addD : D → D → Store → R D := fun x y st => match x, y with
  | .int i, .int j => .ok (.int (i + j)) st
  | .str i, .str j => if i.length + j.length ≤ sizeLine then .ok (.str (i ++ j)) st else .stuck
  | .tup xs, .tup ys => if xs.length + ys.length ≤ sizeLine then .ok (.tup (xs ++ ys)) st else .stuck
  | .loc n, .loc m => match st[n]?, st[m]? with
    | some (.lst xs), some (.lst ys) => if xs.length + ys.length ≤ sizeLine then .ok (.loc st.length) (st ++ [.lst (xs ++ ys)]) else .stuck
    | _, _ => .stuck
  | _, _ => .stuck
def subD : D → D → Store → R D := fun x y st => match x, y with
  | .int i, .int j => .ok (.int (i - j)) st
  | _, _ => .stuck
def mulD : D → D → Store → R D := fun x y st => match x, y with
  | .int i, .int j => if i.natAbs.log2 + j.natAbs.log2 < 1000000 then .ok (.int (i * j)) st else .stuck
  | .loc n, .int k => match st[n]? with
    | some (.lst xs) => if -(2 ^ 63) ≤ k ∧ k < 2 ^ 63 ∧ xs.length * k.toNat ≤ sizeLine then .ok (.loc st.length) (st ++ [.lst (List.replicate k.toNat xs).flatten]) else .stuck
    | _ => .stuck
  | .str x, .int k => if 0 ≤ k ∧ k ≤ 1000000 ∧ x.length * k.toNat ≤ sizeLine then .ok (.str (Txt.mul x k)) st else .stuck
  | .tup xs, .int k => if xs ≠ [] ∧ 2 ≤ k ∧ k ≤ 1000 ∧ xs.length ≤ 1000 then .ok (.tup (List.replicate k.toNat xs).flatten) st else .stuck
  | _, _ => .stuck
def modD : D → D → Store → R D := fun x y st => match x, y with
  | .int i, .int j => if 0 < j then .ok (.int (i % j)) st else .stuck
  | _, _ => .stuck
def fdivD : D → D → Store → R D := fun x y st => match x, y with
  | .int i, .int j => if 0 < j ∧ j.natAbs.log2 < 9000 then .ok (.int (i / j)) st else .stuck
  | _, _ => .stuck
def powD : D → D → Store → R D := fun x y st => match x, y with
  | .int i, .int j => if 0 ≤ j ∧ j ≤ 1000000 ∧ i.natAbs < 2 ^ 64 then .ok (.int (i ^ j.toNat)) st else .stuck
  | _, _ => .stuck
def negD : D → Store → R D := fun x st => match x with
  | .int i => .ok (.int (-i)) st
  | _ => .stuck

theorem relDs_replicate {K : PySem.W.Frag} {H : Hp} {ad : List Addr} {xs : List D} {vs : List V} (r : RelDs K H ad xs vs) : ∀ k : Nat, RelDs K H ad (List.replicate k xs).flatten (List.replicate k vs).flatten
  | 0 => .nil
  | k + 1 => by
    rw [List.replicate_succ, List.replicate_succ, List.flatten_cons, List.flatten_cons]
    exact r.append (relDs_replicate r k)
section
variable {X : Cx} {cl : Str → Addr} {E : XK}
theorem RelDs.eq_nil {K : PySem.W.Frag} {H : Hp} {ad : List Addr} {xs : List D} {vs : List V} (r : RelDs K H ad xs vs) : xs = [] ↔ vs = [] := by
  have := r.length
  cases xs <;> cases vs <;> simp_all
theorem or_add : OpR X (binaryOp .Add) (r2 (gx X cl) E addD) := by
  intro pins s σ H x y v u Q I rx ry ⟨ad, d, e, st, S, rd, re, h⟩
  cases d with
  | int i =>
    cases e with
    | int j => exact op_add pins s σ H x y v u Q I rx ry ⟨i, j, relD_int.mp rd, relD_int.mp re, Post.ret h S (relD_int.mpr rfl)⟩
    | _ => exact h.elim
  | str i =>
    cases e with
    | str j =>
      unfold addD at h
      simp only at h
      split at h
      · exact op_add_str pins s σ H x y v u Q I rx ry ⟨i, j, relD_str.mp rd, relD_str.mp re, by assumption, Post.ret h S (relD_str.mpr rfl)⟩
      · exact h.elim
    | _ => exact h.elim
  | tup xs =>
    cases e with
    | tup ys =>
      unfold addD at h
      simp only at h
      split at h
      · rename_i hz
        obtain ⟨a, vs, rfl, ha, ra⟩ := relD_tup.mp rd
        obtain ⟨b, us, rfl, hb, rb⟩ := relD_tup.mp re
        refine op_catA pins s σ H _ _ v u Q I rx ry ⟨a, b, vs, us, rfl, rfl, ha, hb, by rw [← ra.length, ← rb.length]; exact hz, fun q => ?_, fun _ q => ?_, fun _ _ p hp => Post.tup h S (ra.append rb) hp⟩
        · have := ra.eq_nil.mpr q; subst this
          exact Post.ret h S (by simpa using re)
        · have := rb.eq_nil.mpr q; subst this
          exact Post.ret h S (by simpa using rd)
      · exact h.elim
    | _ => exact h.elim
  | loc n =>
    cases e with
    | loc m =>
      unfold addD at h
      simp only at h
      split at h
      · rename_i xs ys h1 h2
        split at h
        · rename_i hz
          obtain ⟨a, rfl, ha⟩ := relD_loc.mp rd
          obtain ⟨b, rfl, hb⟩ := relD_loc.mp re
          obtain ⟨vs, a1, a2⟩ := lst_at S ha h1
          obtain ⟨us, b1, b2⟩ := lst_at S hb h2
          exact op_cat pins s σ H _ _ v u Q I rx ry ⟨a, b, vs, us, rfl, rfl, a1, b1, by rw [← a2.length, ← b2.length]; exact hz, fun p hp => Post.lst h S (a2.append b2) hp⟩
        · exact h.elim
      · exact h.elim
    | _ => exact h.elim
  | _ => exact h.elim
theorem or_sub : OpR X (binaryOp .Sub) (r2 (gx X cl) E subD) := by
  intro pins s σ H x y v u Q I rx ry ⟨ad, d, e, st, S, rd, re, h⟩
  cases d with
  | int i =>
    cases e with
    | int j => exact op_sub pins s σ H x y v u Q I rx ry ⟨i, j, relD_int.mp rd, relD_int.mp re, Post.ret h S (relD_int.mpr rfl)⟩
    | _ => exact h.elim
  | _ => exact h.elim
theorem mulOk_of {x : Str} {k : Int} (h : 0 ≤ k ∧ k ≤ 1000000 ∧ x.length * k.toNat ≤ sizeLine) : MulOk x k := by
  obtain ⟨h0, h1, h2⟩ := h
  have hz : ((x.length * k.toNat : Nat) : Int) ≤ 2 ^ 63 - 1 := by
    have : (sizeLine : Int) ≤ 2 ^ 63 - 1 := by decide
    omega
  refine ⟨?_, fun hn _ => ?_, fun _ _ => ?_⟩
  · rw [decide_eq_false (by omega), decide_eq_false (by omega)]; rfl
  · have e : ((x.length * k.toNat : Nat) : Int) = (x.length : Int) * k := by
      rw [Int.natCast_mul, Int.toNat_of_nonneg h0]
    have := Int.le_ediv_of_mul_le (a := (x.length : Int)) (b := 2 ^ 63 - 1) (c := k) (by omega) (by rw [← e]; exact hz)
    omega
  · unfold Builtin.Str.tooLong
    exact decide_eq_false (by omega)
theorem or_mul : OpR X (binaryOp .Mult) (r2 (gx X cl) E mulD) := by
  intro pins s σ H x y v u Q I rx ry ⟨ad, d, e, st, S, rd, re, h⟩
  cases d with
  | str x0 =>
    cases e with
    | int j =>
      unfold mulD at h
      simp only at h
      split at h
      · rename_i hz
        rw [relD_str.mp rd] at rx
        rw [relD_int.mp re] at ry
        obtain ⟨t, rfl⟩ := rx
        obtain ⟨t2, rfl⟩ := ry
        exact SB.mul (mulOk_of hz) fun t' k => ⟨.str (Txt.mul x0 j), H, I.tok k, ⟨t', rfl⟩, Post.ret h S (relD_str.mpr rfl)⟩
      · exact h.elim
    | _ => exact h.elim
  | int i =>
    cases e with
    | int j =>
      unfold mulD at h
      simp only at h
      split at h
      · exact op_mulW pins s σ H x y v u Q I rx ry ⟨i, j, relD_int.mp rd, relD_int.mp re, by assumption, Post.ret h S (relD_int.mpr rfl)⟩
      · exact h.elim
    | _ => exact h.elim
  | loc n =>
    cases e with
    | int k =>
      unfold mulD at h
      simp only at h
      split at h
      · rename_i xs h1
        split at h
        · rename_i hz
          obtain ⟨a, rfl, ha⟩ := relD_loc.mp rd
          obtain ⟨vs, a1, a2⟩ := lst_at S ha h1
          exact op_rep pins s σ H _ _ v u Q I rx ry ⟨a, k, vs, rfl, relD_int.mp re, a1, hz.1, hz.2.1, by rw [← a2.length]; exact hz.2.2, fun p hp => Post.lst h S (relDs_replicate a2 _) hp⟩
        · exact h.elim
      · exact h.elim
    | _ => exact h.elim
  | tup xs =>
    cases e with
    | int k =>
      unfold mulD at h
      simp only at h
      split at h
      · rename_i hz
        obtain ⟨a, vs, rfl, ha, ra⟩ := relD_tup.mp rd
        exact op_repT pins s σ H _ _ v u Q I rx ry ⟨a, k, vs, rfl, relD_int.mp re, ha, fun q => hz.1 (ra.eq_nil.mpr q), hz.2.1, hz.2.2.1, by rw [← ra.length]; exact hz.2.2.2, fun p hp => Post.tup h S (relDs_replicate ra _) hp⟩
      · exact h.elim
    | _ => exact h.elim
  | _ => exact h.elim
theorem or_mod : OpR X (binaryOp .Mod) (r2 (gx X cl) E modD) := by
  intro pins s σ H x y v u Q I rx ry ⟨ad, d, e, st, S, rd, re, h⟩
  cases d with
  | int i =>
    cases e with
    | int j =>
      unfold modD at h
      simp only at h
      split at h
      · exact op_mod pins s σ H x y v u Q I rx ry ⟨i, j, relD_int.mp rd, relD_int.mp re, by assumption, Post.ret h S (relD_int.mpr rfl)⟩
      · exact h.elim
    | _ => exact h.elim
  | _ => exact h.elim
theorem or_fdiv : OpR X (binaryOp .FloorDiv) (r2 (gx X cl) E fdivD) := by
  intro pins s σ H x y v u Q I rx ry ⟨ad, d, e, st, S, rd, re, h⟩
  cases d with
  | int i =>
    cases e with
    | int j =>
      unfold fdivD at h
      simp only at h
      split at h
      · exact op_fdivW pins s σ H x y v u Q I rx ry ⟨i, j, relD_int.mp rd, relD_int.mp re, by assumption, Post.ret h S (relD_int.mpr rfl)⟩
      · exact h.elim
    | _ => exact h.elim
  | _ => exact h.elim
theorem or_pow : OpR X (binaryOp .Pow) (r2 (gx X cl) E powD) := by
  intro pins s σ H x y v u Q I rx ry ⟨ad, d, e, st, S, rd, re, h⟩
  cases d with
  | int i =>
    cases e with
    | int j =>
      unfold powD at h
      simp only at h
      split at h
      · exact op_pow pins s σ H x y v u Q I rx ry ⟨i, j, relD_int.mp rd, relD_int.mp re, by assumption, Post.ret h S (relD_int.mpr rfl)⟩
      · exact h.elim
    | _ => exact h.elim
  | _ => exact h.elim
theorem ur_neg : UnR X (unaryOp .USub) (r1 (gx X cl) E negD) := by
  intro pins s σ H x v Q I rx ⟨ad, d, st, S, rd, h⟩
  cases d with
  | int i => exact un_neg pins s σ H x v Q I rx ⟨i, relD_int.mp rd, Post.ret h S (relD_int.mpr rfl)⟩
  | _ => exact h.elim

/-! ### order -/
def ltD : D → D → Store → R D := fun x y st => match x, y with
  | .int i, .int j => .ok (.bl (decide (i < j))) st
  | .str i, .str j => .ok (.bl (decide (i.cps.toList < j.cps.toList))) st
  | _, _ => .stuck
def leD : D → D → Store → R D := fun x y st => match x, y with
  | .int i, .int j => .ok (.bl (decide (i ≤ j))) st
  | .str i, .str j => .ok (.bl (!decide (j.cps.toList < i.cps.toList))) st
  | _, _ => .stuck
def gtD : D → D → Store → R D := fun x y st => match x, y with
  | .int i, .int j => .ok (.bl (decide (j < i))) st
  | .str i, .str j => .ok (.bl (decide (j.cps.toList < i.cps.toList))) st
  | _, _ => .stuck
def geD : D → D → Store → R D := fun x y st => match x, y with
  | .int i, .int j => .ok (.bl (decide (j ≤ i))) st
  | .str i, .str j => .ok (.bl (!decide (i.cps.toList < j.cps.toList))) st
  | _, _ => .stuck
theorem or_ord {f : Value → Value → Sem Value} {pi : Int → Int → Bool} {ps : Str → Str → Bool} (h1 : OpR X f (rI0 fun i j => .bl (pi i j))) (h2 : OpR X f (fun x y H Q => ∃ i j, x = .str i ∧ y = .str j ∧ Q (.bl (ps i j)) H)) :
    OpR X f (r2 (gx X cl) E fun x y st => match x, y with
      | .int i, .int j => .ok (.bl (pi i j)) st
      | .str i, .str j => .ok (.bl (ps i j)) st
      | _, _ => .stuck) := by
  intro pins s σ H x y v u Q I rx ry ⟨ad, d, e, st, S, rd, re, h⟩
  cases d with
  | int i =>
    cases e with
    | int j => exact h1 pins s σ H x y v u Q I rx ry ⟨i, j, relD_int.mp rd, relD_int.mp re, Post.ret h S (relD_bl.mpr rfl)⟩
    | _ => exact h.elim
  | str i =>
    cases e with
    | str j => exact h2 pins s σ H x y v u Q I rx ry ⟨i, j, relD_str.mp rd, relD_str.mp re, Post.ret h S (relD_bl.mpr rfl)⟩
    | _ => exact h.elim
  | _ => exact h.elim
theorem or_lt : OpR X (compareOp .Lt) (r2 (gx X cl) E ltD) := or_ord (pi := fun i j => decide (i < j)) (ps := fun i j => decide (i.cps.toList < j.cps.toList)) op_lt op_lt_str
theorem or_le : OpR X (compareOp .LtE) (r2 (gx X cl) E leD) := or_ord (pi := fun i j => decide (i ≤ j)) (ps := fun i j => !decide (j.cps.toList < i.cps.toList)) op_le op_le_str
theorem or_gt : OpR X (compareOp .Gt) (r2 (gx X cl) E gtD) := or_ord (pi := fun i j => decide (j < i)) (ps := fun i j => decide (j.cps.toList < i.cps.toList)) op_gt op_gt_str
theorem or_ge : OpR X (compareOp .GtE) (r2 (gx X cl) E geD) := or_ord (pi := fun i j => decide (j ≤ i)) (ps := fun i j => !decide (i.cps.toList < j.cps.toList)) op_ge op_ge_str

/-! ### is, is not: None, truth values -/
def isNonD : D → Bool
  | .non => true
  | _ => false
def isD (neg : Bool) : D → D → Store → R D := fun x y st => match y with
  | .non => .ok (.bl (xor neg (isNonD x))) st
  | .bl b => match x with
    | .bl a => .ok (.bl (xor neg (decide (a = b)))) st
    | _ => .stuck
  | _ => .stuck
theorem isNon_iff {K : PySem.W.Frag} {H : Hp} {ad : List Addr} {d : D} {v : V} (r : RelD K H ad d v) : decide (v = .non) = isNonD d := by
  cases d with
  | non => rw [relD_non.mp r]; rfl
  | bl _ => rw [relD_bl.mp r]; rfl
  | int _ => rw [relD_int.mp r]; rfl
  | str _ => rw [relD_str.mp r]; rfl
  | tup _ => obtain ⟨_, _, rfl, _⟩ := relD_tup.mp r; rfl
  | kl _ => obtain ⟨_, _, rfl, _⟩ := relD_kl.mp r; rfl
  | loc _ => obtain ⟨_, rfl, _⟩ := relD_loc.mp r; rfl
theorem or_is : OpR X (compareOp .Is) (r2 (gx X cl) E (isD false)) := by
  intro pins s σ H x y v u Q I rx ry ⟨ad, d, e, st, S, rd, re, h⟩
  cases e with
  | non => exact op_isN pins s σ H x y v u Q I rx ry ⟨relD_non.mp re, by rw [isNon_iff rd]; exact Post.ret h S (relD_bl.mpr (by simp))⟩
  | bl b =>
    cases d with
    | bl a => exact op_isBl pins s σ H x y v u Q I rx ry ⟨a, b, relD_bl.mp rd, relD_bl.mp re, Post.ret h S (relD_bl.mpr (by simp))⟩
    | _ => exact h.elim
  | _ => exact h.elim
theorem or_isnot : OpR X (compareOp .IsNot) (r2 (gx X cl) E (isD true)) := by
  intro pins s σ H x y v u Q I rx ry ⟨ad, d, e, st, S, rd, re, h⟩
  cases e with
  | non => exact op_notN pins s σ H x y v u Q I rx ry ⟨relD_non.mp re, by rw [isNon_iff rd]; exact Post.ret h S (relD_bl.mpr (by simp))⟩
  | bl b =>
    cases d with
    | bl a => exact op_notBl pins s σ H x y v u Q I rx ry ⟨a, b, relD_bl.mp rd, relD_bl.mp re, Post.ret h S (relD_bl.mpr (by simp))⟩
    | _ => exact h.elim
  | _ => exact h.elim

/-! ### subscripts, slices -/
def valD (kvs : List (Key × D)) (k : Key) : Option D := (kvs.find? fun kv => decide (kv.1 = k)).map (·.2)
def keyOf : D → Option Key
  | .int i => some (.inl i)
  | .str x => some (.inr x)
  | _ => none
def optR (o : Option D) (st : Store) : R D := match o with
  | some d => .ok d st
  | none => .stuck
def ixD : D → D → Store → R D := fun x y st => match x, y with
  | .tup xs, .int i => optR (atI xs i) st
  | .kl xs, .int i => optR (atI xs i) st
  | .str x, .int i => if x.length ≤ sizeLine then optR ((atI x.cps.toList i).map fun c => .str ⟨#[c]⟩) st else .stuck
  | .loc n, y => match st[n]? with
    | some (.lst xs) => match y with
      | .int i => optR (atI xs i) st
      | _ => .stuck
    | some (.dK kvs) => match keyOf y with
      | some k => optR (valD kvs k) st
      | none => .stuck
    | _ => .stuck
  | _, _ => .stuck
theorem RelDs.at {K : PySem.W.Frag} {H : Hp} {ad : List Addr} {xs : List D} {vs : List V} {i : Int} {d : D} (r : RelDs K H ad xs vs) (h : atI xs i = some d) : ∃ v, atI vs i = some v ∧ RelD K H ad d v := by
  unfold atI at h ⊢
  rw [← r.length]
  cases e : ixN xs.length i with
  | none => rw [e] at h; cases h
  | some j =>
    rw [e] at h
    obtain ⟨v, hv, rv⟩ := r.get (i := j) h
    exact ⟨v, hv, rv⟩
theorem keyOf_rel {K : PySem.W.Frag} {H : Hp} {ad : List Addr} {d : D} {v : V} {k : Key} (r : RelD K H ad d v) (h : keyOf d = some k) : v = kV k := by
  cases d with
  | int i => cases h; exact relD_int.mp r
  | str i => cases h; exact relD_str.mp r
  | _ => cases h
theorem valD_rel {K : PySem.W.Frag} {H : Hp} {ad : List Addr} {k : Key} : ∀ {kvs : List (Key × D)} {ks : List (Key × V)}, RelKs K H ad kvs ks → (∀ d, valD kvs k = some d → ∃ v, valV ks k = some v ∧ RelD K H ad d v) ∧ (valD kvs k = none → valV ks k = none)
  | [], _, h => by cases h; exact ⟨fun _ z => (nomatch z), fun _ => rfl⟩
  | (k', d') :: kvs, _, h => by
    cases h with
    | @cons _ q _ ks r t =>
      obtain ⟨k2, v2⟩ := q
      obtain ⟨e, rv⟩ := r
      simp only at e rv
      subst e
      have ih := valD_rel (k := k) (show RelKs K H ad kvs ks from t)
      by_cases hk : k' = k
      · have a : valD ((k', d') :: kvs) k = some d' := by simp [valD, List.find?_cons, hk]
        rw [a, valV_pos (p := (k', v2)) hk]
        exact ⟨fun d z => by (cases z; exact ⟨v2, rfl, rv⟩), fun z => (nomatch z)⟩
      · have a : valD ((k', d') :: kvs) k = valD kvs k := by simp [valD, List.find?_cons, hk]
        rw [a, valV_neg (p := (k', v2)) hk]
        exact ih
theorem dK_at {g : G} {H : Hp} {ad : List Addr} {st : Store} {n : Nat} {p : Addr} {kvs : List (Key × D)} (S : Sim g H ad st) (hp : ad[n]? = some p) (e : st[n]? = some (.dK kvs)) : ∃ ks, H p = some (.dK ks) ∧ RelKs g.K H ad kvs ks := by
  obtain ⟨o, eo, ro⟩ := S.lt hp
  rw [e] at eo; cases eo
  exact ro
variable {a b c : Expr} {ma mb mc : M D} {pos : Pos} {es : List Expr} {mas : M (List D)}
theorem Post.opt {g : G} {H : Hp} {ad : List Addr} {o : Option D} {st : Store} {Q : VK} (h : Post g E H ad (optR o st) Q) : ∃ d, o = some d ∧ Post g E H ad (.ok d st) Q := by
  cases o with
  | none => exact h.elim
  | some d => exact ⟨d, rfl, h⟩
theorem me_ix (hu : X.A.units + 1 < cLine) (ha : PE X a (tE (gx X cl) E ma)) (hb : PE X b (tE (gx X cl) E mb)) (hs : PlainIx b := by exact fun _ _ => rfl) (hn : NoSl b := by exact fun _ _ => rfl) : PE X (.Subscript a b pos) (tE (gx X cl) E (m2 ixD ma mb)) := by
  refine ⟨fun pins s σ H Q I h => ?_⟩
  obtain ⟨ad, ds, st, S, r, h⟩ := h
  unfold m2 at h
  -- the answers decide the rule
  have viaIx : ∀ {r0 : R2}, IxR X r0 → (∀ d st1 v H1 ad1, ma ds st = .ok d st1 → Ext X.K H ad H1 ad1 → Sim (gx X cl) H1 ad1 st1 → RelS X.K H1 ad1 ds σ → RelD X.K H1 ad1 d v → ∀ e st2 u H2 ad2, mb ds st1 = .ok e st2 → Ext X.K H1 ad1 H2 ad2 → Sim (gx X cl) H2 ad2 st2 → RelD X.K H2 ad2 e u → r0 v u H2 Q) →
      wpAny (model X.prog X.w) X.A (eval (.Subscript a b pos) X.env) (EP X pins σ Q) X.xe s := fun {r0} hr f => by
    refine (pe_ix hr ha hb hs).run pins s σ H Q I ⟨ad, ds, st, S, r, ?_⟩
    cases e1 : ma ds st with
    | exc _ _ _ => rw [e1] at h; exact h
    | stuck => rw [e1] at h; exact h
    | ok d st1 =>
      rw [e1] at h
      intro v H1 ad1 x1 S1 rd
      have h := Post.ext x1 h
      refine ⟨ad1, ds, st1, S1, r.ext x1, ?_⟩
      simp only [R.bind_ok] at h
      cases e2 : mb ds st1 with
      | exc _ _ _ => rw [e2] at h; exact h
      | stuck => rw [e2] at h; exact h
      | ok e st2 => exact fun u H2 ad2 x2 S2 re => f d st1 v H1 ad1 e1 x1 S1 (r.ext x1) rd e st2 u H2 ad2 e2 x2 S2 re
  cases e1 : ma ds st with
  | exc _ _ _ => exact viaIx ix_list fun d st1 v H1 ad1 e => by rw [e1] at e; cases e
  | stuck => exact viaIx ix_list fun d st1 v H1 ad1 e => by rw [e1] at e; cases e
  | ok d st1 =>
    rw [e1] at h
    simp only [R.bind_ok] at h
    cases e2 : mb ds st1 with
    | exc _ _ _ => exact viaIx ix_list fun d' st1' v H1 ad1 e _ _ _ _ e' st2 u H2 ad2 q => by rw [e1] at e; cases e; rw [e2] at q; cases q
    | stuck => exact viaIx ix_list fun d' st1' v H1 ad1 e _ _ _ _ e' st2 u H2 ad2 q => by rw [e1] at e; cases e; rw [e2] at q; cases q
    | ok e st2 =>
      rw [e2] at h
      simp only [R.bind_ok] at h
      have done : ∀ {r0 : R2}, IxR X r0 → (∀ v u H2 ad2, Ext X.K H ad H2 ad2 → Sim (gx X cl) H2 ad2 st2 → RelD X.K H2 ad2 d v → RelD X.K H2 ad2 e u → Post (gx X cl) E H2 ad2 (ixD d e st2) Q → r0 v u H2 Q) → wpAny (model X.prog X.w) X.A (eval (.Subscript a b pos) X.env) (EP X pins σ Q) X.xe s := fun {r0} hr f =>
        viaIx hr fun d' st1' v H1 ad1 q1 x1 S1 _ rd e' st2' u H2 ad2 q2 x2 S2 re => by
          rw [e1] at q1; cases q1
          rw [e2] at q2; cases q2
          exact f v u H2 ad2 (x1.trans x2) S2 (rd.ext x2) re (Post.ext (x1.trans x2) h)
      cases d with
      | non => exact h.elim
      | bl _ => exact h.elim
      | int _ => exact h.elim
      | tup xs =>
        refine done ix_tup fun v u H2 ad2 x S2 rd re h => ?_
        cases e with
        | int i =>
          obtain ⟨d, ed, h⟩ := Post.opt h
          obtain ⟨p, vs, rfl, hp, rp⟩ := relD_tup.mp rd
          obtain ⟨w, hw, rw'⟩ := rp.at ed
          exact ⟨p, vs, i, w, rfl, relD_int.mp re, hp, hw, Post.ret h S2 rw'⟩
        | _ => exact h.elim
      | kl xs =>
        refine done ix_list fun v u H2 ad2 x S2 rd re h => ?_
        cases e with
        | int i =>
          obtain ⟨d, ed, h⟩ := Post.opt h
          obtain ⟨p, vs, rfl, hp, rp⟩ := relD_kl.mp rd
          obtain ⟨w, hw, rw'⟩ := rp.at ed
          exact ⟨p, vs, i, w, rfl, relD_int.mp re, hp.seq, hw, Post.ret h S2 rw'⟩
        | _ => exact h.elim
      | str y =>
        refine done ix_str fun v u H2 ad2 x S2 rd re h => ?_
        cases e with
        | int i =>
          unfold ixD at h
          simp only at h
          split at h
          · obtain ⟨d, ed, h⟩ := Post.opt h
            cases ec : atI y.cps.toList i with
            | none => rw [ec] at ed; cases ed
            | some c => rw [ec] at ed; cases ed; exact ⟨y, i, c, relD_str.mp rd, relD_int.mp re, by assumption, ec, Post.ret h S2 (relD_str.mpr rfl)⟩
          · exact h.elim
        | _ => exact h.elim
      | loc n =>
        cases eo : st2[n]? with
        | none => unfold ixD at h; simp only [eo] at h; exact h.elim
        | some o =>
          cases o with
          | ins _ _ => unfold ixD at h; simp only [eo] at h; exact h.elim
          | lst xs =>
            refine done ix_list fun v u H2 ad2 x S2 rd re h => ?_
            unfold ixD at h; simp only [eo] at h
            cases e with
            | int i =>
              obtain ⟨d, ed, h⟩ := Post.opt h
              obtain ⟨p, rfl, hp⟩ := relD_loc.mp rd
              obtain ⟨vs, q1, q2⟩ := lst_at S2 hp eo
              obtain ⟨w, hw, rw'⟩ := q2.at ed
              exact ⟨p, vs, i, w, rfl, relD_int.mp re, .of q1, hw, Post.ret h S2 rw'⟩
            | _ => exact h.elim
          | dK kvs =>
            refine (pe_dget hu ha hb hn).run pins s σ H Q I ⟨ad, ds, st, S, r, ?_⟩
            rw [e1]
            intro v H1 ad1 x1 S1 rd
            refine ⟨ad1, ds, st1, S1, r.ext x1, ?_⟩
            rw [e2]
            intro u H2 ad2 x2 S2 re
            have h := Post.ext (x1.trans x2) h
            unfold ixD at h; simp only [eo] at h
            cases ek : keyOf e with
            | none => rw [ek] at h; exact h.elim
            | some k =>
              rw [ek] at h
              obtain ⟨d, ed, h⟩ := Post.opt h
              obtain ⟨p, rfl, hp⟩ := relD_loc.mp rd
              obtain ⟨ks, q1, q2⟩ := dK_at S2 (x2.at hp) eo
              obtain ⟨w, hw, rw'⟩ := (valD_rel q2).1 d ed
              rw [keyOf_rel re ek]
              exact ⟨p, w, rfl, by rw [← hw]; exact DGet.k q1, Post.ret h S2 rw'⟩

/-- a part of a slice -/
def pN : M (Option Int) := fun _ st => .ok none st
def pS (a : M D) : M (Option Int) := fun ds st => (a ds st).bind fun d st => match d with
  | .int i => .ok (some i) st
  | _ => .stuck
def cutD (xs : List D) (lo hi : Option Int) : List D := (xs.drop (HT.sIx xs.length 0 lo)).take (HT.sIx xs.length xs.length hi - HT.sIx xs.length 0 lo)
def slD : D → Option Int → Option Int → Store → R D := fun x lo hi st => match x with
  | .tup xs => .ok (.tup (cutD xs lo hi)) st
  | .kl xs => .ok (.loc st.length) (st ++ [.lst (cutD xs lo hi)])
  | .str z => if z.length ≤ sizeLine then .ok (.str (cutS z lo hi)) st else .stuck
  | .loc n => match st[n]? with
    | some (.lst xs) => .ok (.loc st.length) (st ++ [.lst (cutD xs lo hi)])
    | _ => .stuck
  | _ => .stuck
def mSl (a : M D) (l h : M (Option Int)) : M D := fun ds st => (a ds st).bind fun x st => (l ds st).bind fun lo st => (h ds st).bind fun hi st => slD x lo hi st
theorem RelDs.cut {K : PySem.W.Frag} {H : Hp} {ad : List Addr} {xs : List D} {vs : List V} (r : RelDs K H ad xs vs) (lo hi : Option Int) : RelDs K H ad (cutD xs lo hi) (cutV vs lo hi) := by
  unfold cutD cutV
  rw [r.length]
  exact (r.drop _).take _
def PostO (g : G) (E : XK) (H : Hp) (ad : List Addr) (r : R (Option Int)) (Q : Option Int → Hp → Prop) : Prop := match r with
  | .ok b st => ∀ H' ad', Ext g.K H ad H' ad' → Sim g H' ad' st → Q b H'
  | .exc c fs st => ∀ dx H' ad', Ext g.K H ad H' ad' → Sim g H' ad' st → XRel g.K H' ad' fs dx → E (.ref (g.cl c)) dx H'
  | .stuck => False
def tP (g : G) (E : XK) (m : M (Option Int)) : TO := fun σ H Q => ∃ ad ds st, Sim g H ad st ∧ RelS g.K H ad ds σ ∧ PostO g E H ad (m ds st) Q
theorem mp_none : PO X none (tP (gx X cl) E pN) := ⟨fun pins s σ H Q I ⟨ad, ds, st, S, r, h⟩ => po_none.run pins s σ H Q I (h _ _ .refl S)⟩
theorem mp_some (ha : PE X a (tE (gx X cl) E ma)) : PO X (some a) (tP (gx X cl) E (pS ma)) := ⟨fun pins s σ H Q I ⟨ad, ds, st, S, r, h⟩ => (po_some ha).run pins s σ H Q I ⟨ad, ds, st, S, r, by
  unfold pS at h
  cases e : ma ds st with
  | exc _ _ _ => rw [e] at h; exact h
  | stuck => rw [e] at h; exact h
  | ok d st1 =>
    rw [e] at h
    intro v H1 ad1 x1 S1 rd
    cases d with
    | int i => exact ⟨i, relD_int.mp rd, h _ _ x1 S1⟩
    | _ => exact h.elim⟩⟩
def rSl (g : G) (E : XK) : V → Option Int → Option Int → Hp → VK → Prop := fun x lo hi H Q => ∃ ad d st, Sim g H ad st ∧ RelD g.K H ad d x ∧ Post g E H ad (slD d lo hi st) Q
theorem sr_all : SlR X (rSl (gx X cl) E) := by
  intro pins s σ H x v vl vu lo hi sl Q I rx hs pl pu ⟨ad, d, st, S, rd, h⟩
  cases d with
  | tup xs =>
    obtain ⟨p, vs, rfl, hp, rp⟩ := relD_tup.mp rd
    refine sl_tupA pins s σ H _ v vl vu lo hi sl Q I rx hs pl pu ⟨p, vs, rfl, hp, fun q => ?_, fun _ p hp => Post.tup h S (rp.cut lo hi) hp⟩
    refine Post.ret h S (relD_tup.mpr ⟨p, vs, rfl, hp, ?_⟩)
    have : cutV vs lo hi = vs := by
      unfold cutV
      rw [q.1, q.2]; simp
    rw [← this]
    have r2 := rp.cut lo hi
    rw [this] at r2 ⊢
    exact r2
  | kl xs =>
    obtain ⟨p, vs, rfl, hp, rp⟩ := relD_kl.mp rd
    exact sl_list pins s σ H _ v vl vu lo hi sl Q I rx hs pl pu ⟨p, vs, rfl, hp.seq, fun p hp => Post.lst h S (rp.cut lo hi) hp⟩
  | str z =>
    unfold slD at h
    simp only at h
    split at h
    · exact sl_str pins s σ H _ v vl vu lo hi sl Q I rx hs pl pu ⟨z, relD_str.mp rd, by assumption, Post.ret h S (relD_str.mpr rfl)⟩
    · exact h.elim
  | loc n =>
    unfold slD at h
    simp only at h
    split at h
    · rename_i xs e
      obtain ⟨p, rfl, hp⟩ := relD_loc.mp rd
      obtain ⟨vs, q1, q2⟩ := lst_at S hp e
      exact sl_list pins s σ H _ v vl vu lo hi sl Q I rx hs pl pu ⟨p, vs, rfl, .of q1, fun p hp => Post.lst h S (q2.cut lo hi) hp⟩
    · exact h.elim
  | _ => exact h.elim
theorem me_sl {lo hi : Option Expr} {p2 : Pos} {ml mh : M (Option Int)} (ha : PE X a (tE (gx X cl) E ma)) (hl : PO X lo (tP (gx X cl) E ml)) (hh : PO X hi (tP (gx X cl) E mh)) : PE X (.Subscript a (.Slice lo hi none p2) pos) (tE (gx X cl) E (mSl ma ml mh)) :=
  tE.imp (pe_slice (sr_all (X := X) (cl := cl) (E := E)) ha hl hh) fun σ H Q ⟨ad, ds, st, S, r, h⟩ => by
    refine tE.go S r h fun x st1 v H1 ad1 e1 S1 r1 rx h1 => ?_
    refine ⟨ad1, ds, st1, S1, r1, ?_⟩
    cases e2 : ml ds st1 with
    | exc _ _ _ => rw [e2] at h1; exact h1
    | stuck => rw [e2] at h1; exact h1
    | ok l st2 =>
      rw [e2] at h1
      intro H2 ad2 x2 S2
      have h2 := Post.ext x2 h1
      refine ⟨ad2, ds, st2, S2, r1.ext x2, ?_⟩
      simp only [R.bind_ok] at h2
      cases e3 : mh ds st2 with
      | exc _ _ _ => rw [e3] at h2; exact h2
      | stuck => rw [e3] at h2; exact h2
      | ok u st3 =>
        rw [e3] at h2
        intro H3 ad3 x3 S3
        exact ⟨ad3, x, st3, S3, (rx.ext x2).ext x3, Post.ext x3 h2⟩
end
end Mp
end
section
set_option Elab.async false
set_option linter.all false
set_option maxRecDepth 100000
set_option maxHeartbeats 1000000
/-! Mp: defs and their calls; the law's end. A def's promise is kept where no guarded built-in (a repr) runs around it. -/
namespace Mp
open PySem PySem.Spec PyProof.Rows L2

/-- as FnOk of the hand layer, where no guarded built-in runs around the call -/
structure FnG (P : Program) (w : World) (K : PySem.W.Frag) (mg : Str → Option Value) (base : Heap) (CX : CXT) (k : Nat) (f : Addr) (fd : FuncData) (ps : List Str) (sp : Sp) : Prop where
  len : ∀ vs H Q E, sp vs H Q E → vs.length = ps.length
  run : ∀ (A : Around) (outer : List Env) (s : Shared) (H : Hp) (args : Args) (us : List Value) (vs : List V) (Q : VK) (E : XK),
    Room k A → A.guards = some [] → Env0 P w K mg base A outer s H → BindsTo s fd args (ps.zip us) → Vals vs us → sp vs H Q E →
      codeAny (model P w) A (.call (.ref f) args) (CR CX outer P w H s Q E) s
section
variable {P : Program} {w : World} {K : PySem.W.Frag} {mg : Str → Option Value} {base : Heap} {CX : CXT} {j k : Nat} {f : Addr} {fd : FuncData} {ps : List Str} {sp sp' : Sp}
theorem FnG.mono (F : FnG P w K mg base CX j f fd ps sp) (h : j ≤ k) : FnG P w K mg base CX k f fd ps sp :=
  { len := F.len
    run := fun A outer s H args us vs Q E hr hg => F.run A outer s H args us vs Q E (hr.mono h) hg }
/-- the promise from the body -/
theorem FnG.of_body {name qual : Str} {params : Arguments} {body : List Stmt} {scope : Scope} {dV kV doc pm cdv ct oc : Value} {an od : Option Addr} {osl : Array (Option Value)} {N : List Str}
    (lk : K.lookup f = some ⟨oc, od, .func (PySem.W.fnOf name qual params body scope dV kV doc pm an cdv ct), osl⟩) (hcd : PySem.W.codeIn K cdv qual = true) (S : FnScope N ps scope)
    (len : ∀ vs H Q E, sp vs H Q E → vs.length = ps.length)
    (hbody : ∀ (A : Around) (outer : List Env) (s : Shared) (H : Hp) (vs : List V) (Q : VK) (E : XK),
      Room k (A.deeper (envOfC qual scope s.heap.objs.size f cdv)) → A.guards = some [] → sp vs H Q E →
        ∃ t, PSs (cxOf CX P w K mg base N qual scope f cdv A outer s H E) body t ∧ t { nx := fun _ H' => Q .non H', rt := Q } (L2.start N vs) H) :
    FnG P w K mg base CX (k + 1) f (PySem.W.fnOf name qual params body scope dV kV doc pm an cdv ct) ps sp := by
  constructor
  · exact len
  intro A outer s H args us vs Q E hr hg e0 hb r hsp
  have hlen := len vs H Q E hsp
  have inK : K.In s.heap := e0.mod.kin.keeps (fun b o q => (e0.bs b o q).1)
  have nolim : s.heap.NoLimit := e0.mod.nolimit.keeps (fun b o q => (e0.bs b o q).1)
  obtain ⟨t, ht, hq⟩ := hbody A outer s H vs Q E (hr.deeper _) hg hsp
  apply codeAny_call_function hr.depth (inK _ _ lk) rfl S.co S.gen rfl (PySem.W.codeRec_of inK hcd)
  apply hb
  apply wpAny_newFunctionEnv_cells S.kind
  · rintro ⟨n, v⟩ hy
    cases S.par n (List.of_mem_zip hy).1 with
    | inl q => exact Or.inl q
    | inr q => exact Or.inr ⟨q, PySem.W.cellsFrom_some _ _ _ (Or.inl q)⟩
  · intro env he s1 x
    subst he
    constructor
    · exact nolim.keeps x.toInCall.keep
    apply codeAny_func
    have I0 := inv_start (CX := CX) (E := E) S hr.hd e0 hlen r x
    apply wpAny_mono (ht.run [] s1 (L2.start N vs) H _ I0 hq)
    · intro fl s' hs
      cases fl with
      | next =>
        obtain ⟨σ', H', J, q⟩ := hs
        exact ⟨V.non, H', J.os, J.bare, J.base, J.hok, rfl, q⟩
      | ret u =>
        obtain ⟨v, σ', H', J, rv, q⟩ := hs
        exact ⟨v, H', J.os, J.bare, J.base, J.hok, rv, q⟩
      | brk => obtain ⟨_, _, _, q⟩ := hs; exact q.elim
      | cont => obtain ⟨_, _, _, q⟩ := hs; exact q.elim
    · exact fun e s' hs => hs
end

/-! ### the promise that a def's function tells -/
/-- a def that raises nothing -/
def spN (g : G) (n : Nat) (F : List D → Store → R D) : Sp := fun vs H Q _ => vs.length = n ∧ ∃ ad ds st, Sim g H ad st ∧ RelDs g.K H ad ds vs ∧ Post g E0 H ad (F ds st) Q
/-- a def that may raise -/
def spX (g : G) (n : Nat) (F : List D → Store → R D) : Sp := fun vs H Q E => vs.length = n ∧ ∃ ad ds st, Sim g H ad st ∧ RelDs g.K H ad ds vs ∧ Post g E H ad (F ds st) Q
/-- the function of a def: m slots, n parameters -/
def fnD (m n : Nat) (body : MS) : List D → Store → R D := fun args st => if args.length = n then (match body (args.map some ++ List.replicate (m - n) none) st with
    | .nx _ st' => .ok .non st'
    | .rt d st' => .ok d st'
    | .exc c fs st' => .exc c fs st'
    | _ => .stuck) else .stuck
/-- no exception -/
def noX {α : Type} : R α → R α
  | .ok a st => .ok a st
  | _ => .stuck
theorem Post.noX {g : G} {E : XK} {H : Hp} {ad : List Addr} {r : R D} {Q : VK} (h : Post g E H ad (Mp.noX r) Q) : Post g E0 H ad r Q := by
  cases r with
  | ok d st => exact h
  | exc _ _ _ => exact h.elim
  | stuck => exact h.elim
/-- a call of a def of n parameters that raises nothing -/
def callN (n : Nat) (F : List D → Store → R D) : List D → Store → R D := fun xs st => if xs.length = n then noX (F xs st) else .stuck
/-- .. that may raise -/
def callX (n : Nat) (F : List D → Store → R D) : List D → Store → R D := fun xs st => if xs.length = n then F xs st else .stuck
theorem relS_start {K : PySem.W.Frag} {H : Hp} {ad : List Addr} {ds : List D} {vs : List V} {N : List Str} {n : Nat} (r : RelDs K H ad ds vs) (hn : vs.length = n) (hl : n ≤ N.length) : RelS K H ad (ds.map some ++ List.replicate (N.length - n) none) (L2.start N vs) := by
  have e := r.length
  constructor
  · unfold L2.start; simp [e, hn]
  · intro i d h
    by_cases hi : i < ds.length
    · rw [List.getElem?_append_left (by simpa using hi), List.getElem?_map] at h
      cases q : ds[i]? with
      | none => rw [q] at h; cases h
      | some d' =>
        rw [q] at h; cases h
        obtain ⟨v, hv, rv⟩ := r.get q
        refine ⟨v, ?_, rv⟩
        unfold L2.start
        rw [List.getElem?_append_left (by simp; omega), List.getElem?_map, hv]; rfl
    · rw [List.getElem?_append_right (by simpa using hi), List.getElem?_replicate] at h
      split at h <;> cases h
section
variable {P : Program} {w : World} {K : PySem.W.Frag} {mg : Str → Option Value} {base : Heap} {cl : Str → Addr}
/-- THE RULE for a def that raises nothing -/
theorem funN {x qual : Str} {st : Stmt} {f : Addr} {fd : FuncData} {N ps : List Str} {k m n : Nat} {body : MS} (F : Fun K x qual st f fd) (S : FnScope N ps (defScope st)) (hm : N.length = m) (hn : ps.length = n)
    (h : ∀ (cdv : Value) (A : Around) (outer : List Env) (s : Shared) (H : Hp) (E : XK), Room k (A.deeper (envOfC qual (defScope st) s.heap.objs.size f cdv)) → A.guards = some [] →
      PSs (cxOf CX0 P w K mg base N qual (defScope st) f cdv A outer s H E).nox (defBody st) (tS ⟨K, cl⟩ E0 body)) :
    FnG P w K mg base CX0 (k + 1) f fd ps (spN ⟨K, cl⟩ n (fnD m n body)) := by
  obtain ⟨oc, od, kV, doc, pm, an, cdv, ct, osl, rfl, lk, hcd⟩ := F.ex
  have hpl : n ≤ N.length := by
    have := congrArg List.length S.pre
    rw [List.length_take] at this
    omega
  refine FnG.of_body lk hcd S (fun vs H Q E q => q.1.trans hn.symm) fun A outer s H vs Q E hr hg q => ?_
  refine ⟨_, (h cdv A outer s H E hr hg).nox, ?_⟩
  obtain ⟨hl, ad, ds, st0, S0, r, q⟩ := q
  refine ⟨ad, ds.map some ++ List.replicate (m - n) none, st0, S0, by rw [← hm]; exact relS_start r hl hpl, ?_⟩
  unfold fnD at q
  have hd : ds.length = n := r.length.trans hl
  rw [if_pos hd] at q
  cases e : body (ds.map some ++ List.replicate (m - n) none) st0 with
  | nx ds' st' => rw [e] at q; exact fun σ' H' ad' x S' _ => q _ _ _ x S' (relD_non.mpr rfl)
  | rt d st' => rw [e] at q; exact q
  | bk _ _ => rw [e] at q; exact q.elim
  | ct _ _ => rw [e] at q; exact q.elim
  | exc c fs st' => rw [e] at q; exact q
  | stuck => rw [e] at q; exact q.elim
/-- .. for a def that may raise -/
theorem funX {x qual : Str} {st : Stmt} {f : Addr} {fd : FuncData} {N ps : List Str} {k m n : Nat} {body : MS} (F : Fun K x qual st f fd) (S : FnScope N ps (defScope st)) (hm : N.length = m) (hn : ps.length = n)
    (h : ∀ (cdv : Value) (A : Around) (outer : List Env) (s : Shared) (H : Hp) (E : XK), Room k (A.deeper (envOfC qual (defScope st) s.heap.objs.size f cdv)) → A.guards = some [] →
      PSs (cxOf (L2.CX P w) P w K mg base N qual (defScope st) f cdv A outer s H E) (defBody st) (tS ⟨K, cl⟩ E body)) :
    FnG P w K mg base (L2.CX P w) (k + 1) f fd ps (spX ⟨K, cl⟩ n (fnD m n body)) := by
  obtain ⟨oc, od, kV, doc, pm, an, cdv, ct, osl, rfl, lk, hcd⟩ := F.ex
  have hpl : n ≤ N.length := by
    have := congrArg List.length S.pre
    rw [List.length_take] at this
    omega
  refine FnG.of_body lk hcd S (fun vs H Q E q => q.1.trans hn.symm) fun A outer s H vs Q E hr hg q => ?_
  refine ⟨_, h cdv A outer s H E hr hg, ?_⟩
  obtain ⟨hl, ad, ds, st0, S0, r, q⟩ := q
  refine ⟨ad, ds.map some ++ List.replicate (m - n) none, st0, S0, by rw [← hm]; exact relS_start r hl hpl, ?_⟩
  unfold fnD at q
  have hd : ds.length = n := r.length.trans hl
  rw [if_pos hd] at q
  cases e : body (ds.map some ++ List.replicate (m - n) none) st0 with
  | nx ds' st' => rw [e] at q; exact fun σ' H' ad' x S' _ => q _ _ _ x S' (relD_non.mpr rfl)
  | rt d st' => rw [e] at q; exact q
  | bk _ _ => rw [e] at q; exact q.elim
  | ct _ _ => rw [e] at q; exact q.elim
  | exc c fs st' => rw [e] at q; exact q
  | stuck => rw [e] at q; exact q.elim
end

/-! ### calls -/
section
variable {X : Cx} {cl : Str → Addr} {E : XK} {CX : CXT} {k n : Nat} {f C : Addr} {fd : FuncData} {ps : List Str} {sp : Sp} {x m : Str} {p pos apos : Pos} {e o : Expr} {es : List Expr} {me mo : M D} {mas : M (List D)}
/-- a callee runs -/
theorem run_fnG {EC : XK} {pins : List (Addr × Obj)} {σ : L2.St} {H : Hp} {s : Shared} {Q : VK} {us : List Value} {vs : List V} (F : FnG X.prog X.w X.K X.mg X.base CX k f fd ps sp) (hr : Room k X.A) (hg : X.A.guards = some []) (hb : Binds X.K fd ps []) (hx : Passes CX X EC)
    (I : Inv X pins σ H s) (r : Vals vs us) (h : sp vs H Q EC) : wpAny (model X.prog X.w) X.A (call (.ref f) us) (EP X pins σ Q) X.xe s := by
  have hl : us.length = ps.length := r.length.symm.trans (F.len _ _ _ _ h)
  have bnd := hb s us I.kIn (by simpa using hl)
  rw [List.append_nil] at bnd
  apply wpAny_call
  apply codeAny_mono (F.run X.A X.stack s H ⟨us, []⟩ us vs Q EC hr hg I.env0 bnd r h)
  intro res s' hq
  match res, hq with
  | .ok (.ret u), hq => exact I.after hq
  | .ok .next, hq => exact hq.elim
  | .ok .brk, hq => exact hq.elim
  | .ok .cont, hq => exact hq.elim
  | .error err, hq => exact hx pins σ H s err s' I hq
/-- f(e, ..), by the promise -/
theorem pe_callG {EC : XK} {t : TA} (F : FnG X.prog X.w X.K X.mg X.base CX k f fd ps sp) (hr : Room k X.A) (hg : X.A.guards = some []) (hm : X.mg x = some (.ref f)) (hk : PySem.W.keepIn X.K (.ref f) = true) (hb : Binds X.K fd ps []) (hx : Passes CX X EC) (ha : PA X (e :: es) t)
    (hgl : Gl X x := by rfl) (hdb : (x == ("__debug__" : Str)) = false := by decide) (he : starEach (e :: es) X.env = (false, eval e X.env) :: starEach es X.env := by rfl) (hpl : (backTo pos (starEach es X.env)).any (·.1) = false := by rfl) :
    PE X (.Call (.Name x p) (e :: es) [] pos) (fun σ H Q => t σ H fun vs H1 => sp vs H1 Q EC) := by
  constructor
  intro pins s σ H Q I h
  apply wpAny_Call_Name_kw
  apply ld_glob I hgl hm _ hdb
  apply PySem.W.callWith_K (h₀ := X.base) I.ok.mod.kin hk _ he hpl
  exact thn (ha.run pos pins s σ H _ I h) fun us s1 ⟨vs, H1, I1, r, q⟩ => ⟨I1.kIn, run_fnG F hr hg hb hx I1 r q⟩
/-- a call of a def that raises nothing -/
theorem me_call {Fn : List D → Store → R D} (F : FnG X.prog X.w X.K X.mg X.base CX0 k f fd ps (spN (gx X cl) n Fn)) (hr : Room k X.A) (hg : X.A.guards = some []) (hm : X.mg x = some (.ref f)) (hk : PySem.W.keepIn X.K (.ref f) = true) (hb : Binds X.K fd ps []) (ha : PA X (e :: es) (tA (gx X cl) E mas))
    (hgl : Gl X x := by rfl) (hdb : (x == ("__debug__" : Str)) = false := by decide) (he : starEach (e :: es) X.env = (false, eval e X.env) :: starEach es X.env := by rfl) (hpl : (backTo pos (starEach es X.env)).any (·.1) = false := by rfl) :
    PE X (.Call (.Name x p) (e :: es) [] pos) (tE (gx X cl) E (mCall (callN n Fn) mas)) :=
  tE.imp (pe_callG F hr hg hm hk hb pass0 ha hgl hdb he hpl) fun σ H Q ⟨ad, ds, st, S, r, h⟩ => by
    refine tA.go S r h fun xs st1 vs H1 ad1 e1 S1 r1 rx h1 => ?_
    unfold callN at h1
    split at h1
    · exact ⟨by rw [← rx.length]; assumption, ad1, xs, st1, S1, rx, Post.noX h1⟩
    · exact h1.elim
/-- .. that may raise; what it raises is let out -/
theorem me_callX {Fn : List D → Store → R D} (F : FnG X.prog X.w X.K X.mg X.base CX k f fd ps (spX (gx X cl) n Fn)) (hx : Passes CX X E) (hr : Room k X.A) (hg : X.A.guards = some []) (hm : X.mg x = some (.ref f)) (hk : PySem.W.keepIn X.K (.ref f) = true) (hb : Binds X.K fd ps []) (ha : PA X (e :: es) (tA (gx X cl) E mas))
    (hgl : Gl X x := by rfl) (hdb : (x == ("__debug__" : Str)) = false := by decide) (he : starEach (e :: es) X.env = (false, eval e X.env) :: starEach es X.env := by rfl) (hpl : (backTo pos (starEach es X.env)).any (·.1) = false := by rfl) :
    PE X (.Call (.Name x p) (e :: es) [] pos) (tE (gx X cl) E (mCall (callX n Fn) mas)) :=
  tE.imp (pe_callG F hr hg hm hk hb hx ha hgl hdb he hpl) fun σ H Q ⟨ad, ds, st, S, r, h⟩ => by
    refine tA.go S r h fun xs st1 vs H1 ad1 e1 S1 r1 rx h1 => ?_
    unfold callX at h1
    split at h1
    · exact ⟨by rw [← rx.length]; assumption, ad1, xs, st1, S1, rx, h1⟩
    · exact h1.elim
/-! ### built-in functions -/
theorem me_callB {id : String} {fb : List D → Store → R D} (hc : CallR X (.builtin id) (rC (gx X cl) E fb)) (hm : X.mg x = none) (hv : bootBuiltins x = some (.builtin id)) (ha : PA X (e :: es) (tA (gx X cl) E mas)) (hgl : Gl X x := by rfl) (hn : x ≠ "__name__" := by decide) (hdb : (x == ("__debug__" : Str)) = false := by decide)
    (he : starEach (e :: es) X.env = (false, eval e X.env) :: starEach es X.env := by rfl) (hpl : (backTo pos (starEach es X.env)).any (·.1) = false := by rfl) : PE X (.Call (.Name x p) (e :: es) [] pos) (tE (gx X cl) E (mCall fb mas)) :=
  tE.imp (pe_callB hc hgl hm hv ha hn hdb he hpl) fun σ H Q ⟨ad, ds, st, S, r, h⟩ => by
    refine tA.go S r h fun xs st1 vs H1 ad1 e1 S1 r1 rx h1 => ?_
    exact ⟨ad1, xs, st1, S1, rx, h1⟩
theorem me_callTy {T : String} {fb : List D → Store → R D} (hc : CallR X (.type T) (rC (gx X cl) E fb)) (hm : X.mg x = none) (hv : bootBuiltins x = some (.type T)) (ha : PA X (e :: es) (tA (gx X cl) E mas)) (hgl : Gl X x := by rfl) (hn : x ≠ "__name__" := by decide) (hdb : (x == ("__debug__" : Str)) = false := by decide)
    (he : starEach (e :: es) X.env = (false, eval e X.env) :: starEach es X.env := by rfl) (hpl : (backTo pos (starEach es X.env)).any (·.1) = false := by rfl) : PE X (.Call (.Name x p) (e :: es) [] pos) (tE (gx X cl) E (mCall fb mas)) :=
  tE.imp (pe_callTy hc hgl hm hv ha hn hdb he hpl) fun σ H Q ⟨ad, ds, st, S, r, h⟩ => by
    refine tA.go S r h fun xs st1 vs H1 ad1 e1 S1 r1 rx h1 => ?_
    exact ⟨ad1, xs, st1, S1, rx, h1⟩
end

/-! ### the law's end -/
theorem law_end {P : Program} {w : World} {K : PySem.W.Frag} {mg mb : Str → Option Value} {k : Nat} {fa a : Addr} {fd : FuncData} {x : Str} {sp : Sp} {s₁ : Shared} {vs : List Value} {ns : List Int}
    (KX : K.In s₁.heap) (hns : s₁.heap.Ns mainGlobals mg) (hb : s₁.heap.Ns builtinsNs mb) (hbb : ∀ x : Str, x ≠ "__name__" → mb x = bootBuiltins x) (hlim : s₁.heap.NoLimit) (hg : s₁.gens = #[])
    (ha : s₁.heap.get? a = some { cls := .type "list", data := .seq vs.toArray }) (hi : IntsAre vs ns) (hl : ns.length ≤ sizeLine) (hr : Room k callerA)
    (F : ∀ base : Heap, K.In base → base.Ns mainGlobals mg → FnG P w K mg base CX0 k fa fd [x] sp) (hbind : ∀ (s : Shared) (u : Value), BindsTo s fd ⟨[u], []⟩ [(x, u)])
    (hsp : ∀ H : Hp, Only H → SqR K H a (ns.map V.int) → sp [.ref a] H (fun v _ => v = .bl true) fun _ _ _ => False) :
    codeAny (model P w) callerA (.call (.ref fa) ⟨[.ref a], []⟩) (fun r s' => r = .ok (.ret (.bool true)) ∧ OldK s₁.heap s'.heap ∧ s'.os = s₁.os ∧ AllBare s'.gens) s₁ := by
  have rv := vals_ints hi
  have lenV := hi.length
  -- the abstract heap: the script alone, if it is not one of the module's own objects
  have core : ∀ H : Hp, Only H → SqR K H a (ns.map V.int) → HOk P w H s₁.heap → (∀ b, H b ≠ none → b = a) → (H a ≠ none → K.lookup a = none) →
      codeAny (model P w) callerA (.call (.ref fa) ⟨[.ref a], []⟩) (fun r s' => r = .ok (.ret (.bool true)) ∧ OldK s₁.heap s'.heap ∧ s'.os = s₁.os ∧ AllBare s'.gens) s₁ := by
    intro H only seq ok one notK
    have off : ∀ {b : Addr} {o : Obj}, H b ≠ none → s₁.heap.get? b = some o → o = { cls := .type "list", data := .seq vs.toArray } := by
      intro b o h1 h2
      rw [one b h1, ha] at h2
      exact (Option.some.inj h2).symm
    have stays : ∀ {b : Addr} {o : Obj}, s₁.heap.get? b = some o → (∀ n, o.data ≠ .seq vs.toArray n) → (hidT s₁.heap H).get? b = some o := by
      intro b o h1 h2
      apply hidT_get h1
      cases q : H b with
      | none => rfl
      | some u =>
        have := off (by rw [q]; simp) h1
        subst this
        exact (h2 _ rfl).elim
    have names : ∀ {b : Addr} {m : Str → Option Value}, s₁.heap.Ns b m → (hidT s₁.heap H).Ns b m := by
      rintro b m ⟨o, es, ep, h1, h2, h3⟩
      exact ⟨o, es, ep, stays h1 (fun n q => by rw [h2] at q; cases q), h2, h3⟩
    have kin : K.In (hidT s₁.heap H) := by
      intro b o h1
      apply hidT_get (KX b o h1)
      cases q : H b with
      | none => rfl
      | some u =>
        have hba := one b (by rw [q]; simp)
        subst hba
        rw [notK (by rw [q]; simp)] at h1
        cases h1
    obtain ⟨mc, l1, l2⟩ := hlim
    have e0 : Env0 P w K mg (hidT s₁.heap H) callerA [] s₁ H :=
      { frames := rfl
        mod := ⟨kin, names hns, ⟨mb, names hb, hbb⟩, ⟨mc, names l1, l2⟩⟩
        bs := fun b o q => of_hidT q
        bsz := Nat.le_of_eq (hidT_size _ _)
        funs := trivial
        frf := fun b hb => (nomatch hb)
        hok := ok
        bare := .of_eq hg }
    have run := (F _ kin (names hns)).run callerA [] s₁ H ⟨[.ref a], []⟩ [.ref a] [.ref a] _ _ hr rfl e0 (hbind s₁ (.ref a)) (.cons rfl .nil) (hsp H only seq)
    apply codeAny_mono run
    intro r s' h
    match r, h with
    | .error err, h => exact h.elim
    | .ok .next, h => exact h.elim
    | .ok .brk, h => exact h.elim
    | .ok .cont, h => exact h.elim
    | .ok (.ret u), h =>
      obtain ⟨v, H', os, bare, un, ok', rel, q⟩ := h
      have hv : v = .bl true := q
      subst hv
      have hu : u = Value.bool true := rel
      subst hu
      refine ⟨rfl, OldK.of_keep ?_, os, bare⟩
      intro b o hbo
      rcases only b with z | ⟨ob, xs, z⟩
      · exact un.keep b o hbo z (fun hm => (nomatch hm)) (fun hm => (nomatch hm))
      · have t1 := (ok b _ z).1
        have t2 := (ok' b _ (un.frzs b ob _ z)).1
        rw [hbo] at t1; cases t1
        exact t2
  have sz : (ns.map V.int).length ≤ sizeLine := by rw [List.length_map]; exact hl
  cases hk : K.lookup a with
  | some o =>
    have ho := KX a o hk
    rw [ha] at ho; cases ho
    apply core (fun _ => none) (fun _ => Or.inl rfl)
    · right
      exact ⟨_, vs.toArray, _, hk, rfl, rfl, rfl, by rw [List.size_toArray, lenV]; exact hl, by simpa using rv⟩
    · intro b u z; cases z
    · intro b z; exact absurd rfl z
    · intro z; exact absurd rfl z
  | none =>
    let H : Hp := fun b => if b = a then some (.frz { cls := .type "list", data := .seq vs.toArray } (.lst (ns.map V.int))) else none
    have Ha : H a = some (.frz { cls := .type "list", data := .seq vs.toArray } (.lst (ns.map V.int))) := if_pos rfl
    have Hn : ∀ b, b ≠ a → H b = none := fun b q => if_neg q
    apply core H
    · intro b
      by_cases q : b = a
      · right; rw [q]; exact ⟨_, _, Ha⟩
      · left; exact Hn b q
    · left; exact ⟨_, Ha⟩
    · intro b u z
      by_cases q : b = a
      · subst q
        rw [Ha] at z; cases z
        exact ⟨ha, sz, vs, _, rv, ha⟩
      · rw [Hn b q] at z; cases z
    · intro b z
      by_cases q : b = a
      · exact q
      · exact absurd (Hn b q) z
    · intro _; exact hk
/-- the goal that k_head leaves, from the promise of the law's def -/
theorem walkG {l : PySem.W.OpenLaw} {n k : Nat} {q : Program} {loose : List Str} {XP : (Str → Option Value) → Heap → Prop} {YP : World → Heap → Prop} {d : DefRec} {K : Params → PySem.W.Frag} {sp : World → Sp} {x : Str}
    (hn : l.most = some n) (hn2 : n ≤ sizeLine) (hdf : d.params.defaults = []) (hr : Room k callerA) (hY : ∀ (w : World) (h : Heap), YP w h → (K w.params).In h)
    (F : ∀ (w : World) (mg : Str → Option Value) (fa : Addr) (h : Heap), (K w.params).In h → h.Ns mainGlobals mg → mg d.name = some (.ref fa) →
      ∃ fd : FuncData, (∀ (s : Shared) (u : Value), BindsTo s fd ⟨[u], []⟩ [(x, u)]) ∧ ∀ base : Heap, (K w.params).In base → base.Ns mainGlobals mg → FnG l.prog w (K w.params) mg base CX0 k fa fd [x] (sp w))
    (hsp : ∀ (w : World) (H : Hp) (a : Addr) (ns : List Int), ns.length ≤ n → Only H → SqR (K w.params) H a (ns.map V.int) → sp w [.ref a] H (fun v _ => v = .bl true) fun _ _ _ => False) :
    PySem.W.WalkO q loose XP YP l.row.toRowW d [] (fun f vs => PySem.call f vs) := by
  apply Att.attach_call hn hdf
  intro w s₀ s₁ mg mb fa o pm cd doc a vs ns Gd Y ho hd hcd hmg hobj hints hlen hgen
  obtain ⟨fd, hbd, hF⟩ := F w mg fa _ (hY w _ Y) Gd.T.g hmg
  exact law_end (hY w _ Y) Gd.T.g Gd.T.b Gd.T.builtins Gd.T.nolimit hgen hobj hints (Nat.le_trans hlen hn2) hr hF hbd (fun H hO hS => hsp w H a ns hlen hO hS)
end Mp
end
section
set_option Elab.async false
set_option linter.all false
set_option maxRecDepth 100000
/-! Mp: a dict compared with a value of another kind. Printed by gendeq.py. -/
namespace Mp
open PySem PySem.SeqAt AutoSeq1 MeetsSeq MeetsSeq2 MeetsSeq3
def DictAt (h : Heap) (l : Addr) : Prop := ∃ dd es ep sl, h.get? l = some { cls := .type "dict", dict := dd, data := .dict es ep, slots := sl }
section
variable {A : Around} {s : Shared}

theorem dict_eq_declines {v : Value} {T : String} (hs : isSubtype (.type T) (.type "dict") = pure false) (l : Addr) (es : Array DictEntry) (ep : Nat) (dd : Option Addr) (sl : Array (Option Value)) :
    Meets (Builtin.«dict.__eq__» ⟨[.ref l, v], []⟩) (fun _ R s => (s.heap.get? l = some { cls := .type "dict", dict := dd, data := .dict es ep, slots := sl } ∧ s.TypeIs v T) ∧ R (.ok (.ret .notImplemented)) s) :=
  .of_wp fun prog w A R s h => by obtain ⟨hp, g, d, tk, os⟩ := s; obtain ⟨⟨hl, hT⟩, h⟩ := h; wp_walk using wpAny_isInstance hT hs, wpAny_loadPart' hl, wpAny_load hl; exact ⟨_, rfl, h⟩
theorem RcAt_dict_none {l : Addr} (hl : DictAt s.heap l) (hu : A.units < cLine) : RcAt A s (.ref l) .none false := fun prog w E Q h => by
  obtain ⟨dd, es, ep, sl, ho⟩ := hl
  exact rc_eq_decline_or (k := false) ⟨_, ho, rfl⟩ rfl (by decide) PySem.F.sub_NoneType_dict PySem.F.slot_dict_eq PySem.F.slot_NoneType_eq_refl
    (fun _ hq => call_meets PySem.F.slot_dict_eq ⟨_, ho, rfl⟩ PySem.F.entry_dict_eq (PySem.F.args_dict_eq_2 _ _) (dict_eq_declines PySem.F.sub_NoneType_dict l es ep dd sl) ⟨⟨ho, rfl⟩, hq⟩)
    (fun _ hq => call_gives PySem.F.slot_NoneType_eq_refl rfl PySem.F.entry_NoneType_eq (PySem.F.args_NoneType_eq_2 _ _) (NoneType___eq___none_ref_0 l) hq)
    (fun _ hq => wpAny_of_eq (rfl : isSame (.ref l) .none = pure false) hq) (.inr hu) h
theorem RcAt_none_dict {l : Addr} (hl : DictAt s.heap l) (hu : A.units < cLine) : RcAt A s .none (.ref l) false := fun prog w E Q h => by
  obtain ⟨dd, es, ep, sl, ho⟩ := hl
  exact rc_eq_decline_or (k := false) rfl ⟨_, ho, rfl⟩ (by decide) PySem.F.sub_dict_NoneType PySem.F.slot_NoneType_eq PySem.F.slot_dict_eq_refl
    (fun _ hq => call_gives PySem.F.slot_NoneType_eq rfl PySem.F.entry_NoneType_eq (PySem.F.args_NoneType_eq_2 _ _) (NoneType___eq___none_ref_0 l) hq)
    (fun _ hq => call_meets PySem.F.slot_dict_eq_refl ⟨_, ho, rfl⟩ PySem.F.entry_dict_eq (PySem.F.args_dict_eq_2 _ _) (dict_eq_declines PySem.F.sub_NoneType_dict l es ep dd sl) ⟨⟨ho, rfl⟩, hq⟩)
    (fun _ hq => wpAny_of_eq (rfl : isSame .none (.ref l) = pure false) hq) (.inr hu) h
theorem EqAt_dict_none {l : Addr} (hl : DictAt s.heap l) (hu : A.units < cLine) : EqAt A s (.ref l) .none false := fun prog w E Q h => by
  unfold eqBool
  refine wpAny_holding ?_
  refine wpAny_ite_split (fun hab => absurd (eq_of_beq hab) nofun) (fun _ => ?_)
  exact wpAny_bind (RcAt_dict_none  hl hu prog w E _ (wpAny_truthy_bool h))
theorem EqAt_none_dict {l : Addr} (hl : DictAt s.heap l) (hu : A.units < cLine) : EqAt A s .none (.ref l) false := fun prog w E Q h => by
  unfold eqBool
  refine wpAny_holding ?_
  refine wpAny_ite_split (fun hab => absurd (eq_of_beq hab) nofun) (fun _ => ?_)
  exact wpAny_bind (RcAt_none_dict  hl hu prog w E _ (wpAny_truthy_bool h))
theorem bool_eq_declines_dict (l : Addr) (es : Array DictEntry) (ep : Nat) (dd : Option Addr) (sl : Array (Option Value)) (b : Bool) :
    Meets (Builtin.«int.__eq__» ⟨[(.bool b), .ref l], []⟩) (fun _ R s => s.heap.get? l = some { cls := .type "dict", dict := dd, data := .dict es ep, slots := sl } ∧ R (.ok (.ret .notImplemented)) s) :=
  .of_wp fun prog w A R s h => by obtain ⟨hp, g, d, tk, os⟩ := s; obtain ⟨hl, h⟩ := h; wp_walk using wpAny_loadPart' hl, wpAny_load hl; exact ⟨_, rfl, h⟩
theorem RcAt_dict_bool {l : Addr} (b : Bool) (hl : DictAt s.heap l) (hu : A.units < cLine) : RcAt A s (.ref l) (.bool b) false := fun prog w E Q h => by
  obtain ⟨dd, es, ep, sl, ho⟩ := hl
  exact rc_eq_decline_or (k := false) ⟨_, ho, rfl⟩ (typeIs_bool s b) (by decide) PySem.F.sub_bool_dict PySem.F.slot_dict_eq PySem.F.slot_bool_eq_refl
    (fun _ hq => call_meets PySem.F.slot_dict_eq ⟨_, ho, rfl⟩ PySem.F.entry_dict_eq (PySem.F.args_dict_eq_2 _ _) (dict_eq_declines PySem.F.sub_bool_dict l es ep dd sl) ⟨⟨ho, (typeIs_bool s b)⟩, hq⟩)
    (fun _ hq => call_meets PySem.F.slot_bool_eq_refl (typeIs_bool s b) PySem.F.entry_int_eq (PySem.F.args_int_eq_2 _ _) (bool_eq_declines_dict l es ep dd sl b) ⟨ho, hq⟩)
    (fun _ hq => wpAny_of_eq (rfl : isSame (.ref l) (.bool b) = pure false) hq) (.inr hu) h
theorem RcAt_bool_dict {l : Addr} (b : Bool) (hl : DictAt s.heap l) (hu : A.units < cLine) : RcAt A s (.bool b) (.ref l) false := fun prog w E Q h => by
  obtain ⟨dd, es, ep, sl, ho⟩ := hl
  exact rc_eq_decline_or (k := false) (typeIs_bool s b) ⟨_, ho, rfl⟩ (by decide) PySem.F.sub_dict_bool PySem.F.slot_bool_eq PySem.F.slot_dict_eq_refl
    (fun _ hq => call_meets PySem.F.slot_bool_eq (typeIs_bool s b) PySem.F.entry_int_eq (PySem.F.args_int_eq_2 _ _) (bool_eq_declines_dict l es ep dd sl b) ⟨ho, hq⟩)
    (fun _ hq => call_meets PySem.F.slot_dict_eq_refl ⟨_, ho, rfl⟩ PySem.F.entry_dict_eq (PySem.F.args_dict_eq_2 _ _) (dict_eq_declines PySem.F.sub_bool_dict l es ep dd sl) ⟨⟨ho, (typeIs_bool s b)⟩, hq⟩)
    (fun _ hq => wpAny_of_eq (rfl : isSame (.bool b) (.ref l) = pure false) hq) (.inr hu) h
theorem EqAt_dict_bool {l : Addr} (b : Bool) (hl : DictAt s.heap l) (hu : A.units < cLine) : EqAt A s (.ref l) (.bool b) false := fun prog w E Q h => by
  unfold eqBool
  refine wpAny_holding ?_
  refine wpAny_ite_split (fun hab => absurd (eq_of_beq hab) nofun) (fun _ => ?_)
  exact wpAny_bind (RcAt_dict_bool b hl hu prog w E _ (wpAny_truthy_bool h))
theorem EqAt_bool_dict {l : Addr} (b : Bool) (hl : DictAt s.heap l) (hu : A.units < cLine) : EqAt A s (.bool b) (.ref l) false := fun prog w E Q h => by
  unfold eqBool
  refine wpAny_holding ?_
  refine wpAny_ite_split (fun hab => absurd (eq_of_beq hab) nofun) (fun _ => ?_)
  exact wpAny_bind (RcAt_bool_dict b hl hu prog w E _ (wpAny_truthy_bool h))
theorem int_eq_declines_dict (l : Addr) (es : Array DictEntry) (ep : Nat) (dd : Option Addr) (sl : Array (Option Value)) (b : Int) (u : Tok) :
    Meets (Builtin.«int.__eq__» ⟨[(.int b u), .ref l], []⟩) (fun _ R s => s.heap.get? l = some { cls := .type "dict", dict := dd, data := .dict es ep, slots := sl } ∧ R (.ok (.ret .notImplemented)) s) :=
  .of_wp fun prog w A R s h => by obtain ⟨hp, g, d, tk, os⟩ := s; obtain ⟨hl, h⟩ := h; wp_walk using wpAny_loadPart' hl, wpAny_load hl; exact ⟨_, rfl, h⟩
theorem RcAt_dict_int {l : Addr} (b : Int) (u : Tok) (hl : DictAt s.heap l) (hu : A.units < cLine) : RcAt A s (.ref l) (.int b u) false := fun prog w E Q h => by
  obtain ⟨dd, es, ep, sl, ho⟩ := hl
  exact rc_eq_decline_or (k := false) ⟨_, ho, rfl⟩ (typeIs_int s b u) (by decide) PySem.F.sub_int_dict PySem.F.slot_dict_eq PySem.F.slot_int_eq_refl
    (fun _ hq => call_meets PySem.F.slot_dict_eq ⟨_, ho, rfl⟩ PySem.F.entry_dict_eq (PySem.F.args_dict_eq_2 _ _) (dict_eq_declines PySem.F.sub_int_dict l es ep dd sl) ⟨⟨ho, (typeIs_int s b u)⟩, hq⟩)
    (fun _ hq => call_meets PySem.F.slot_int_eq_refl (typeIs_int s b u) PySem.F.entry_int_eq (PySem.F.args_int_eq_2 _ _) (int_eq_declines_dict l es ep dd sl b u) ⟨ho, hq⟩)
    (fun _ hq => wpAny_of_eq (rfl : isSame (.ref l) (.int b u) = pure false) hq) (.inr hu) h
theorem RcAt_int_dict {l : Addr} (b : Int) (u : Tok) (hl : DictAt s.heap l) (hu : A.units < cLine) : RcAt A s (.int b u) (.ref l) false := fun prog w E Q h => by
  obtain ⟨dd, es, ep, sl, ho⟩ := hl
  exact rc_eq_decline_or (k := false) (typeIs_int s b u) ⟨_, ho, rfl⟩ (by decide) PySem.F.sub_dict_int PySem.F.slot_int_eq PySem.F.slot_dict_eq_refl
    (fun _ hq => call_meets PySem.F.slot_int_eq (typeIs_int s b u) PySem.F.entry_int_eq (PySem.F.args_int_eq_2 _ _) (int_eq_declines_dict l es ep dd sl b u) ⟨ho, hq⟩)
    (fun _ hq => call_meets PySem.F.slot_dict_eq_refl ⟨_, ho, rfl⟩ PySem.F.entry_dict_eq (PySem.F.args_dict_eq_2 _ _) (dict_eq_declines PySem.F.sub_int_dict l es ep dd sl) ⟨⟨ho, (typeIs_int s b u)⟩, hq⟩)
    (fun _ hq => wpAny_of_eq (rfl : isSame (.int b u) (.ref l) = pure false) hq) (.inr hu) h
theorem EqAt_dict_int {l : Addr} (b : Int) (u : Tok) (hl : DictAt s.heap l) (hu : A.units < cLine) : EqAt A s (.ref l) (.int b u) false := fun prog w E Q h => by
  unfold eqBool
  refine wpAny_holding ?_
  refine wpAny_ite_split (fun hab => absurd (eq_of_beq hab) nofun) (fun _ => ?_)
  exact wpAny_bind (RcAt_dict_int b u hl hu prog w E _ (wpAny_truthy_bool h))
theorem EqAt_int_dict {l : Addr} (b : Int) (u : Tok) (hl : DictAt s.heap l) (hu : A.units < cLine) : EqAt A s (.int b u) (.ref l) false := fun prog w E Q h => by
  unfold eqBool
  refine wpAny_holding ?_
  refine wpAny_ite_split (fun hab => absurd (eq_of_beq hab) nofun) (fun _ => ?_)
  exact wpAny_bind (RcAt_int_dict b u hl hu prog w E _ (wpAny_truthy_bool h))
theorem str_eq_declines_dict (l : Addr) (es : Array DictEntry) (ep : Nat) (dd : Option Addr) (sl : Array (Option Value)) (b : Str) (u : Tok) :
    Meets (Builtin.«str.__eq__» ⟨[(.str b u), .ref l], []⟩) (fun _ R s => s.heap.get? l = some { cls := .type "dict", dict := dd, data := .dict es ep, slots := sl } ∧ R (.ok (.ret .notImplemented)) s) :=
  .of_wp fun prog w A R s h => by obtain ⟨hp, g, d, tk, os⟩ := s; obtain ⟨hl, h⟩ := h; wp_walk using wpAny_loadPart' hl, wpAny_load hl; exact ⟨_, rfl, h⟩
theorem RcAt_dict_str {l : Addr} (b : Str) (u : Tok) (hl : DictAt s.heap l) (hu : A.units < cLine) : RcAt A s (.ref l) (.str b u) false := fun prog w E Q h => by
  obtain ⟨dd, es, ep, sl, ho⟩ := hl
  exact rc_eq_decline_or (k := false) ⟨_, ho, rfl⟩ (typeIs_str s b u) (by decide) PySem.F.sub_str_dict PySem.F.slot_dict_eq PySem.F.slot_str_eq_refl
    (fun _ hq => call_meets PySem.F.slot_dict_eq ⟨_, ho, rfl⟩ PySem.F.entry_dict_eq (PySem.F.args_dict_eq_2 _ _) (dict_eq_declines PySem.F.sub_str_dict l es ep dd sl) ⟨⟨ho, (typeIs_str s b u)⟩, hq⟩)
    (fun _ hq => call_meets PySem.F.slot_str_eq_refl (typeIs_str s b u) PySem.F.entry_str_eq (PySem.F.args_str_eq_2 _ _) (str_eq_declines_dict l es ep dd sl b u) ⟨ho, hq⟩)
    (fun _ hq => wpAny_of_eq (rfl : isSame (.ref l) (.str b u) = pure false) hq) (.inr hu) h
theorem RcAt_str_dict {l : Addr} (b : Str) (u : Tok) (hl : DictAt s.heap l) (hu : A.units < cLine) : RcAt A s (.str b u) (.ref l) false := fun prog w E Q h => by
  obtain ⟨dd, es, ep, sl, ho⟩ := hl
  exact rc_eq_decline_or (k := false) (typeIs_str s b u) ⟨_, ho, rfl⟩ (by decide) PySem.F.sub_dict_str PySem.F.slot_str_eq PySem.F.slot_dict_eq_refl
    (fun _ hq => call_meets PySem.F.slot_str_eq (typeIs_str s b u) PySem.F.entry_str_eq (PySem.F.args_str_eq_2 _ _) (str_eq_declines_dict l es ep dd sl b u) ⟨ho, hq⟩)
    (fun _ hq => call_meets PySem.F.slot_dict_eq_refl ⟨_, ho, rfl⟩ PySem.F.entry_dict_eq (PySem.F.args_dict_eq_2 _ _) (dict_eq_declines PySem.F.sub_str_dict l es ep dd sl) ⟨⟨ho, (typeIs_str s b u)⟩, hq⟩)
    (fun _ hq => wpAny_of_eq (rfl : isSame (.str b u) (.ref l) = pure false) hq) (.inr hu) h
theorem EqAt_dict_str {l : Addr} (b : Str) (u : Tok) (hl : DictAt s.heap l) (hu : A.units < cLine) : EqAt A s (.ref l) (.str b u) false := fun prog w E Q h => by
  unfold eqBool
  refine wpAny_holding ?_
  refine wpAny_ite_split (fun hab => absurd (eq_of_beq hab) nofun) (fun _ => ?_)
  exact wpAny_bind (RcAt_dict_str b u hl hu prog w E _ (wpAny_truthy_bool h))
theorem EqAt_str_dict {l : Addr} (b : Str) (u : Tok) (hl : DictAt s.heap l) (hu : A.units < cLine) : EqAt A s (.str b u) (.ref l) false := fun prog w E Q h => by
  unfold eqBool
  refine wpAny_holding ?_
  refine wpAny_ite_split (fun hab => absurd (eq_of_beq hab) nofun) (fun _ => ?_)
  exact wpAny_bind (RcAt_str_dict b u hl hu prog w E _ (wpAny_truthy_bool h))
theorem list_eq_declines_dict (l : Addr) (es : Array DictEntry) (ep : Nat) (dd : Option Addr) (sl : Array (Option Value)) (m : Addr) (items : Array Value) (n : Nat) (dd2 : Option Addr) (sl2 : Array (Option Value)) :
    Meets (Builtin.«list.__eq__» ⟨[.ref m, .ref l], []⟩) (fun _ R s => (s.heap.get? l = some { cls := .type "dict", dict := dd, data := .dict es ep, slots := sl } ∧ s.heap.get? m = some { cls := .type "list", dict := dd2, data := .seq items n, slots := sl2 }) ∧ R (.ok (.ret .notImplemented)) s) :=
  .of_wp fun prog w A R s h => by obtain ⟨hp, g, d, tk, os⟩ := s; obtain ⟨⟨hl, hm⟩, h⟩ := h; have f1 := PySem.F.sub_dict_list; wp_walk using wpAny_loadPart' hm, wpAny_load hm, wpAny_loadPart' hl, wpAny_load hl; exact ⟨_, rfl, h⟩
theorem RcAt_dict_list {l m : Addr} {items : Array Value} (hl : DictAt s.heap l) (hm : s.heap.IsList m items) (hu : A.units < cLine) : RcAt A s (.ref l) (.ref m) false := fun prog w E Q h => by
  obtain ⟨dd, es, ep, sl, ho⟩ := hl
  obtain ⟨⟨cls, dd2, data, sl2⟩, hm, hc, n, hd⟩ := id hm
  simp only at hc hd
  subst hc hd
  have hne : l ≠ m := fun e => by rw [e, hm] at ho; simp at ho
  exact rc_eq_decline_or (k := false) ⟨_, ho, rfl⟩ ⟨_, hm, rfl⟩ (by decide) PySem.F.sub_list_dict PySem.F.slot_dict_eq PySem.F.slot_list_eq_refl
    (fun _ hq => call_meets PySem.F.slot_dict_eq ⟨_, ho, rfl⟩ PySem.F.entry_dict_eq (PySem.F.args_dict_eq_2 _ _) (dict_eq_declines PySem.F.sub_list_dict l es ep dd sl) ⟨⟨ho, ⟨_, hm, rfl⟩⟩, hq⟩)
    (fun _ hq => call_meets PySem.F.slot_list_eq_refl ⟨_, hm, rfl⟩ PySem.F.entry_list_eq (PySem.F.args_list_eq_2 _ _) (list_eq_declines_dict l es ep dd sl m items n dd2 sl2) ⟨⟨ho, hm⟩, hq⟩)
    (fun _ hq => wpAny_isSame_ref_other hne ho hm (by simp) hq) (.inr hu) h
theorem RcAt_list_dict {l m : Addr} {items : Array Value} (hl : DictAt s.heap l) (hm : s.heap.IsList m items) (hu : A.units < cLine) : RcAt A s (.ref m) (.ref l) false := fun prog w E Q h => by
  obtain ⟨dd, es, ep, sl, ho⟩ := hl
  obtain ⟨⟨cls, dd2, data, sl2⟩, hm, hc, n, hd⟩ := id hm
  simp only at hc hd
  subst hc hd
  have hne : m ≠ l := fun e => by rw [e, ho] at hm; simp at hm
  exact rc_eq_decline_or (k := false) ⟨_, hm, rfl⟩ ⟨_, ho, rfl⟩ (by decide) PySem.F.sub_dict_list PySem.F.slot_list_eq PySem.F.slot_dict_eq_refl
    (fun _ hq => call_meets PySem.F.slot_list_eq ⟨_, hm, rfl⟩ PySem.F.entry_list_eq (PySem.F.args_list_eq_2 _ _) (list_eq_declines_dict l es ep dd sl m items n dd2 sl2) ⟨⟨ho, hm⟩, hq⟩)
    (fun _ hq => call_meets PySem.F.slot_dict_eq_refl ⟨_, ho, rfl⟩ PySem.F.entry_dict_eq (PySem.F.args_dict_eq_2 _ _) (dict_eq_declines PySem.F.sub_list_dict l es ep dd sl) ⟨⟨ho, ⟨_, hm, rfl⟩⟩, hq⟩)
    (fun _ hq => wpAny_isSame_ref_other hne hm ho (by simp) hq) (.inr hu) h
theorem EqAt_dict_list {l m : Addr} {items : Array Value} (hl : DictAt s.heap l) (hm : s.heap.IsList m items) (hu : A.units < cLine) : EqAt A s (.ref l) (.ref m) false := fun prog w E Q h => by
  obtain ⟨dd, es, ep, sl, ho⟩ := id hl
  obtain ⟨ob, hob, hc, _⟩ := id hm
  have hne : l ≠ m := fun e => by
    rw [e, hob] at ho
    have := congrArg Obj.cls (Option.some.inj ho)
    rw [hc] at this
    simp at this
  exact EqAt.of_refs hne (RcAt_dict_list hl hm hu) prog w E Q h
theorem EqAt_list_dict {l m : Addr} {items : Array Value} (hl : DictAt s.heap l) (hm : s.heap.IsList m items) (hu : A.units < cLine) : EqAt A s (.ref m) (.ref l) false := fun prog w E Q h => by
  obtain ⟨dd, es, ep, sl, ho⟩ := id hl
  obtain ⟨ob, hob, hc, _⟩ := id hm
  have hne : l ≠ m := fun e => by
    rw [e, hob] at ho
    have := congrArg Obj.cls (Option.some.inj ho)
    rw [hc] at this
    simp at this
  exact EqAt.of_refs hne.symm (RcAt_list_dict hl hm hu) prog w E Q h
theorem tuple_eq_declines_dict (l : Addr) (es : Array DictEntry) (ep : Nat) (dd : Option Addr) (sl : Array (Option Value)) (m : Addr) (items : Array Value) (n : Nat) (dd2 : Option Addr) (sl2 : Array (Option Value)) :
    Meets (Builtin.«tuple.__eq__» ⟨[.ref m, .ref l], []⟩) (fun _ R s => (s.heap.get? l = some { cls := .type "dict", dict := dd, data := .dict es ep, slots := sl } ∧ s.heap.get? m = some { cls := .type "tuple", dict := dd2, data := .seq items n, slots := sl2 }) ∧ R (.ok (.ret .notImplemented)) s) :=
  .of_wp fun prog w A R s h => by obtain ⟨hp, g, d, tk, os⟩ := s; obtain ⟨⟨hl, hm⟩, h⟩ := h; have f1 := PySem.F.sub_dict_tuple; wp_walk using wpAny_loadPart' hm, wpAny_load hm, wpAny_loadPart' hl, wpAny_load hl; exact ⟨_, rfl, h⟩
theorem RcAt_dict_tuple {l m : Addr} {items : Array Value} (hl : DictAt s.heap l) (hm : s.heap.IsTuple m items) (hu : A.units < cLine) : RcAt A s (.ref l) (.ref m) false := fun prog w E Q h => by
  obtain ⟨dd, es, ep, sl, ho⟩ := hl
  obtain ⟨⟨cls, dd2, data, sl2⟩, hm, hc, n, hd⟩ := id hm
  simp only at hc hd
  subst hc hd
  have hne : l ≠ m := fun e => by rw [e, hm] at ho; simp at ho
  exact rc_eq_decline_or (k := false) ⟨_, ho, rfl⟩ ⟨_, hm, rfl⟩ (by decide) PySem.F.sub_tuple_dict PySem.F.slot_dict_eq PySem.F.slot_tuple_eq_refl
    (fun _ hq => call_meets PySem.F.slot_dict_eq ⟨_, ho, rfl⟩ PySem.F.entry_dict_eq (PySem.F.args_dict_eq_2 _ _) (dict_eq_declines PySem.F.sub_tuple_dict l es ep dd sl) ⟨⟨ho, ⟨_, hm, rfl⟩⟩, hq⟩)
    (fun _ hq => call_meets PySem.F.slot_tuple_eq_refl ⟨_, hm, rfl⟩ PySem.F.entry_tuple_eq (PySem.F.args_tuple_eq_2 _ _) (tuple_eq_declines_dict l es ep dd sl m items n dd2 sl2) ⟨⟨ho, hm⟩, hq⟩)
    (fun _ hq => wpAny_isSame_ref_other hne ho hm (by simp) hq) (.inr hu) h
theorem RcAt_tuple_dict {l m : Addr} {items : Array Value} (hl : DictAt s.heap l) (hm : s.heap.IsTuple m items) (hu : A.units < cLine) : RcAt A s (.ref m) (.ref l) false := fun prog w E Q h => by
  obtain ⟨dd, es, ep, sl, ho⟩ := hl
  obtain ⟨⟨cls, dd2, data, sl2⟩, hm, hc, n, hd⟩ := id hm
  simp only at hc hd
  subst hc hd
  have hne : m ≠ l := fun e => by rw [e, ho] at hm; simp at hm
  exact rc_eq_decline_or (k := false) ⟨_, hm, rfl⟩ ⟨_, ho, rfl⟩ (by decide) PySem.F.sub_dict_tuple PySem.F.slot_tuple_eq PySem.F.slot_dict_eq_refl
    (fun _ hq => call_meets PySem.F.slot_tuple_eq ⟨_, hm, rfl⟩ PySem.F.entry_tuple_eq (PySem.F.args_tuple_eq_2 _ _) (tuple_eq_declines_dict l es ep dd sl m items n dd2 sl2) ⟨⟨ho, hm⟩, hq⟩)
    (fun _ hq => call_meets PySem.F.slot_dict_eq_refl ⟨_, ho, rfl⟩ PySem.F.entry_dict_eq (PySem.F.args_dict_eq_2 _ _) (dict_eq_declines PySem.F.sub_tuple_dict l es ep dd sl) ⟨⟨ho, ⟨_, hm, rfl⟩⟩, hq⟩)
    (fun _ hq => wpAny_isSame_ref_other' hne hm ho (by simp) hq) (.inr hu) h
theorem EqAt_dict_tuple {l m : Addr} {items : Array Value} (hl : DictAt s.heap l) (hm : s.heap.IsTuple m items) (hu : A.units < cLine) : EqAt A s (.ref l) (.ref m) false := fun prog w E Q h => by
  obtain ⟨dd, es, ep, sl, ho⟩ := id hl
  obtain ⟨ob, hob, hc, _⟩ := id hm
  have hne : l ≠ m := fun e => by
    rw [e, hob] at ho
    have := congrArg Obj.cls (Option.some.inj ho)
    rw [hc] at this
    simp at this
  exact EqAt.of_refs hne (RcAt_dict_tuple hl hm hu) prog w E Q h
theorem EqAt_tuple_dict {l m : Addr} {items : Array Value} (hl : DictAt s.heap l) (hm : s.heap.IsTuple m items) (hu : A.units < cLine) : EqAt A s (.ref m) (.ref l) false := fun prog w E Q h => by
  obtain ⟨dd, es, ep, sl, ho⟩ := id hl
  obtain ⟨ob, hob, hc, _⟩ := id hm
  have hne : l ≠ m := fun e => by
    rw [e, hob] at ho
    have := congrArg Obj.cls (Option.some.inj ho)
    rw [hc] at this
    simp at this
  exact EqAt.of_refs hne.symm (RcAt_tuple_dict hl hm hu) prog w E Q h
theorem dict_ne_declines {v : Value} {T : String} (hs : isSubtype (.type T) (.type "dict") = pure false) (l : Addr) (es : Array DictEntry) (ep : Nat) (dd : Option Addr) (sl : Array (Option Value)) :
    Meets (Builtin.«dict.__ne__» ⟨[.ref l, v], []⟩) (fun _ R s => (s.heap.get? l = some { cls := .type "dict", dict := dd, data := .dict es ep, slots := sl } ∧ s.TypeIs v T) ∧ R (.ok (.ret .notImplemented)) s) :=
  .of_wp fun prog w A R s h => by obtain ⟨hp, g, d, tk, os⟩ := s; obtain ⟨⟨hl, hT⟩, h⟩ := h; wp_walk using wpAny_isInstance hT hs, wpAny_loadPart' hl, wpAny_load hl; exact ⟨_, rfl, h⟩
theorem RcNeAt_dict_none {l : Addr} (hl : DictAt s.heap l) (hu : A.units < cLine) : RcNeAt A s (.ref l) .none true := fun prog w E Q h => by
  obtain ⟨dd, es, ep, sl, ho⟩ := hl
  exact rc_ne_decline_or (k := false) ⟨_, ho, rfl⟩ rfl (by decide) PySem.F.sub_NoneType_dict PySem.F.slot_dict_ne PySem.F.slot_NoneType_ne_refl
    (fun _ hq => call_meets PySem.F.slot_dict_ne ⟨_, ho, rfl⟩ PySem.F.entry_dict_ne (PySem.F.args_dict_ne_2 _ _) (dict_ne_declines PySem.F.sub_NoneType_dict l es ep dd sl) ⟨⟨ho, rfl⟩, hq⟩)
    (fun _ hq => call_gives PySem.F.slot_NoneType_ne_refl rfl PySem.F.entry_NoneType_ne (PySem.F.args_NoneType_ne_2 _ _) (NoneType___ne___none_ref_0 l) hq)
    (fun _ hq => wpAny_of_eq (rfl : isSame (.ref l) .none = pure false) hq) (.inr hu) h
theorem RcNeAt_none_dict {l : Addr} (hl : DictAt s.heap l) (hu : A.units < cLine) : RcNeAt A s .none (.ref l) true := fun prog w E Q h => by
  obtain ⟨dd, es, ep, sl, ho⟩ := hl
  exact rc_ne_decline_or (k := false) rfl ⟨_, ho, rfl⟩ (by decide) PySem.F.sub_dict_NoneType PySem.F.slot_NoneType_ne PySem.F.slot_dict_ne_refl
    (fun _ hq => call_gives PySem.F.slot_NoneType_ne rfl PySem.F.entry_NoneType_ne (PySem.F.args_NoneType_ne_2 _ _) (NoneType___ne___none_ref_0 l) hq)
    (fun _ hq => call_meets PySem.F.slot_dict_ne_refl ⟨_, ho, rfl⟩ PySem.F.entry_dict_ne (PySem.F.args_dict_ne_2 _ _) (dict_ne_declines PySem.F.sub_NoneType_dict l es ep dd sl) ⟨⟨ho, rfl⟩, hq⟩)
    (fun _ hq => wpAny_of_eq (rfl : isSame .none (.ref l) = pure false) hq) (.inr hu) h
theorem bool_ne_declines_dict (l : Addr) (es : Array DictEntry) (ep : Nat) (dd : Option Addr) (sl : Array (Option Value)) (b : Bool) :
    Meets (Builtin.«int.__ne__» ⟨[(.bool b), .ref l], []⟩) (fun _ R s => s.heap.get? l = some { cls := .type "dict", dict := dd, data := .dict es ep, slots := sl } ∧ R (.ok (.ret .notImplemented)) s) :=
  .of_wp fun prog w A R s h => by obtain ⟨hp, g, d, tk, os⟩ := s; obtain ⟨hl, h⟩ := h; wp_walk using wpAny_loadPart' hl, wpAny_load hl; exact ⟨_, rfl, h⟩
theorem RcNeAt_dict_bool {l : Addr} (b : Bool) (hl : DictAt s.heap l) (hu : A.units < cLine) : RcNeAt A s (.ref l) (.bool b) true := fun prog w E Q h => by
  obtain ⟨dd, es, ep, sl, ho⟩ := hl
  exact rc_ne_decline_or (k := false) ⟨_, ho, rfl⟩ (typeIs_bool s b) (by decide) PySem.F.sub_bool_dict PySem.F.slot_dict_ne PySem.F.slot_bool_ne_refl
    (fun _ hq => call_meets PySem.F.slot_dict_ne ⟨_, ho, rfl⟩ PySem.F.entry_dict_ne (PySem.F.args_dict_ne_2 _ _) (dict_ne_declines PySem.F.sub_bool_dict l es ep dd sl) ⟨⟨ho, (typeIs_bool s b)⟩, hq⟩)
    (fun _ hq => call_meets PySem.F.slot_bool_ne_refl (typeIs_bool s b) PySem.F.entry_int_ne (PySem.F.args_int_ne_2 _ _) (bool_ne_declines_dict l es ep dd sl b) ⟨ho, hq⟩)
    (fun _ hq => wpAny_of_eq (rfl : isSame (.ref l) (.bool b) = pure false) hq) (.inr hu) h
theorem RcNeAt_bool_dict {l : Addr} (b : Bool) (hl : DictAt s.heap l) (hu : A.units < cLine) : RcNeAt A s (.bool b) (.ref l) true := fun prog w E Q h => by
  obtain ⟨dd, es, ep, sl, ho⟩ := hl
  exact rc_ne_decline_or (k := false) (typeIs_bool s b) ⟨_, ho, rfl⟩ (by decide) PySem.F.sub_dict_bool PySem.F.slot_bool_ne PySem.F.slot_dict_ne_refl
    (fun _ hq => call_meets PySem.F.slot_bool_ne (typeIs_bool s b) PySem.F.entry_int_ne (PySem.F.args_int_ne_2 _ _) (bool_ne_declines_dict l es ep dd sl b) ⟨ho, hq⟩)
    (fun _ hq => call_meets PySem.F.slot_dict_ne_refl ⟨_, ho, rfl⟩ PySem.F.entry_dict_ne (PySem.F.args_dict_ne_2 _ _) (dict_ne_declines PySem.F.sub_bool_dict l es ep dd sl) ⟨⟨ho, (typeIs_bool s b)⟩, hq⟩)
    (fun _ hq => wpAny_of_eq (rfl : isSame (.bool b) (.ref l) = pure false) hq) (.inr hu) h
theorem int_ne_declines_dict (l : Addr) (es : Array DictEntry) (ep : Nat) (dd : Option Addr) (sl : Array (Option Value)) (b : Int) (u : Tok) :
    Meets (Builtin.«int.__ne__» ⟨[(.int b u), .ref l], []⟩) (fun _ R s => s.heap.get? l = some { cls := .type "dict", dict := dd, data := .dict es ep, slots := sl } ∧ R (.ok (.ret .notImplemented)) s) :=
  .of_wp fun prog w A R s h => by obtain ⟨hp, g, d, tk, os⟩ := s; obtain ⟨hl, h⟩ := h; wp_walk using wpAny_loadPart' hl, wpAny_load hl; exact ⟨_, rfl, h⟩
theorem RcNeAt_dict_int {l : Addr} (b : Int) (u : Tok) (hl : DictAt s.heap l) (hu : A.units < cLine) : RcNeAt A s (.ref l) (.int b u) true := fun prog w E Q h => by
  obtain ⟨dd, es, ep, sl, ho⟩ := hl
  exact rc_ne_decline_or (k := false) ⟨_, ho, rfl⟩ (typeIs_int s b u) (by decide) PySem.F.sub_int_dict PySem.F.slot_dict_ne PySem.F.slot_int_ne_refl
    (fun _ hq => call_meets PySem.F.slot_dict_ne ⟨_, ho, rfl⟩ PySem.F.entry_dict_ne (PySem.F.args_dict_ne_2 _ _) (dict_ne_declines PySem.F.sub_int_dict l es ep dd sl) ⟨⟨ho, (typeIs_int s b u)⟩, hq⟩)
    (fun _ hq => call_meets PySem.F.slot_int_ne_refl (typeIs_int s b u) PySem.F.entry_int_ne (PySem.F.args_int_ne_2 _ _) (int_ne_declines_dict l es ep dd sl b u) ⟨ho, hq⟩)
    (fun _ hq => wpAny_of_eq (rfl : isSame (.ref l) (.int b u) = pure false) hq) (.inr hu) h
theorem RcNeAt_int_dict {l : Addr} (b : Int) (u : Tok) (hl : DictAt s.heap l) (hu : A.units < cLine) : RcNeAt A s (.int b u) (.ref l) true := fun prog w E Q h => by
  obtain ⟨dd, es, ep, sl, ho⟩ := hl
  exact rc_ne_decline_or (k := false) (typeIs_int s b u) ⟨_, ho, rfl⟩ (by decide) PySem.F.sub_dict_int PySem.F.slot_int_ne PySem.F.slot_dict_ne_refl
    (fun _ hq => call_meets PySem.F.slot_int_ne (typeIs_int s b u) PySem.F.entry_int_ne (PySem.F.args_int_ne_2 _ _) (int_ne_declines_dict l es ep dd sl b u) ⟨ho, hq⟩)
    (fun _ hq => call_meets PySem.F.slot_dict_ne_refl ⟨_, ho, rfl⟩ PySem.F.entry_dict_ne (PySem.F.args_dict_ne_2 _ _) (dict_ne_declines PySem.F.sub_int_dict l es ep dd sl) ⟨⟨ho, (typeIs_int s b u)⟩, hq⟩)
    (fun _ hq => wpAny_of_eq (rfl : isSame (.int b u) (.ref l) = pure false) hq) (.inr hu) h
theorem str_ne_declines_dict (l : Addr) (es : Array DictEntry) (ep : Nat) (dd : Option Addr) (sl : Array (Option Value)) (b : Str) (u : Tok) :
    Meets (Builtin.«str.__ne__» ⟨[(.str b u), .ref l], []⟩) (fun _ R s => s.heap.get? l = some { cls := .type "dict", dict := dd, data := .dict es ep, slots := sl } ∧ R (.ok (.ret .notImplemented)) s) :=
  .of_wp fun prog w A R s h => by obtain ⟨hp, g, d, tk, os⟩ := s; obtain ⟨hl, h⟩ := h; wp_walk using wpAny_loadPart' hl, wpAny_load hl; exact ⟨_, rfl, h⟩
theorem RcNeAt_dict_str {l : Addr} (b : Str) (u : Tok) (hl : DictAt s.heap l) (hu : A.units < cLine) : RcNeAt A s (.ref l) (.str b u) true := fun prog w E Q h => by
  obtain ⟨dd, es, ep, sl, ho⟩ := hl
  exact rc_ne_decline_or (k := false) ⟨_, ho, rfl⟩ (typeIs_str s b u) (by decide) PySem.F.sub_str_dict PySem.F.slot_dict_ne PySem.F.slot_str_ne_refl
    (fun _ hq => call_meets PySem.F.slot_dict_ne ⟨_, ho, rfl⟩ PySem.F.entry_dict_ne (PySem.F.args_dict_ne_2 _ _) (dict_ne_declines PySem.F.sub_str_dict l es ep dd sl) ⟨⟨ho, (typeIs_str s b u)⟩, hq⟩)
    (fun _ hq => call_meets PySem.F.slot_str_ne_refl (typeIs_str s b u) PySem.F.entry_str_ne (PySem.F.args_str_ne_2 _ _) (str_ne_declines_dict l es ep dd sl b u) ⟨ho, hq⟩)
    (fun _ hq => wpAny_of_eq (rfl : isSame (.ref l) (.str b u) = pure false) hq) (.inr hu) h
theorem RcNeAt_str_dict {l : Addr} (b : Str) (u : Tok) (hl : DictAt s.heap l) (hu : A.units < cLine) : RcNeAt A s (.str b u) (.ref l) true := fun prog w E Q h => by
  obtain ⟨dd, es, ep, sl, ho⟩ := hl
  exact rc_ne_decline_or (k := false) (typeIs_str s b u) ⟨_, ho, rfl⟩ (by decide) PySem.F.sub_dict_str PySem.F.slot_str_ne PySem.F.slot_dict_ne_refl
    (fun _ hq => call_meets PySem.F.slot_str_ne (typeIs_str s b u) PySem.F.entry_str_ne (PySem.F.args_str_ne_2 _ _) (str_ne_declines_dict l es ep dd sl b u) ⟨ho, hq⟩)
    (fun _ hq => call_meets PySem.F.slot_dict_ne_refl ⟨_, ho, rfl⟩ PySem.F.entry_dict_ne (PySem.F.args_dict_ne_2 _ _) (dict_ne_declines PySem.F.sub_str_dict l es ep dd sl) ⟨⟨ho, (typeIs_str s b u)⟩, hq⟩)
    (fun _ hq => wpAny_of_eq (rfl : isSame (.str b u) (.ref l) = pure false) hq) (.inr hu) h
theorem list_ne_declines_dict (l : Addr) (es : Array DictEntry) (ep : Nat) (dd : Option Addr) (sl : Array (Option Value)) (m : Addr) (items : Array Value) (n : Nat) (dd2 : Option Addr) (sl2 : Array (Option Value)) :
    Meets (Builtin.«list.__ne__» ⟨[.ref m, .ref l], []⟩) (fun _ R s => (s.heap.get? l = some { cls := .type "dict", dict := dd, data := .dict es ep, slots := sl } ∧ s.heap.get? m = some { cls := .type "list", dict := dd2, data := .seq items n, slots := sl2 }) ∧ R (.ok (.ret .notImplemented)) s) :=
  .of_wp fun prog w A R s h => by obtain ⟨hp, g, d, tk, os⟩ := s; obtain ⟨⟨hl, hm⟩, h⟩ := h; have f1 := PySem.F.sub_dict_list; wp_walk using wpAny_loadPart' hm, wpAny_load hm, wpAny_loadPart' hl, wpAny_load hl; exact ⟨_, rfl, h⟩
theorem RcNeAt_dict_list {l m : Addr} {items : Array Value} (hl : DictAt s.heap l) (hm : s.heap.IsList m items) (hu : A.units < cLine) : RcNeAt A s (.ref l) (.ref m) true := fun prog w E Q h => by
  obtain ⟨dd, es, ep, sl, ho⟩ := hl
  obtain ⟨⟨cls, dd2, data, sl2⟩, hm, hc, n, hd⟩ := id hm
  simp only at hc hd
  subst hc hd
  have hne : l ≠ m := fun e => by rw [e, hm] at ho; simp at ho
  exact rc_ne_decline_or (k := false) ⟨_, ho, rfl⟩ ⟨_, hm, rfl⟩ (by decide) PySem.F.sub_list_dict PySem.F.slot_dict_ne PySem.F.slot_list_ne_refl
    (fun _ hq => call_meets PySem.F.slot_dict_ne ⟨_, ho, rfl⟩ PySem.F.entry_dict_ne (PySem.F.args_dict_ne_2 _ _) (dict_ne_declines PySem.F.sub_list_dict l es ep dd sl) ⟨⟨ho, ⟨_, hm, rfl⟩⟩, hq⟩)
    (fun _ hq => call_meets PySem.F.slot_list_ne_refl ⟨_, hm, rfl⟩ PySem.F.entry_list_ne (PySem.F.args_list_ne_2 _ _) (list_ne_declines_dict l es ep dd sl m items n dd2 sl2) ⟨⟨ho, hm⟩, hq⟩)
    (fun _ hq => wpAny_isSame_ref_other hne ho hm (by simp) hq) (.inr hu) h
theorem RcNeAt_list_dict {l m : Addr} {items : Array Value} (hl : DictAt s.heap l) (hm : s.heap.IsList m items) (hu : A.units < cLine) : RcNeAt A s (.ref m) (.ref l) true := fun prog w E Q h => by
  obtain ⟨dd, es, ep, sl, ho⟩ := hl
  obtain ⟨⟨cls, dd2, data, sl2⟩, hm, hc, n, hd⟩ := id hm
  simp only at hc hd
  subst hc hd
  have hne : m ≠ l := fun e => by rw [e, ho] at hm; simp at hm
  exact rc_ne_decline_or (k := false) ⟨_, hm, rfl⟩ ⟨_, ho, rfl⟩ (by decide) PySem.F.sub_dict_list PySem.F.slot_list_ne PySem.F.slot_dict_ne_refl
    (fun _ hq => call_meets PySem.F.slot_list_ne ⟨_, hm, rfl⟩ PySem.F.entry_list_ne (PySem.F.args_list_ne_2 _ _) (list_ne_declines_dict l es ep dd sl m items n dd2 sl2) ⟨⟨ho, hm⟩, hq⟩)
    (fun _ hq => call_meets PySem.F.slot_dict_ne_refl ⟨_, ho, rfl⟩ PySem.F.entry_dict_ne (PySem.F.args_dict_ne_2 _ _) (dict_ne_declines PySem.F.sub_list_dict l es ep dd sl) ⟨⟨ho, ⟨_, hm, rfl⟩⟩, hq⟩)
    (fun _ hq => wpAny_isSame_ref_other hne hm ho (by simp) hq) (.inr hu) h
theorem tuple_ne_declines_dict (l : Addr) (es : Array DictEntry) (ep : Nat) (dd : Option Addr) (sl : Array (Option Value)) (m : Addr) (items : Array Value) (n : Nat) (dd2 : Option Addr) (sl2 : Array (Option Value)) :
    Meets (Builtin.«tuple.__ne__» ⟨[.ref m, .ref l], []⟩) (fun _ R s => (s.heap.get? l = some { cls := .type "dict", dict := dd, data := .dict es ep, slots := sl } ∧ s.heap.get? m = some { cls := .type "tuple", dict := dd2, data := .seq items n, slots := sl2 }) ∧ R (.ok (.ret .notImplemented)) s) :=
  .of_wp fun prog w A R s h => by obtain ⟨hp, g, d, tk, os⟩ := s; obtain ⟨⟨hl, hm⟩, h⟩ := h; have f1 := PySem.F.sub_dict_tuple; wp_walk using wpAny_loadPart' hm, wpAny_load hm, wpAny_loadPart' hl, wpAny_load hl; exact ⟨_, rfl, h⟩
theorem RcNeAt_dict_tuple {l m : Addr} {items : Array Value} (hl : DictAt s.heap l) (hm : s.heap.IsTuple m items) (hu : A.units < cLine) : RcNeAt A s (.ref l) (.ref m) true := fun prog w E Q h => by
  obtain ⟨dd, es, ep, sl, ho⟩ := hl
  obtain ⟨⟨cls, dd2, data, sl2⟩, hm, hc, n, hd⟩ := id hm
  simp only at hc hd
  subst hc hd
  have hne : l ≠ m := fun e => by rw [e, hm] at ho; simp at ho
  exact rc_ne_decline_or (k := false) ⟨_, ho, rfl⟩ ⟨_, hm, rfl⟩ (by decide) PySem.F.sub_tuple_dict PySem.F.slot_dict_ne PySem.F.slot_tuple_ne_refl
    (fun _ hq => call_meets PySem.F.slot_dict_ne ⟨_, ho, rfl⟩ PySem.F.entry_dict_ne (PySem.F.args_dict_ne_2 _ _) (dict_ne_declines PySem.F.sub_tuple_dict l es ep dd sl) ⟨⟨ho, ⟨_, hm, rfl⟩⟩, hq⟩)
    (fun _ hq => call_meets PySem.F.slot_tuple_ne_refl ⟨_, hm, rfl⟩ PySem.F.entry_tuple_ne (PySem.F.args_tuple_ne_2 _ _) (tuple_ne_declines_dict l es ep dd sl m items n dd2 sl2) ⟨⟨ho, hm⟩, hq⟩)
    (fun _ hq => wpAny_isSame_ref_other hne ho hm (by simp) hq) (.inr hu) h
theorem RcNeAt_tuple_dict {l m : Addr} {items : Array Value} (hl : DictAt s.heap l) (hm : s.heap.IsTuple m items) (hu : A.units < cLine) : RcNeAt A s (.ref m) (.ref l) true := fun prog w E Q h => by
  obtain ⟨dd, es, ep, sl, ho⟩ := hl
  obtain ⟨⟨cls, dd2, data, sl2⟩, hm, hc, n, hd⟩ := id hm
  simp only at hc hd
  subst hc hd
  have hne : m ≠ l := fun e => by rw [e, ho] at hm; simp at hm
  exact rc_ne_decline_or (k := false) ⟨_, hm, rfl⟩ ⟨_, ho, rfl⟩ (by decide) PySem.F.sub_dict_tuple PySem.F.slot_tuple_ne PySem.F.slot_dict_ne_refl
    (fun _ hq => call_meets PySem.F.slot_tuple_ne ⟨_, hm, rfl⟩ PySem.F.entry_tuple_ne (PySem.F.args_tuple_ne_2 _ _) (tuple_ne_declines_dict l es ep dd sl m items n dd2 sl2) ⟨⟨ho, hm⟩, hq⟩)
    (fun _ hq => call_meets PySem.F.slot_dict_ne_refl ⟨_, ho, rfl⟩ PySem.F.entry_dict_ne (PySem.F.args_dict_ne_2 _ _) (dict_ne_declines PySem.F.sub_tuple_dict l es ep dd sl) ⟨⟨ho, ⟨_, hm, rfl⟩⟩, hq⟩)
    (fun _ hq => wpAny_isSame_ref_other' hne hm ho (by simp) hq) (.inr hu) h
end
end Mp
end
section
set_option Elab.async false
set_option linter.all false
set_option maxRecDepth 100000
set_option maxHeartbeats 2000000
/-! Mp: == and != of data at any depth, in and not in. -/
namespace Mp
open PySem PySem.Spec PyProof.Rows L2

/-- the items' answers together: False at another length -/
def eqL (eq : D → D → Option Bool) : List D → List D → Option Bool
  | [], [] => some true
  | x :: xs, y :: ys => match eq x y, eqL eq xs ys with
    | some a, some b => some (a && b)
    | _, _ => none
  | _, _ => some false
/-- one level of == -/
def eq1 (st : Store) (eq : D → D → Option Bool) : D → D → Option Bool
  | .non, .non => some true
  | .non, .bl _ => some false
  | .non, .int _ => some false
  | .non, .str _ => some false
  | .non, .tup _ => some false
  | .bl _, .non => some false
  | .bl a, .bl b => some (a == b)
  | .bl a, .int b => some ((if a then 1 else 0) == b)
  | .bl _, .str _ => some false
  | .bl _, .tup _ => some false
  | .int _, .non => some false
  | .int a, .bl b => some (a == (if b then 1 else 0))
  | .int a, .int b => some (a == b)
  | .int _, .str _ => some false
  | .int _, .tup _ => some false
  | .str _, .non => some false
  | .str _, .bl _ => some false
  | .str _, .int _ => some false
  | .str a, .str b => some (a == b)
  | .str _, .tup _ => some false
  | .tup _, .non => some false
  | .tup _, .bl _ => some false
  | .tup _, .int _ => some false
  | .tup _, .str _ => some false
  | .tup a, .tup b => eqL eq a b
  | .loc n, .loc m => match st[n]?, st[m]? with
    | some (.lst xs), some (.lst ys) => if xs.length = ys.length then eqL eq xs ys else some false
    | some (.lst _), some (.dK _) => some false
    | some (.dK _), some (.lst _) => some false
    | _, _ => none
  | .loc n, e => match st[n]? with
    | some (.lst _) => (match e with
      | .kl _ => none
      | _ => some false)
    | some (.dK _) => (match e with
      | .kl _ => none
      | _ => some false)
    | _ => none
  | d, .loc n => match st[n]? with
    | some (.lst _) => (match d with
      | .kl _ => none
      | _ => some false)
    | some (.dK _) => (match d with
      | .kl _ => none
      | _ => some false)
    | _ => none
  | _, _ => none
def eqF (st : Store) : Nat → D → D → Option Bool
  | 0 => fun _ _ => none
  | n + 1 => eq1 st (eqF st n)

/-- a value of data, seen in the heap -/
inductive Seen (h : Heap) (K : PySem.W.Frag) (H : Hp) (ad : List Addr) (st : Store) : D → Value → Prop where
  | non : Seen h K H ad st .non .none
  | bl (b : Bool) : Seen h K H ad st (.bl b) (.bool b)
  | int (i : Int) (t : Tok) : Seen h K H ad st (.int i) (.int i t)
  | str (x : Str) (t : Tok) : Seen h K H ad st (.str x) (.str x t)
  | tup {xs : List D} {vs : List V} {us : List Value} {a : Addr} (r : RelDs K H ad xs vs) (v : Vals vs us) (t : h.IsTuple a us.toArray) (s : SqT K H a vs) : Seen h K H ad st (.tup xs) (.ref a)
  | lst {n : Nat} {xs : List D} {vs : List V} {us : List Value} {a : Addr} (e : st[n]? = some (.lst xs)) (p : ad[n]? = some a) (r : RelDs K H ad xs vs) (v : Vals vs us) (t : h.IsList a us.toArray) (s : H a = some (.lst vs)) : Seen h K H ad st (.loc n) (.ref a)
  | kl (xs : List D) (u : Value) : Seen h K H ad st (.kl xs) u
  | dK {n : Nat} {kvs : List (Key × D)} {a : Addr} (e : st[n]? = some (.dK kvs)) (p : ad[n]? = some a) (t : DictAt h a) : Seen h K H ad st (.loc n) (.ref a)
  | ins {n : Nat} {c : Str} {fs : List (Str × D)} (e : st[n]? = some (.ins c fs)) (u : Value) : Seen h K H ad st (.loc n) u
section
variable {X : Cx} {cl : Str → Addr} {E : XK} {pins : List (Addr × Obj)} {σ : L2.St} {H : Hp} {s : Shared} {ad : List Addr} {st : Store}
theorem seen (I : Inv X pins σ H s) (S : Sim (gx X cl) H ad st) : ∀ {d : D} {v : V} {u : Value}, RelD X.K H ad d v → RelV v u → Seen s.heap X.K H ad st d u := by
  intro d v u rd rv
  cases d with
  | non => rw [relD_non.mp rd] at rv; cases rv; exact .non
  | bl b => rw [relD_bl.mp rd] at rv; cases rv; exact .bl b
  | int b => rw [relD_int.mp rd] at rv; obtain ⟨t, rfl⟩ := rv; exact .int b t
  | str b => rw [relD_str.mp rd] at rv; obtain ⟨t, rfl⟩ := rv; exact .str b t
  | tup xs =>
    obtain ⟨a, vs, rfl, hs, rs⟩ := relD_tup.mp rd
    cases rv
    obtain ⟨its, r, ht, _⟩ := I.tuple hs
    exact .tup rs r ht hs
  | kl xs => exact .kl xs u
  | loc n =>
    obtain ⟨a, rfl, ha⟩ := relD_loc.mp rd
    cases rv
    obtain ⟨o, eo, ro⟩ := S.lt ha
    cases o with
    | lst xs =>
      obtain ⟨vs, e, rs⟩ := ro
      obtain ⟨its, r, hp, _⟩ := I.list (SqL.of e)
      exact .lst eo ha rs r hp.isList e
    | dK kvs =>
      obtain ⟨ks, e, _⟩ := ro
      obtain ⟨_, _, _, _, ⟨c2, d2, data2, sl2⟩, es, ep, e3, ⟨x1, _⟩, x3, _⟩ := I.hok a _ e
      simp only at x1 x3
      subst x1 x3
      exact .dK eo ha ⟨_, _, _, _, e3⟩
    | ins c fs => exact .ins eo _
/-- what stands at a place tells the data -/
theorem relD_inj (I : Inv X pins σ H s) (S : Sim (gx X cl) H ad st) : ∀ (n : Nat) {d e : D} {v : V} {b : Bool}, RelD X.K H ad d v → RelD X.K H ad e v → eqF st n d e = some b → b = true := by
  intro n
  induction n with
  | zero => intro d e v b _ _ h; cases h
  | succ n ih =>
    have all : ∀ {xs ys : List D} {vs : List V} {b : Bool}, RelDs X.K H ad xs vs → RelDs X.K H ad ys vs → eqL (eqF st n) xs ys = some b → b = true := by
      intro xs
      induction xs with
      | nil =>
        intro ys vs b h1 h2 h
        rw [relDs_nil.mp h1] at h2
        cases ys with
        | nil => cases h; rfl
        | cons y ys => obtain ⟨_, _, e, _⟩ := relDs_cons.mp h2; cases e
      | cons x xs ihx =>
        intro ys vs b h1 h2 h
        obtain ⟨v, vs', rfl, r1, t1⟩ := relDs_cons.mp h1
        cases ys with
        | nil => cases relDs_nil.mp h2
        | cons y ys =>
          obtain ⟨v2, vs2, e, r2, t2⟩ := relDs_cons.mp h2
          cases e
          rw [eqL] at h
          cases h3 : eqF st n x y with
          | none => rw [h3] at h; cases h
          | some p =>
            cases h4 : eqL (eqF st n) xs ys with
            | none => rw [h3, h4] at h; cases h
            | some q =>
              rw [h3, h4] at h; cases h
              rw [ih r1 r2 h3, ihx t1 t2 h4]; rfl
    intro d e v b h1 h2 h
    rw [eqF] at h
    cases d with
    | non =>
      rw [relD_non.mp h1] at h2
      cases e with
      | non => cases h; rfl
      | bl _ => cases relD_bl.mp h2
      | int _ => cases relD_int.mp h2
      | str _ => cases relD_str.mp h2
      | tup _ => obtain ⟨_, _, q, _⟩ := relD_tup.mp h2; cases q
      | kl _ => cases h
      | loc _ => obtain ⟨_, q, _⟩ := relD_loc.mp h2; cases q
    | bl _ =>
      rw [relD_bl.mp h1] at h2
      cases e with
      | non => cases relD_non.mp h2
      | bl _ => cases relD_bl.mp h2; cases h; simp
      | int _ => cases relD_int.mp h2
      | str _ => cases relD_str.mp h2
      | tup _ => obtain ⟨_, _, q, _⟩ := relD_tup.mp h2; cases q
      | kl _ => cases h
      | loc _ => obtain ⟨_, q, _⟩ := relD_loc.mp h2; cases q
    | int _ =>
      rw [relD_int.mp h1] at h2
      cases e with
      | non => cases relD_non.mp h2
      | bl _ => cases relD_bl.mp h2
      | int _ => cases relD_int.mp h2; cases h; simp
      | str _ => cases relD_str.mp h2
      | tup _ => obtain ⟨_, _, q, _⟩ := relD_tup.mp h2; cases q
      | kl _ => cases h
      | loc _ => obtain ⟨_, q, _⟩ := relD_loc.mp h2; cases q
    | str _ =>
      rw [relD_str.mp h1] at h2
      cases e with
      | non => cases relD_non.mp h2
      | bl _ => cases relD_bl.mp h2
      | int _ => cases relD_int.mp h2
      | str _ => cases relD_str.mp h2; cases h; simp
      | tup _ => obtain ⟨_, _, q, _⟩ := relD_tup.mp h2; cases q
      | kl _ => cases h
      | loc _ => obtain ⟨_, q, _⟩ := relD_loc.mp h2; cases q
    | tup xs =>
      obtain ⟨a, vs, rfl, hs, rs⟩ := relD_tup.mp h1
      cases e with
      | non => cases relD_non.mp h2
      | bl _ => cases relD_bl.mp h2
      | int _ => cases relD_int.mp h2
      | str _ => cases relD_str.mp h2
      | tup ys =>
        obtain ⟨a2, vs2, q, hs2, rs2⟩ := relD_tup.mp h2
        cases q
        have := I.tuple_inj hs hs2
        subst this
        exact all rs rs2 h
      | kl _ => cases h
      | loc m =>
        obtain ⟨a2, q, hm⟩ := relD_loc.mp h2
        cases q
        obtain ⟨o, _, ro⟩ := S.lt hm
        obtain ⟨its, _, ⟨ob, e1, c1, _⟩, _⟩ := I.tuple hs
        exfalso
        -- a tuple is no object of the store
        cases o with
        | lst ys =>
          obtain ⟨ws, e2, _⟩ := ro
          obtain ⟨_, its2, _, _, e3⟩ := I.hok a _ e2
          rw [e1] at e3; cases e3; exact absurd c1 (by simp)
        | dK kvs =>
          obtain ⟨ks, e2, _⟩ := ro
          obtain ⟨_, _, _, _, o2, _, _, e3, ex, _⟩ := I.hok a _ e2
          rw [e1] at e3; cases e3
          have := ex.1
          rw [c1] at this; exact absurd this (by decide)
        | ins c fs =>
          obtain ⟨dx, ks, e2, _⟩ := ro
          obtain ⟨_, _, _, e3, _⟩ := I.hok a _ e2
          rw [e1] at e3; cases e3; exact absurd c1 (by simp [PySem.W.instObj])
    | kl _ => cases e <;> first | (cases h; done) | (simp only [eq1] at h; split at h <;> cases h)
    | loc m =>
      obtain ⟨a, rfl, hm⟩ := relD_loc.mp h1
      cases e with
      | non => cases relD_non.mp h2
      | bl _ => cases relD_bl.mp h2
      | int _ => cases relD_int.mp h2
      | str _ => cases relD_str.mp h2
      | tup ys =>
        obtain ⟨a2, vs2, q, hs2, rs2⟩ := relD_tup.mp h2
        cases q
        obtain ⟨o, eo, ro⟩ := S.lt hm
        obtain ⟨its, _, ⟨ob, e1, c1, _⟩, _⟩ := I.tuple hs2
        exfalso
        cases o with
        | lst ys =>
          obtain ⟨ws, e2, _⟩ := ro
          obtain ⟨_, its2, _, _, e3⟩ := I.hok a _ e2
          rw [e1] at e3; cases e3; exact absurd c1 (by simp)
        | dK kvs =>
          obtain ⟨ks, e2, _⟩ := ro
          obtain ⟨_, _, _, _, o2, _, _, e3, ex, _⟩ := I.hok a _ e2
          rw [e1] at e3; cases e3
          have := ex.1
          rw [c1] at this; exact absurd this (by decide)
        | ins c fs => simp only [eq1, eo] at h; cases h
      | kl _ =>
        obtain ⟨o, eo, ro⟩ := S.lt hm
        cases o <;> simp only [eq1, eo] at h <;> cases h
      | loc k =>
        obtain ⟨a2, q, hk⟩ := relD_loc.mp h2
        cases q
        obtain ⟨o1, eo1, ro1⟩ := S.lt hm
        obtain ⟨o2, eo2, ro2⟩ := S.lt hk
        have hmk : m = k := by
          by_cases q : m = k
          · exact q
          · exact absurd rfl (S.ne hm hk q)
        subst hmk
        rw [eo1] at eo2; cases eo2
        cases o1 with
        | lst xs =>
          simp only [eq1, eo1, if_true] at h
          obtain ⟨vs, e1, r1⟩ := ro1
          exact all r1 r1 h
        | dK _ => simp only [eq1, eo1] at h; cases h
        | ins _ _ => simp only [eq1, eo1] at h; cases h
open SeqAt in
/-- the items' answers by place -/
theorem eqL_at {n : Nat} {A : Around} {xs ys : List D} {vs ws : List V} {us zs : List Value} {b : Bool} (r1 : RelDs X.K H ad xs vs) (r2 : RelDs X.K H ad ys ws) (v1 : Vals vs us) (v2 : Vals ws zs)
    (ih : ∀ {d e : D} {v w : V} {u z : Value} {b : Bool}, RelD X.K H ad d v → RelD X.K H ad e w → RelV v u → RelV w z → eqF st n d e = some b → EqAt A s u z b) (h : eqL (eqF st n) xs ys = some b) :
    ∃ e : Nat → Bool, (∀ j (h1 : j < us.toArray.size) (h2 : j < zs.toArray.size), EqAt A s us.toArray[j] zs.toArray[j] (e j)) ∧ ((List.range (min us.toArray.size zs.toArray.size)).all e && us.toArray.size == zs.toArray.size) = b := by
  induction xs generalizing ys vs ws us zs b with
  | nil =>
    rw [relDs_nil.mp r1] at v1; cases v1
    cases ys with
    | nil =>
      rw [relDs_nil.mp r2] at v2; cases v2
      cases h
      exact ⟨fun _ => true, fun j h1 => absurd h1 (by simp), by simp⟩
    | cons y ys =>
      obtain ⟨w, ws', rfl, _, _⟩ := relDs_cons.mp r2
      cases v2 with
      | cons a b =>
        cases h
        exact ⟨fun _ => true, fun j h1 => absurd h1 (by simp), by simp⟩
  | cons x xs ihx =>
    obtain ⟨v, vs', rfl, rx, tx⟩ := relDs_cons.mp r1
    cases v1 with
    | @cons _ u _ us' a1 t1 =>
    cases ys with
    | nil =>
      rw [relDs_nil.mp r2] at v2; cases v2
      cases h
      exact ⟨fun _ => true, fun j _ h2 => absurd h2 (by simp), by simp⟩
    | cons y ys =>
      obtain ⟨w, ws', rfl, ry, ty⟩ := relDs_cons.mp r2
      cases v2 with
      | @cons _ z _ zs' a2 t2 =>
      rw [eqL] at h
      cases h3 : eqF st n x y with
      | none => rw [h3] at h; cases h
      | some p =>
        cases h4 : eqL (eqF st n) xs ys with
        | none => rw [h3, h4] at h; cases h
        | some q =>
          rw [h3, h4] at h; cases h
          obtain ⟨e, f1, f2⟩ := ihx tx ty t1 t2 h4
          refine ⟨fun j => match j with | 0 => p | j + 1 => e j, fun j h1 h2 => ?_, ?_⟩
          · cases j with
            | zero => exact ih rx ry a1 a2 h3
            | succ j => exact f1 j (by simpa using h1) (by simpa using h2)
          · simp only [List.size_toArray, List.length_cons] at f2 ⊢
            rw [Nat.add_min_add_right, List.range_succ_eq_map]
            simp only [List.all_cons, List.all_map]
            rw [← f2]
            simp [Function.comp_def, Bool.and_assoc]
open SeqAt in
theorem eqF_at (I : Inv X pins σ H s) (S : Sim (gx X cl) H ad st) : ∀ (n : Nat) (A : Around) {d e : D} {v w : V} {u z : Value} {b : Bool}, A.units + n < cLine → RelD X.K H ad d v → RelD X.K H ad e w → RelV v u → RelV w z → eqF st n d e = some b →
    EqAt A s u z b ∧ RcAt A s u z b ∧ RcNeAt A s u z (!b) := by
  intro n
  induction n with
  | zero => intro A d e v w u z b _ _ _ _ _ h; cases h
  | succ n ih =>
    intro A d e v w u z b hu rd re rv rw' h
    rw [eqF] at h
    have hu0 : A.units < cLine := by omega
    have ih' : ∀ {d e : D} {v w : V} {u z : Value} {b : Bool}, RelD X.K H ad d v → RelD X.K H ad e w → RelV v u → RelV w z → eqF st n d e = some b → EqAt A.in1 s u z b := fun a b c d e => (ih A.in1 (by show A.units + 1 + n < _; omega) a b c d e).1
    have same : u = z → eq1 st (eqF st n) d e = some b → b = true := fun q h => by
      subst q
      have : v = w := RelV.inj rv rw'
      subst this
      exact relD_inj I S (n + 1) rd re h
    have s1 := seen I S rd rv
    have s2 := seen I S re rw'
    cases s1 with
    | non =>
      cases s2 with
      | non => cases h; exact ⟨.same _, .none_none, .none_none⟩
      | bl c => cases h; exact ⟨.none_bool c, .none_bool c, .none_bool c⟩
      | int c t => cases h; exact ⟨.none_int c t, .none_int c t, .none_int c t⟩
      | str c t => cases h; exact ⟨.none_str c t, .none_str c t, .none_str c t⟩
      | tup _ _ t => cases h; exact ⟨.none_tuple t hu0, .none_tuple t hu0, .none_tuple t hu0⟩
      | lst e _ _ _ t => simp only [eq1, e] at h; cases h; exact ⟨.none_list t hu0, .none_list t hu0, .none_list t hu0⟩
      | kl => cases h
      | dK e _ t => simp only [eq1, e] at h; cases h; exact ⟨EqAt_none_dict  t hu0, RcAt_none_dict  t hu0, RcNeAt_none_dict  t hu0⟩
      | ins e => simp only [eq1, e] at h; cases h
    | bl a =>
      cases s2 with
      | non => cases h; exact ⟨.bool_none a, .bool_none a, .bool_none a⟩
      | bl c => cases h; exact ⟨.bool_bool a c, .bool_bool a c, .bool_bool a c⟩
      | int c t => cases h; exact ⟨.bool_int a c t, .bool_int a c t, .bool_int a c t⟩
      | str c t => cases h; exact ⟨.bool_str a c t, .bool_str a c t, .bool_str a c t⟩
      | tup _ _ t => cases h; exact ⟨.bool_tuple a t hu0, .bool_tuple a t hu0, .bool_tuple a t hu0⟩
      | lst e _ _ _ t => simp only [eq1, e] at h; cases h; exact ⟨.bool_list a t hu0, .bool_list a t hu0, .bool_list a t hu0⟩
      | kl => cases h
      | dK e _ t => simp only [eq1, e] at h; cases h; exact ⟨EqAt_bool_dict a t hu0, RcAt_bool_dict a t hu0, RcNeAt_bool_dict a t hu0⟩
      | ins e => simp only [eq1, e] at h; cases h
    | int a k =>
      cases s2 with
      | non => cases h; exact ⟨.int_none a k, .int_none a k, .int_none a k⟩
      | bl c => cases h; exact ⟨.int_bool a k c, .int_bool a k c, .int_bool a k c⟩
      | int c t => cases h; exact ⟨.int_int a k c t, .int_int a k c t, .int_int a k c t⟩
      | str c t => cases h; exact ⟨.int_str a k c t, .int_str a k c t, .int_str a k c t⟩
      | tup _ _ t => cases h; exact ⟨.int_tuple a k t hu0, .int_tuple a k t hu0, .int_tuple a k t hu0⟩
      | lst e _ _ _ t => simp only [eq1, e] at h; cases h; exact ⟨.int_list a k t hu0, .int_list a k t hu0, .int_list a k t hu0⟩
      | kl => cases h
      | dK e _ t => simp only [eq1, e] at h; cases h; exact ⟨EqAt_int_dict a k t hu0, RcAt_int_dict a k t hu0, RcNeAt_int_dict a k t hu0⟩
      | ins e => simp only [eq1, e] at h; cases h
    | str a k =>
      cases s2 with
      | non => cases h; exact ⟨.str_none a k, .str_none a k, .str_none a k⟩
      | bl c => cases h; exact ⟨.str_bool a k c, .str_bool a k c, .str_bool a k c⟩
      | int c t => cases h; exact ⟨.str_int a k c t, .str_int a k c t, .str_int a k c t⟩
      | str c t => cases h; exact ⟨.str_str a k c t, .str_str a k c t, .str_str a k c t⟩
      | tup _ _ t => cases h; exact ⟨.str_tuple a k t hu0, .str_tuple a k t hu0, .str_tuple a k t hu0⟩
      | lst e _ _ _ t => simp only [eq1, e] at h; cases h; exact ⟨.str_list a k t hu0, .str_list a k t hu0, .str_list a k t hu0⟩
      | kl => cases h
      | dK e _ t => simp only [eq1, e] at h; cases h; exact ⟨EqAt_str_dict a k t hu0, RcAt_str_dict a k t hu0, RcNeAt_str_dict a k t hu0⟩
      | ins e => simp only [eq1, e] at h; cases h
    | tup r1 v1 t1 q1 =>
      cases s2 with
      | non => cases h; exact ⟨.tuple_none t1 hu0, .tuple_none t1 hu0, .tuple_none t1 hu0⟩
      | bl c => cases h; exact ⟨.tuple_bool c t1 hu0, .tuple_bool c t1 hu0, .tuple_bool c t1 hu0⟩
      | int c t => cases h; exact ⟨.tuple_int c t t1 hu0, .tuple_int c t t1 hu0, .tuple_int c t t1 hu0⟩
      | str c t => cases h; exact ⟨.tuple_str c t t1 hu0, .tuple_str c t t1 hu0, .tuple_str c t t1 hu0⟩
      | @tup ys ws zs b2 r2 v2 t2 q2 =>
        obtain ⟨e, f1, f2⟩ := eqL_at r1 r2 v1 v2 ih' h
        have rc := RcAt.tuples t1 t2 hu0 f1
        have rn := RcNeAt.tuples t1 t2 hu0 f1
        rw [f2] at rc rn
        refine ⟨?_, rc, rn⟩
        rename_i a1
        by_cases hab : a1 = b2
        · subst hab
          have := same rfl h
          subst this
          exact .same _
        · exact .of_refs hab rc
      | lst e _ _ _ t2 => simp only [eq1, e] at h; cases h; exact ⟨.tuple_list t1 t2 hu0, .tuple_list t1 t2 hu0, .tuple_list t1 t2 hu0⟩
      | kl => cases h
      | dK e _ t => simp only [eq1, e] at h; cases h; exact ⟨EqAt_tuple_dict t t1 hu0, RcAt_tuple_dict t t1 hu0, RcNeAt_tuple_dict t t1 hu0⟩
      | ins e => simp only [eq1, e] at h; cases h
    | kl => cases e <;> first | (cases h; done) | (simp only [eq1] at h; split at h <;> cases h)
    | dK e1 _ t1 =>
      cases s2 with
      | non => simp only [eq1, e1] at h; cases h; exact ⟨EqAt_dict_none t1 hu0, RcAt_dict_none t1 hu0, RcNeAt_dict_none t1 hu0⟩
      | bl c => simp only [eq1, e1] at h; cases h; exact ⟨EqAt_dict_bool c t1 hu0, RcAt_dict_bool c t1 hu0, RcNeAt_dict_bool c t1 hu0⟩
      | int c t => simp only [eq1, e1] at h; cases h; exact ⟨EqAt_dict_int c t t1 hu0, RcAt_dict_int c t t1 hu0, RcNeAt_dict_int c t t1 hu0⟩
      | str c t => simp only [eq1, e1] at h; cases h; exact ⟨EqAt_dict_str c t t1 hu0, RcAt_dict_str c t t1 hu0, RcNeAt_dict_str c t t1 hu0⟩
      | tup _ _ t2 => simp only [eq1, e1] at h; cases h; exact ⟨EqAt_dict_tuple t1 t2 hu0, RcAt_dict_tuple t1 t2 hu0, RcNeAt_dict_tuple t1 t2 hu0⟩
      | lst e _ _ _ t2 => simp only [eq1, e1, e] at h; cases h; exact ⟨EqAt_dict_list t1 t2 hu0, RcAt_dict_list t1 t2 hu0, RcNeAt_dict_list t1 t2 hu0⟩
      | kl => simp only [eq1, e1] at h; cases h
      | dK e => simp only [eq1, e1, e] at h; cases h
      | ins e => simp only [eq1, e1, e] at h; cases h
    | ins e1 => cases e <;> simp only [eq1, e1] at h <;> cases h
    | @lst n1 xs vs us a1 e1 p1 r1 v1 t1 q1 =>
      cases s2 with
      | non => simp only [eq1, e1] at h; cases h; exact ⟨.list_none t1 hu0, .list_none t1 hu0, .list_none t1 hu0⟩
      | bl c => simp only [eq1, e1] at h; cases h; exact ⟨.list_bool c t1 hu0, .list_bool c t1 hu0, .list_bool c t1 hu0⟩
      | int c t => simp only [eq1, e1] at h; cases h; exact ⟨.list_int c t t1 hu0, .list_int c t t1 hu0, .list_int c t t1 hu0⟩
      | str c t => simp only [eq1, e1] at h; cases h; exact ⟨.list_str c t t1 hu0, .list_str c t t1 hu0, .list_str c t t1 hu0⟩
      | tup _ _ t2 => simp only [eq1, e1] at h; cases h; exact ⟨.list_tuple t1 t2 hu0, .list_tuple t1 t2 hu0, .list_tuple t1 t2 hu0⟩
      | kl => simp only [eq1, e1] at h; cases h
      | dK e _ t => simp only [eq1, e1, e] at h; cases h; exact ⟨EqAt_list_dict t t1 hu0, RcAt_list_dict t t1 hu0, RcNeAt_list_dict t t1 hu0⟩
      | ins e => simp only [eq1, e1, e] at h; cases h
      | @lst m ys ws zs b2 e2 p2 r2 v2 t2 q2 =>
        simp only [eq1, e1, e2] at h
        have l1 := r1.length.trans v1.length
        have l2 := r2.length.trans v2.length
        split at h
        · rename_i hl
          obtain ⟨e, f1, f2⟩ := eqL_at r1 r2 v1 v2 ih' h
          have hsz := l1.symm.trans (hl.trans l2)
          have hsz' : us.toArray.size = zs.toArray.size := by simpa using hsz
          have rc := RcAt.lists t1 t2 hsz' hu0 f1
          have rn := RcNeAt.lists t1 t2 hsz' hu0 f1
          have f3 : (List.range us.toArray.size).all e = b := by
            rw [← f2]
            simp only [List.size_toArray] at hsz ⊢
            rw [hsz]; simp
          rw [f3] at rc rn
          refine ⟨?_, rc, rn⟩
          by_cases hab : a1 = b2
          · subst hab
            have := same rfl (by simp only [eq1, e1, e2, if_pos hl]; exact h)
            subst this
            exact .same _
          · exact .of_refs hab rc
        · rename_i hl
          have hne : (us.toArray.size != zs.toArray.size) = true := by
            have : ¬ (us.length = zs.length) := fun q => hl (l1.trans (q.trans l2.symm))
            simpa [bne_iff_ne] using this
          cases h
          refine ⟨?_, RcAt.lists_lengths t1 t2 hne hu0, RcNeAt.lists_lengths t1 t2 hne hu0⟩
          by_cases hab : a1 = b2
          · subst hab
            exact absurd (same rfl (by simp only [eq1, e1, e2, if_neg hl])) (by decide)
          · exact .of_refs hab (RcAt.lists_lengths t1 t2 hne hu0)

/-! ### the operators -/
def eqDeep : Nat := 40
def blR (o : Option Bool) (st : Store) : R D := match o with
  | some b => .ok (.bl b) st
  | none => .stuck
def eqD : D → D → Store → R D := fun x y st => blR (eqF st eqDeep x y) st
def neD : D → D → Store → R D := fun x y st => blR ((eqF st eqDeep x y).map (!·)) st
theorem or_eq (hu : X.A.units + 64 < cLine) : OpR X (compareOp .Eq) (r2 (gx X cl) E eqD) := by
  intro pins s σ H x y v u Q I rx ry ⟨ad, d, e, st, S, rd, re, h⟩
  unfold eqD at h
  cases q : eqF st eqDeep d e with
  | none => rw [q] at h; exact h.elim
  | some b =>
    rw [q] at h
    exact (eqF_at I S eqDeep X.A (by unfold eqDeep; omega) rd re rx ry q).2.1 _ _ _ _ ⟨.bl b, H, I, rfl, Post.ret h S (relD_bl.mpr rfl)⟩
theorem or_ne (hu : X.A.units + 64 < cLine) : OpR X (compareOp .NotEq) (r2 (gx X cl) E neD) := by
  intro pins s σ H x y v u Q I rx ry ⟨ad, d, e, st, S, rd, re, h⟩
  unfold neD at h
  cases q : eqF st eqDeep d e with
  | none => rw [q] at h; exact h.elim
  | some b =>
    rw [q] at h
    exact (eqF_at I S eqDeep X.A (by unfold eqDeep; omega) rd re rx ry q).2.2 _ _ _ _ ⟨.bl (!b), H, I, rfl, Post.ret h S (relD_bl.mpr rfl)⟩
end
end Mp
end
section
set_option Elab.async false
set_option linter.all false
set_option maxRecDepth 100000
set_option maxHeartbeats 2000000
/-! Mp: in, isinstance, len, all, any, list, tuple, min, max, sum; methods of lists and texts. -/
namespace Mp
open PySem PySem.Spec PyProof.Rows L2
section
variable {X : Cx} {cl : Str → Addr} {E : XK} {a b c e o : Expr} {ma mb mc mo : M D} {pos p p2 apos cpos : Pos} {es : List Expr} {mas : M (List D)} {x : Str}

/-! ### isinstance -/
def tyD (st : Store) : D → Option String
  | .non => some "NoneType"
  | .bl _ => some "bool"
  | .int _ => some "int"
  | .str _ => some "str"
  | .tup _ => some "tuple"
  | .kl _ => some "list"
  | .loc n => match st[n]? with
    | some (.lst _) => some "list"
    | some (.dK _) => some "dict"
    | _ => none
def isiD (T : String) : D → Store → R D := fun x st => match tyD st x with
  | some t => blR (kitB t T) st
  | none => .stuck
def isi2D (T T' : String) : D → Store → R D := fun x st => match tyD st x with
  | some t => (match kitB t T with
    | some true => .ok (.bl true) st
    | some false => blR (kitB t T') st
    | none => .stuck)
  | none => .stuck
theorem tyD_ok {H : Hp} {ad : List Addr} {st : Store} (S : Sim (gx X cl) H ad st) {d : D} {v : V} {t : String} (r : RelD X.K H ad d v) (h : tyD st d = some t) : TyX X.K H v (.type t) := by
  cases d with
  | non => cases h; rw [relD_non.mp r]; exact .base .non
  | bl _ => cases h; rw [relD_bl.mp r]; exact .base (.bl _)
  | int _ => cases h; rw [relD_int.mp r]; exact .base (.int _)
  | str _ => cases h; rw [relD_str.mp r]; exact .base (.str _)
  | tup xs =>
    cases h
    obtain ⟨p, vs, rfl, hs, _⟩ := relD_tup.mp r
    rcases hs with (hs | ⟨o, hs⟩) | ⟨o, its, n, hk, hc, _⟩
    · exact .base (.tup hs)
    · exact .fTuple hs
    · exact .kTuple hk hc
  | kl xs =>
    cases h
    obtain ⟨p, vs, rfl, hs, _⟩ := relD_kl.mp r
    rcases hs with ⟨o, hs⟩ | ⟨o, its, n, hk, hc, _⟩
    · exact .base (.frz hs)
    · exact .kList hk hc
  | loc n =>
    obtain ⟨p, rfl, hp⟩ := relD_loc.mp r
    obtain ⟨o, eo, ro⟩ := S.lt hp
    cases o with
    | lst xs =>
      simp only [tyD, eo] at h; cases h
      obtain ⟨vs, e, _⟩ := ro
      exact .base (.lst e)
    | dK xs =>
      simp only [tyD, eo] at h; cases h
      obtain ⟨vs, e, _⟩ := ro
      exact .base (.dK e)
    | ins _ _ => simp only [tyD, eo] at h; cases h
theorem me_isi {T' : Str} {T : String} (hm : X.mg "isinstance" = none) (hT : X.mg T' = none) (hb : bootBuiltins T' = some (.type T)) (ha : PE X a (tE (gx X cl) E ma)) (hg : Gl X "isinstance" := by rfl) (hg2 : Gl X T' := by rfl) (hn2 : T' ≠ "__name__" := by decide) (hd2 : (T' == ("__debug__" : Str)) = false := by decide)
    (h1 : starEach (a :: [.Name T' p2]) X.env = (false, eval a X.env) :: starEach [.Name T' p2] X.env := by rfl) (h2 : starEach (.Name T' p2 :: []) X.env = (false, eval (.Name T' p2) X.env) :: starEach [] X.env := by rfl) (hpl : (backTo pos (starEach [.Name T' p2] X.env)).any (·.1) = false := by rfl) :
    PE X (.Call (.Name "isinstance" p) [a, .Name T' p2] [] pos) (tE (gx X cl) E (m1 (isiD T) ma)) :=
  tE.imp (pe_callB call_isi hg hm boot_isinstance (pa_cons ha (pa_cons (pe_bltn (v := .ty T) hg2 hT hb rfl hn2 hd2) pa_nil h2) h1) (by decide) (by decide) h1 hpl) fun σ H Q ⟨ad, ds, st, S, r, h⟩ => by
    refine tE.go S r h fun x st1 v H1 ad1 e1 S1 r1 rx h1 => ?_
    unfold isiD at h1
    cases ht : tyD st1 x with
    | none => rw [ht] at h1; exact h1.elim
    | some t =>
      rw [ht] at h1
      cases hk : kitB t T with
      | none => simp only [hk] at h1; exact h1.elim
      | some b =>
        simp only [hk] at h1
        exact ⟨v, .ty T, .type t, .type T, b, rfl, .ty T, tyD_ok S1 rx ht, kit_ty hk, Post.ret h1 S1 (relD_bl.mpr rfl)⟩
theorem me_isi2 {T1 T2 : Str} {T T' : String} {p3 tp : Pos} {k : Nat} (hm : X.mg "isinstance" = none) (hT1 : X.mg T1 = none) (hb1 : bootBuiltins T1 = some (.type T)) (hT2 : X.mg T2 = none) (hb2 : bootBuiltins T2 = some (.type T')) (ha : PE X a (tE (gx X cl) E ma)) (hg : Gl X "isinstance" := by rfl) (hg1 : Gl X T1 := by rfl) (hg2 : Gl X T2 := by rfl)
    (hn1 : T1 ≠ "__name__" := by decide) (hd1 : (T1 == ("__debug__" : Str)) = false := by decide) (hn2 : T2 ≠ "__name__" := by decide) (hd2 : (T2 == ("__debug__" : Str)) = false := by decide)
    (h1 : starEach (a :: [.Tuple [.Name T1 p2, .Name T2 p3] k tp]) X.env = (false, eval a X.env) :: starEach [.Tuple [.Name T1 p2, .Name T2 p3] k tp] X.env := by rfl) (h2 : starEach (.Tuple [.Name T1 p2, .Name T2 p3] k tp :: []) X.env = (false, eval (.Tuple [.Name T1 p2, .Name T2 p3] k tp) X.env) :: starEach [] X.env := by rfl)
    (h3 : starEach (.Name T1 p2 :: [.Name T2 p3]) X.env = (false, eval (.Name T1 p2) X.env) :: starEach [.Name T2 p3] X.env := by rfl) (h4 : starEach (.Name T2 p3 :: []) X.env = (false, eval (.Name T2 p3) X.env) :: starEach [] X.env := by rfl)
    (hpl : (backTo pos (starEach [.Tuple [.Name T1 p2, .Name T2 p3] k tp] X.env)).any (·.1) = false := by rfl) :
    PE X (.Call (.Name "isinstance" p) [a, .Tuple [.Name T1 p2, .Name T2 p3] k tp] [] pos) (tE (gx X cl) E (m1 (isi2D T T') ma)) :=
  tE.imp (pe_callB call_isiT hg hm boot_isinstance (pa_cons ha (pa_cons (pe_tup (pa_cons (pe_bltn (v := .ty T) hg1 hT1 hb1 rfl hn1 hd1) (pa_cons (pe_bltn (v := .ty T') hg2 hT2 hb2 rfl hn2 hd2) pa_nil h4) h3)) pa_nil h2) h1) (by decide) (by decide) h1 hpl) fun σ H Q ⟨ad, ds, st, S, r, h⟩ => by
    refine tE.go S r h fun x st1 v H1 ad1 e1 S1 r1 rx h1 => ?_
    refine ⟨by show 2 ≤ sizeLine; decide, fun tp htp => ?_⟩
    unfold isi2D at h1
    have x0 : Ext X.K H1 ad1 (upd H1 tp (.tup [.ty T, .ty T'])) ad1 := Ext.fresh htp
    have S2 := S1.fresh (u := .tup [.ty T, .ty T']) htp
    have rx2 := rx.ext x0
    cases ht : tyD st1 x with
    | none => rw [ht] at h1; exact h1.elim
    | some t =>
      rw [ht] at h1
      have ty := tyD_ok S2 rx2 ht
      cases hk : kitB t T with
      | none => simp only [hk] at h1; exact h1.elim
      | some b =>
        cases b with
        | true =>
          simp only [hk] at h1
          exact ⟨v, tp, _, .type t, [.type T, .type T'], true, rfl, upd_same, .cons (.ty T) (.cons (.ty T') .nil), ty, kitAny_cons (kit_ty hk) (fun z => (nomatch z)) (fun _ => rfl), Post.ret (Post.ext x0 h1) S2 (relD_bl.mpr rfl)⟩
        | false =>
          simp only [hk] at h1
          cases hk2 : kitB t T' with
          | none => simp only [hk2] at h1; exact h1.elim
          | some b =>
            simp only [hk2] at h1
            refine ⟨v, tp, _, .type t, [.type T, .type T'], b, rfl, upd_same, .cons (.ty T) (.cons (.ty T') .nil), ty, kitAny_cons (kit_ty hk) (fun _ => kitAny_cons (kit_ty hk2) (fun z => ?_) (fun z => z)) (fun z => (nomatch z)), Post.ret (Post.ext x0 h1) S2 (relD_bl.mpr rfl)⟩
            rw [z]; rfl

/-! ### len, list, tuple -/
def lenD : List D → Store → R D := fun xs st => match xs with
  | [.str y] => if y.length ≤ sizeLine then .ok (.int y.length) st else .stuck
  | [.tup ys] => .ok (.int ys.length) st
  | [.kl ys] => .ok (.int ys.length) st
  | [.loc n] => match st[n]? with
    | some (.lst ys) => .ok (.int ys.length) st
    | some (.dK ys) => .ok (.int ys.length) st
    | _ => .stuck
  | _ => .stuck
theorem relDs1 {K : PySem.W.Frag} {H : Hp} {ad : List Addr} {d : D} {xs : List V} (h : RelDs K H ad [d] xs) : ∃ v, xs = [v] ∧ RelD K H ad d v := by
  obtain ⟨v, vs, rfl, r, t⟩ := relDs_cons.mp h
  rw [relDs_nil.mp t]
  exact ⟨v, rfl, r⟩
theorem relDs2 {K : PySem.W.Frag} {H : Hp} {ad : List Addr} {d e : D} {xs : List V} (h : RelDs K H ad [d, e] xs) : ∃ v w, xs = [v, w] ∧ RelD K H ad d v ∧ RelD K H ad e w := by
  obtain ⟨v, vs, rfl, r, t⟩ := relDs_cons.mp h
  obtain ⟨w, rfl, r2⟩ := relDs1 t
  exact ⟨v, w, rfl, r, r2⟩
theorem cr_lenD : CallR X (.builtin "len") (rC (gx X cl) E lenD) := by
  intro pins s σ H xs us Q I r ⟨ad, ds, st, S, rd, h⟩
  match ds, h with
  | [.str y], h =>
    obtain ⟨v, rfl, rv⟩ := relDs1 rd
    unfold lenD at h; simp only at h
    split at h
    · exact call_len pins s σ H _ us Q I r ⟨v, _, rfl, by rw [relD_str.mp rv]; exact ⟨by assumption, rfl⟩, Post.ret h S (relD_int.mpr rfl)⟩
    · exact h.elim
  | [.tup ys], h =>
    obtain ⟨v, rfl, rv⟩ := relDs1 rd
    obtain ⟨p, vs, rfl, hp, rp⟩ := relD_tup.mp rv
    refine call_len pins s σ H _ us Q I r ⟨_, vs.length, rfl, .inr ⟨vs, hp, rfl⟩, ?_⟩
    rw [← rp.length]
    exact Post.ret h S (relD_int.mpr rfl)
  | [.kl ys], h =>
    obtain ⟨v, rfl, rv⟩ := relDs1 rd
    obtain ⟨p, vs, rfl, hp, rp⟩ := relD_kl.mp rv
    refine call_len pins s σ H _ us Q I r ⟨_, vs.length, rfl, .inl ⟨vs, hp.seq, rfl⟩, ?_⟩
    rw [← rp.length]
    exact Post.ret h S (relD_int.mpr rfl)
  | [.loc n], h =>
    obtain ⟨v, rfl, rv⟩ := relDs1 rd
    obtain ⟨p, rfl, hp⟩ := relD_loc.mp rv
    unfold lenD at h; simp only at h
    split at h
    · rename_i ys eo
      obtain ⟨vs, q1, q2⟩ := lst_at S hp eo
      refine call_len pins s σ H _ us Q I r ⟨_, vs.length, rfl, .inl ⟨vs, .of q1, rfl⟩, ?_⟩
      rw [← q2.length]
      exact Post.ret h S (relD_int.mpr rfl)
    · rename_i ys eo
      obtain ⟨vs, q1, q2⟩ := dK_at S hp eo
      refine call_lenD pins s σ H _ us Q I r ⟨p, vs, rfl, q1, ?_⟩
      rw [← Paired.length q2]
      exact Post.ret h S (relD_int.mpr rfl)
    · exact h.elim
def seqD (st : Store) : D → Option (List D)
  | .tup ys => some ys
  | .kl ys => some ys
  | .loc n => match st[n]? with
    | some (.lst ys) => some ys
    | _ => none
  | _ => none
theorem seqD_ok {H : Hp} {ad : List Addr} {st : Store} (S : Sim (gx X cl) H ad st) {d : D} {v : V} {ys : List D} (r : RelD X.K H ad d v) (h : seqD st d = some ys) : ∃ p vs, v = .ref p ∧ (SqL X.K H p vs ∨ SqT X.K H p vs) ∧ RelDs X.K H ad ys vs := by
  cases d with
  | tup xs => cases h; obtain ⟨p, vs, rfl, hs, rs⟩ := relD_tup.mp r; exact ⟨p, vs, rfl, .inr hs, rs⟩
  | kl xs => cases h; obtain ⟨p, vs, rfl, hs, rs⟩ := relD_kl.mp r; exact ⟨p, vs, rfl, .inl hs.seq, rs⟩
  | loc n =>
    obtain ⟨p, rfl, hp⟩ := relD_loc.mp r
    unfold seqD at h; simp only at h
    split at h
    · rename_i zs eo
      cases h
      obtain ⟨vs, q1, q2⟩ := lst_at S hp eo
      exact ⟨p, vs, rfl, .inl (.of q1), q2⟩
    · cases h
  | _ => cases h
/-- list(x), x a list or a tuple -/
def list1 (d : D) (st : Store) : R D := match d with
  | .str x => if x.length ≤ sizeLine then .ok (.loc st.length) (st ++ [.lst (strItems x)]) else .stuck
  | d => match seqD st d with
    | some ys => .ok (.loc st.length) (st ++ [.lst ys])
    | none => .stuck
def listD : List D → Store → R D := fun xs st => match xs with
  | [d] => list1 d st
  | _ => .stuck
theorem signs_vals {x : Str} {acc : Array Value} (h : ItemsOf (SignAt x) acc x.cps.size) : Vals (x.cps.toList.map fun c => V.str ⟨#[c]⟩) acc.toList := by
  have hl : acc.toList.length = x.cps.toList.length := by rw [Array.length_toList, Array.length_toList, h.1]
  have key : ∀ (us : List Value) (cs : List Nat), us.length = cs.length → (∀ (i : Nat) (v : Value) (c : Nat), us[i]? = some v → cs[i]? = some c → ∃ u, v = .str ⟨#[c]⟩ u) → Vals (cs.map fun c => V.str ⟨#[c]⟩) us := by
    intro us
    induction us with
    | nil => intro cs h1 _; cases cs with
      | nil => exact .nil
      | cons _ _ => cases h1
    | cons v us ih => intro cs h1 h2; cases cs with
      | nil => cases h1
      | cons c cs =>
        obtain ⟨u, rfl⟩ := h2 0 v c (by simp) (by simp)
        exact .cons ⟨u, rfl⟩ (ih cs (by simpa using h1) fun i v c a b => h2 (i + 1) v c (by simpa using a) (by simpa using b))
  refine key _ _ hl fun i v c a b => ?_
  obtain ⟨c', u, e, rfl⟩ := h.2 i v (by rw [← Array.getElem?_toList]; exact a)
  rw [Array.getElem?_toList] at b
  rw [e] at b; cases b
  exact ⟨u, rfl⟩
theorem relDs_signs {K : PySem.W.Frag} {H : Hp} {ad : List Addr} {x : Str} : RelDs K H ad (strItems x) (x.cps.toList.map fun c => V.str ⟨#[c]⟩) := by
  unfold strItems
  induction x.cps.toList with
  | nil => exact RelDs.nil
  | cons c cs ih => exact RelDs.cons (relD_str.mpr rfl) ih
theorem cr_listD (hc : X.calm = true) : CallR X (.type "list") (rC (gx X cl) E listD) := by
  intro pins s σ H xs us Q I r ⟨ad, ds, st, S, rd, h⟩
  match ds, h with
  | [d], h =>
    obtain ⟨v, rfl, rv⟩ := relDs1 rd
    by_cases hs : ∃ x, d = .str x
    · obtain ⟨x, rfl⟩ := hs
      unfold listD list1 at h; simp only at h
      split at h
      · rename_i hz
        obtain ⟨u, rfl, ru⟩ : ∃ u, us = [u] ∧ RelV v u := by
          cases r with
          | cons a b => cases b; exact ⟨_, rfl, a⟩
        rw [relD_str.mp rv] at ru
        obtain ⟨t, rfl⟩ := ru
        refine call_list_str (I.ok.hd hc) x t (hn := hz) fun h' tk acc' c' hk hS' hacc => ?_
        have hn : H s.heap.objs.size = none := I.hok.fresh (Nat.le_refl _)
        have hl : (x.cps.toList.map fun c => V.str ⟨#[c]⟩).length ≤ sizeLine := by rw [List.length_map, Array.length_toList]; exact hz
        exact ⟨.ref s.heap.objs.size, upd H s.heap.objs.size (.lst (x.cps.toList.map fun c => V.str ⟨#[c]⟩)), I.laid (t' := tk) hk (Nat.le_refl _)
          (show ObjOk X.prog X.w _ _ _ (.lst _) from ⟨hl, acc'.toList, c', signs_vals hacc, by rw [Array.toArray_toList]; exact hS'⟩), rfl, Post.lst h S relDs_signs hn⟩
      · exact h.elim
    · have h : Post (gx X cl) E H ad (match seqD st d with
        | some ys => .ok (.loc st.length) (st ++ [.lst ys])
        | none => .stuck) Q := by
        unfold listD list1 at h
        cases d with
        | str x => exact absurd ⟨x, rfl⟩ hs
        | _ => exact h
      split at h
      · rename_i ys eo
        obtain ⟨p, vs, rfl, hs, rs⟩ := seqD_ok S rv eo
        exact call_list_of pins s σ H _ us Q I r ⟨p, vs, rfl, hs, fun l hl => Post.lst h S rs hl⟩
      · exact h.elim
def tupD : List D → Store → R D := fun xs st => match xs with
  | [d] => match seqD st d with
    | some ys => .ok (.tup ys) st
    | none => .stuck
  | _ => .stuck
theorem cr_tupD : CallR X (.type "tuple") (rC (gx X cl) E tupD) := by
  intro pins s σ H xs us Q I r ⟨ad, ds, st, S, rd, h⟩
  match ds, h with
  | [d], h =>
    obtain ⟨v, rfl, rv⟩ := relDs1 rd
    unfold tupD at h; simp only at h
    split at h
    · rename_i ys eo
      obtain ⟨p, vs, rfl, hs, rs⟩ := seqD_ok S rv eo
      refine call_tuple_of pins s σ H _ us Q I r ⟨p, vs, rfl, ?_⟩
      rcases hs with hs | hs
      · exact .inl ⟨hs, fun l hl => Post.tup h S rs hl⟩
      · exact .inr ⟨hs, Post.ret h S (relD_tup.mpr ⟨p, vs, rfl, hs, rs⟩)⟩
    · exact h.elim

/-! ### all, any, sum, min, max -/
def blsD : List D → Option (List Bool)
  | [] => some []
  | .bl b :: xs => (blsD xs).map (b :: ·)
  | _ => none
def intsD : List D → Option (List Int)
  | [] => some []
  | .int b :: xs => (intsD xs).map (b :: ·)
  | _ => none
def strsD : List D → Option (List Str)
  | [] => some []
  | .str b :: xs => (strsD xs).map (b :: ·)
  | _ => none
theorem blsD_ok {K : PySem.W.Frag} {H : Hp} {ad : List Addr} : ∀ {xs : List D} {vs : List V} {bs : List Bool}, RelDs K H ad xs vs → blsD xs = some bs → vs = bs.map V.bl
  | [], vs, bs, r, h => by cases h; exact relDs_nil.mp r
  | .bl b :: xs, vs, bs, r, h => by
    obtain ⟨v, ws, rfl, rv, t⟩ := relDs_cons.mp r
    unfold blsD at h
    cases e : blsD xs with
    | none => rw [e] at h; cases h
    | some cs => rw [e] at h; cases h; rw [relD_bl.mp rv, blsD_ok t e]; rfl
  | .non :: _, _, _, _, h => by cases h
  | .int _ :: _, _, _, _, h => by cases h
  | .str _ :: _, _, _, _, h => by cases h
  | .tup _ :: _, _, _, _, h => by cases h
  | .kl _ :: _, _, _, _, h => by cases h
  | .loc _ :: _, _, _, _, h => by cases h
theorem intsD_ok {K : PySem.W.Frag} {H : Hp} {ad : List Addr} : ∀ {xs : List D} {vs : List V} {bs : List Int}, RelDs K H ad xs vs → intsD xs = some bs → vs = bs.map V.int
  | [], vs, bs, r, h => by cases h; exact relDs_nil.mp r
  | .int b :: xs, vs, bs, r, h => by
    obtain ⟨v, ws, rfl, rv, t⟩ := relDs_cons.mp r
    unfold intsD at h
    cases e : intsD xs with
    | none => rw [e] at h; cases h
    | some cs => rw [e] at h; cases h; rw [relD_int.mp rv, intsD_ok t e]; rfl
  | .non :: _, _, _, _, h => by cases h
  | .bl _ :: _, _, _, _, h => by cases h
  | .str _ :: _, _, _, _, h => by cases h
  | .tup _ :: _, _, _, _, h => by cases h
  | .kl _ :: _, _, _, _, h => by cases h
  | .loc _ :: _, _, _, _, h => by cases h
theorem strsD_ok {K : PySem.W.Frag} {H : Hp} {ad : List Addr} : ∀ {xs : List D} {vs : List V} {bs : List Str}, RelDs K H ad xs vs → strsD xs = some bs → vs = bs.map V.str
  | [], vs, bs, r, h => by cases h; exact relDs_nil.mp r
  | .str b :: xs, vs, bs, r, h => by
    obtain ⟨v, ws, rfl, rv, t⟩ := relDs_cons.mp r
    unfold strsD at h
    cases e : strsD xs with
    | none => rw [e] at h; cases h
    | some cs => rw [e] at h; cases h; rw [relD_str.mp rv, strsD_ok t e]; rfl
  | .non :: _, _, _, _, h => by cases h
  | .int _ :: _, _, _, _, h => by cases h
  | .bl _ :: _, _, _, _, h => by cases h
  | .tup _ :: _, _, _, _, h => by cases h
  | .kl _ :: _, _, _, _, h => by cases h
  | .loc _ :: _, _, _, _, h => by cases h
def lstD (st : Store) : D → Option (List D)
  | .kl ys => some ys
  | .loc n => match st[n]? with
    | some (.lst ys) => some ys
    | _ => none
  | _ => none
theorem lstD_ok {H : Hp} {ad : List Addr} {st : Store} (S : Sim (gx X cl) H ad st) {d : D} {v : V} {ys : List D} (r : RelD X.K H ad d v) (h : lstD st d = some ys) : ∃ p vs, v = .ref p ∧ SqL X.K H p vs ∧ RelDs X.K H ad ys vs := by
  cases d with
  | kl xs => cases h; obtain ⟨p, vs, rfl, hs, rs⟩ := relD_kl.mp r; exact ⟨p, vs, rfl, hs.seq, rs⟩
  | loc n =>
    obtain ⟨p, rfl, hp⟩ := relD_loc.mp r
    unfold lstD at h; simp only at h
    split at h
    · rename_i zs eo
      cases h
      obtain ⟨vs, q1, q2⟩ := lst_at S hp eo
      exact ⟨p, vs, rfl, .of q1, q2⟩
    · cases h
  | _ => cases h
def allD : List D → Store → R D := fun xs st => match xs with
  | [d] => match (lstD st d).bind blsD with
    | some bs => .ok (.bl (bs.all id)) st
    | none => .stuck
  | _ => .stuck
def anyD : List D → Store → R D := fun xs st => match xs with
  | [d] => match (lstD st d).bind blsD with
    | some bs => .ok (.bl (bs.any id)) st
    | none => .stuck
  | _ => .stuck
def sumD : List D → Store → R D := fun xs st => match xs with
  | [d] => match (lstD st d).bind intsD with
    | some ns => .ok (.int ns.sum) st
    | none => .stuck
  | _ => .stuck
theorem cr_allD (hc : X.calm = true) : CallR X (.builtin "all") (rC (gx X cl) E allD) := by
  intro pins s σ H xs us Q I r ⟨ad, ds, st, S, rd, h⟩
  match ds, h with
  | [d], h =>
    obtain ⟨v, rfl, rv⟩ := relDs1 rd
    unfold allD at h; simp only at h
    split at h
    · rename_i bs eo
      obtain ⟨ys, e1, e2⟩ := Option.bind_eq_some_iff.mp eo
      obtain ⟨p, vs, rfl, hs, rs⟩ := lstD_ok S rv e1
      rw [blsD_ok rs e2] at hs
      exact cr_all hc pins s σ H _ us Q I r ⟨p, bs, rfl, hs, Post.ret h S (relD_bl.mpr rfl)⟩
    · exact h.elim
theorem cr_anyD (hc : X.calm = true) : CallR X (.builtin "any") (rC (gx X cl) E anyD) := by
  intro pins s σ H xs us Q I r ⟨ad, ds, st, S, rd, h⟩
  match ds, h with
  | [d], h =>
    obtain ⟨v, rfl, rv⟩ := relDs1 rd
    unfold anyD at h; simp only at h
    split at h
    · rename_i bs eo
      obtain ⟨ys, e1, e2⟩ := Option.bind_eq_some_iff.mp eo
      obtain ⟨p, vs, rfl, hs, rs⟩ := lstD_ok S rv e1
      rw [blsD_ok rs e2] at hs
      exact cr_any hc pins s σ H _ us Q I r ⟨p, bs, rfl, hs, Post.ret h S (relD_bl.mpr rfl)⟩
    · exact h.elim
def minD : List D → Store → R D := fun xs st => match xs with
  | [.int i, .int j] => .ok (.int (if j < i then j else i)) st
  | _ => .stuck
def maxD : List D → Store → R D := fun xs st => match xs with
  | [.int i, .int j] => .ok (.int (if j > i then j else i)) st
  | _ => .stuck
end
end Mp
end
section
set_option Elab.async false
set_option linter.all false
set_option maxRecDepth 100000
set_option maxHeartbeats 2000000
/-! Mp: in, not in; methods of lists, texts, dicts; stores; attributes; own classes. -/
namespace Mp
open PySem PySem.Spec PyProof.Rows L2
section
variable {X : Cx} {cl : Str → Addr} {E : XK} {a b c e o : Expr} {ma mb mc mo : M D} {pos p p2 apos cpos : Pos} {es : List Expr} {mas : M (List D)} {x : Str}
theorem cr_minD (hc : X.calm = true) : CallR X (.builtin "min") (rC (gx X cl) E minD) := by
  intro pins s σ H xs us Q I r ⟨ad, ds, st, S, rd, h⟩
  match ds, h with
  | [.int i, .int j], h =>
    obtain ⟨v, w, rfl, rv, rw'⟩ := relDs2 rd
    exact call_min2 hc pins s σ H _ us Q I r ⟨i, j, by rw [relD_int.mp rv, relD_int.mp rw'], Post.ret h S (relD_int.mpr rfl)⟩
theorem cr_maxD (hc : X.calm = true) : CallR X (.builtin "max") (rC (gx X cl) E maxD) := by
  intro pins s σ H xs us Q I r ⟨ad, ds, st, S, rd, h⟩
  match ds, h with
  | [.int i, .int j], h =>
    obtain ⟨v, w, rfl, rv, rw'⟩ := relDs2 rd
    exact call_max2 hc pins s σ H _ us Q I r ⟨i, j, by rw [relD_int.mp rv, relD_int.mp rw'], Post.ret h S (relD_int.mpr rfl)⟩

/-! ### in, not in -/
/-- some item equals x (the item on the left) -/
def inL (eq : D → D → Option Bool) (x : D) : List D → Option Bool
  | [] => some false
  | y :: ys => match eq y x, inL eq x ys with
    | some a, some b => some (a || b)
    | _, _ => none
def inStr (i z : Str) : Bool := if i.cps.size = 1 then decide (i.cps.toList.headD 0 ∈ z.cps.toList) else !(Builtin.Str.occurrences z i 0 z.length 1).isEmpty
def inO (st : Store) (x y : D) : Option Bool := match y with
  | .str z => match x with
    | .str i => some (inStr i z)
    | _ => none
  | .tup ys => inL (eqF st eqDeep) x ys
  | .kl ys => inL (eqF st eqDeep) x ys
  | .loc n => match st[n]? with
    | some (.lst ys) => inL (eqF st eqDeep) x ys
    | some (.dK kvs) => (keyOf x).map fun k => (valD kvs k).isSome
    | _ => none
  | _ => none
def inD : D → D → Store → R D := fun x y st => blR (inO st x y) st
def ninD : D → D → Store → R D := fun x y st => blR ((inO st x y).map (!·)) st
open SeqAt Classical in
theorem inL_at {H : Hp} {ad : List Addr} {st : Store} {pins : List (Addr × Obj)} {σ : L2.St} {s : Shared} (I : Inv X pins σ H s) (S : Sim (gx X cl) H ad st) {A : Around} (hu : A.units + eqDeep < cLine) {x : D} {v : V} {u : Value} (rx : RelD X.K H ad x v) (ru : RelV v u) :
    ∀ {ys : List D} {vs : List V} {us : List Value} {b : Bool}, RelDs X.K H ad ys vs → Vals vs us → inL (eqF st eqDeep) x ys = some b → ∃ e : Value → Bool, (∀ y, y ∈ us → EqAt A s y u (e y)) ∧ us.any e = b := by
  intro ys vs us b r rv h
  -- the answers by place
  have pl : ∃ bs : List Bool, bs.length = us.length ∧ (∀ (j : Nat) (y : Value) (k : Bool), us[j]? = some y → bs[j]? = some k → EqAt A s y u k) ∧ bs.any id = b := by
    induction ys generalizing vs us b with
    | nil =>
      rw [relDs_nil.mp r] at rv; cases rv; cases h
      exact ⟨[], rfl, fun j y k q => by simp at q, rfl⟩
    | cons y ys ih =>
      obtain ⟨w, ws, rfl, ry, ty⟩ := relDs_cons.mp r
      cases rv with
      | @cons _ z _ zs a1 t1 =>
      rw [inL] at h
      cases h3 : eqF st eqDeep y x with
      | none => rw [h3] at h; cases h
      | some p =>
        cases h4 : inL (eqF st eqDeep) x ys with
        | none => rw [h3, h4] at h; cases h
        | some q =>
          rw [h3, h4] at h; cases h
          obtain ⟨bs, f1, f2, f3⟩ := ih ty t1 h4
          refine ⟨p :: bs, by simp [f1], fun j y k q1 q2 => ?_, by simp [f3]⟩
          cases j with
          | zero =>
            simp at q1 q2; subst q1; subst q2
            exact (eqF_at I S eqDeep A hu ry rx a1 ru h3).1
          | succ j => exact f2 j y k (by simpa using q1) (by simpa using q2)
  obtain ⟨bs, f1, f2, f3⟩ := pl
  refine ⟨fun y => decide (∃ j : Nat, us[j]? = some y ∧ bs[j]? = some true), fun y hy => ?_, ?_⟩
  · show EqAt A s y u (decide (∃ j : Nat, us[j]? = some y ∧ bs[j]? = some true))
    by_cases q : ∃ j : Nat, us[j]? = some y ∧ bs[j]? = some true
    · rw [decide_eq_true q]
      obtain ⟨j, q1, q2⟩ := q
      exact f2 j y true q1 q2
    · rw [decide_eq_false q]
      obtain ⟨j, hl, e⟩ := List.getElem_of_mem hy
      have q1 : us[j]? = some y := List.getElem?_eq_some_iff.mpr ⟨hl, e⟩
      have q2 : bs[j]? = some bs[j] := List.getElem?_eq_getElem (by rw [f1]; exact hl)
      cases hb : bs[j] with
      | true => rw [hb] at q2; exact absurd ⟨j, q1, q2⟩ q
      | false => rw [hb] at q2; exact f2 j y false q1 q2
  · rw [← f3, Bool.eq_iff_iff]
    simp only [List.any_eq_true, decide_eq_true_eq, id]
    have z : (∃ x, x ∈ bs ∧ x = true) ↔ true ∈ bs := ⟨fun ⟨x, h1, h2⟩ => h2 ▸ h1, fun h => ⟨_, h, rfl⟩⟩
    try rw [z]
    constructor
    · rintro ⟨y, _, j, _, q⟩
      exact List.mem_of_getElem? q
    · intro hk
      obtain ⟨j, hl, e⟩ := List.getElem_of_mem hk
      have hl' : j < us.length := by rw [← f1]; exact hl
      exact ⟨us[j], List.getElem_mem hl', j, List.getElem?_eq_getElem hl', List.getElem?_eq_some_iff.mpr ⟨hl, e⟩⟩
theorem inStr_one {i : Str} (h : i.cps.size = 1) : i = ⟨#[i.cps.toList.headD 0]⟩ := by
  obtain ⟨⟨l⟩⟩ := i
  match l, h with
  | [c], _ => rfl
/-- in or not in, by the answer -/
theorem pc_of {op : CmpOp} {r : R2} {ta tb : TE} (ho : OpR X (compareOp op) r) (ha : PE X a ta) (hb : PE X b tb) : PC X op a b (tOp r ta tb) :=
  ⟨fun pins s σ H Q I h => bin ha hb I h fun v u s2 x y H2 I2 rx ry q => ho pins s2 σ H2 x y v u Q I2 rx ry q⟩
theorem in_rule (neg : Bool) {op : CmpOp} (hop : op = if neg then .NotIn else .In) (hu : X.A.units + 64 < cLine) (ha : PE X a (tE (gx X cl) E ma)) (hb : PE X b (tE (gx X cl) E mb)) : PC X op a b (tE (gx X cl) E (m2 (fun x y st => blR ((inO st x y).map (xor neg ·)) st) ma mb)) := by
  constructor
  intro pins s σ H Q I h
  obtain ⟨ad, ds, st, S, r, h⟩ := h
  unfold m2 at h
  have viaOp : ∀ {r0 : R2}, OpR X (compareOp op) r0 → (∀ d st1 v H1 ad1, ma ds st = .ok d st1 → Ext X.K H ad H1 ad1 → Sim (gx X cl) H1 ad1 st1 → RelD X.K H1 ad1 d v → ∀ e st2 u H2 ad2, mb ds st1 = .ok e st2 → Ext X.K H1 ad1 H2 ad2 → Sim (gx X cl) H2 ad2 st2 → RelD X.K H2 ad2 e u → r0 v u H2 Q) →
      wpAny (model X.prog X.w) X.A (eval a X.env) (fun v s₁ => wpAny (model X.prog X.w) X.A (eval b X.env) (fun u s₂ => wpAny (model X.prog X.w) X.A (compareOp op v u) (EP X pins σ Q) X.xe s₂) X.xe s₁) X.xe s := fun {r0} hr f => by
    refine (pc_of hr ha hb).run pins s σ H Q I ⟨ad, ds, st, S, r, ?_⟩
    cases e1 : ma ds st with
    | exc _ _ _ => rw [e1] at h; exact h
    | stuck => rw [e1] at h; exact h
    | ok d st1 =>
      rw [e1] at h
      intro v H1 ad1 x1 S1 rd
      have h := Post.ext x1 h
      refine ⟨ad1, ds, st1, S1, r.ext x1, ?_⟩
      simp only [R.bind_ok] at h
      cases e2 : mb ds st1 with
      | exc _ _ _ => rw [e2] at h; exact h
      | stuck => rw [e2] at h; exact h
      | ok e st2 => exact fun u H2 ad2 x2 S2 re => f d st1 v H1 ad1 e1 x1 S1 rd e st2 u H2 ad2 e2 x2 S2 re
  have nev : OpR X (compareOp op) (fun _ _ _ _ => False) := fun _ _ _ _ _ _ _ _ _ _ _ _ z => z.elim
  cases e1 : ma ds st with
  | exc _ _ _ => exact viaOp nev fun d st1 v H1 ad1 e => by rw [e1] at e; cases e
  | stuck => exact viaOp nev fun d st1 v H1 ad1 e => by rw [e1] at e; cases e
  | ok d st1 =>
    rw [e1] at h
    simp only [R.bind_ok] at h
    cases e2 : mb ds st1 with
    | exc _ _ _ => exact viaOp nev fun d' st1' v H1 ad1 e _ _ _ e' st2 u H2 ad2 q => by rw [e1] at e; cases e; rw [e2] at q; cases q
    | stuck => exact viaOp nev fun d' st1' v H1 ad1 e _ _ _ e' st2 u H2 ad2 q => by rw [e1] at e; cases e; rw [e2] at q; cases q
    | ok e st2 =>
      rw [e2] at h
      simp only [R.bind_ok] at h
      cases eo : inO st2 d e with
      | none => rw [eo] at h; exact h.elim
      | some k =>
        rw [eo] at h
        have h : Post (gx X cl) E H ad (.ok (.bl (xor neg k)) st2) Q := h
        have done : ∀ {r0 : R2}, OpR X (compareOp op) r0 → (∀ v u H2 ad2, Ext X.K H ad H2 ad2 → Sim (gx X cl) H2 ad2 st2 → RelD X.K H2 ad2 d v → RelD X.K H2 ad2 e u → Q (.bl (xor neg k)) H2 → r0 v u H2 Q) → wpAny (model X.prog X.w) X.A (eval a X.env) (fun v s₁ => wpAny (model X.prog X.w) X.A (eval b X.env) (fun u s₂ => wpAny (model X.prog X.w) X.A (compareOp op v u) (EP X pins σ Q) X.xe s₂) X.xe s₁) X.xe s := fun {r0} hr f =>
          viaOp hr fun d' st1' v H1 ad1 q1 x1 S1 rd e' st2' u H2 ad2 q2 x2 S2 re => by
            rw [e1] at q1; cases q1
            rw [e2] at q2; cases q2
            exact f v u H2 ad2 (x1.trans x2) S2 (rd.ext x2) re (Post.ret (Post.ext (x1.trans x2) h) S2 (relD_bl.mpr rfl))
        have seq : ∀ {ys : List D}, inL (eqF st2 eqDeep) d ys = some k → (∀ H2 ad2 u, Sim (gx X cl) H2 ad2 st2 → RelD X.K H2 ad2 e u → ∃ p vs, u = .ref p ∧ (SqL X.K H2 p vs ∨ SqT X.K H2 p vs) ∧ RelDs X.K H2 ad2 ys vs) → wpAny (model X.prog X.w) X.A (eval a X.env) (fun v s₁ => wpAny (model X.prog X.w) X.A (eval b X.env) (fun u s₂ => wpAny (model X.prog X.w) X.A (compareOp op v u) (EP X pins σ Q) X.xe s₂) X.xe s₁) X.xe s := fun {ys} hin g => by
          refine done (r0 := fun v u H2 Q' => ∃ ad2 p vs, Sim (gx X cl) H2 ad2 st2 ∧ RelD X.K H2 ad2 d v ∧ u = .ref p ∧ (SqL X.K H2 p vs ∨ SqT X.K H2 p vs) ∧ RelDs X.K H2 ad2 ys vs ∧ Q' (.bl (xor neg k)) H2) ?_ fun v u H2 ad2 x S2 rd re q => ?_
          · intro pins s σ H x y v u Q I rx ry ⟨ad2, p, vs, S2, rd, ey, hs, rs, q⟩
            subst ey
            cases ry
            have hu' : X.A.in1.units + eqDeep < cLine := by show X.A.units + 1 + 40 < _; omega
            rcases hs with hs | hs
            · obtain ⟨its, rv, hl, _⟩ := I.list hs
              obtain ⟨e, f1, f2⟩ := inL_at I S2 hu' rd rx rs rv hin
              cases neg with
              | false => subst hop; exact SeqAt.in_listAt e hl.isList (fun y hy => f1 y (by simpa using hy)) ⟨.bl _, H, I, rfl, by simpa [f2] using q⟩
              | true => subst hop; exact SeqAt.notIn_listAt e hl.isList (fun y hy => f1 y (by simpa using hy)) ⟨.bl _, H, I, rfl, by simpa [f2] using q⟩
            · obtain ⟨its, rv, hl, _⟩ := I.tuple hs
              obtain ⟨e, f1, f2⟩ := inL_at I S2 hu' rd rx rs rv hin
              cases neg with
              | false => subst hop; exact SeqAt.in_tupleAt e hl (fun y hy => f1 y (by simpa using hy)) ⟨.bl _, H, I, rfl, by simpa [f2] using q⟩
              | true => subst hop; exact SeqAt.notIn_tupleAt e hl (fun y hy => f1 y (by simpa using hy)) ⟨.bl _, H, I, rfl, by simpa [f2] using q⟩
          · obtain ⟨p, vs, eu, hs, rs⟩ := g H2 ad2 u S2 re
            exact ⟨ad2, p, vs, S2, rd, eu, hs, rs, q⟩
        cases e with
        | non => cases eo
        | bl _ => cases eo
        | int _ => cases eo
        | str z =>
          cases d with
          | str i =>
            have ek : inStr i z = k := Option.some.inj eo
            unfold inStr at ek
            by_cases h1 : i.cps.size = 1
            · rw [if_pos h1] at ek
              cases neg with
              | false =>
                subst hop
                refine done op_in_sign fun v u H2 ad2 x S2 rd re q => ⟨i.cps.toList.headD 0, z, ?_, relD_str.mp re, by rw [ek]; simpa using q⟩
                rw [relD_str.mp rd, ← inStr_one h1]
              | true =>
                subst hop
                refine done op_notIn_sign fun v u H2 ad2 x S2 rd re q => ⟨i.cps.toList.headD 0, z, ?_, relD_str.mp re, by rw [ek]; simpa using q⟩
                rw [relD_str.mp rd, ← inStr_one h1]
            · rw [if_neg h1] at ek
              cases neg with
              | false => subst hop; exact done op_in_str fun v u H2 ad2 x S2 rd re q => ⟨i, z, relD_str.mp rd, relD_str.mp re, by rw [ek]; simpa using q⟩
              | true => subst hop; exact done op_notin_str fun v u H2 ad2 x S2 rd re q => ⟨i, z, relD_str.mp rd, relD_str.mp re, by rw [ek]; simpa using q⟩
          | _ => cases eo
        | tup ys => exact seq eo fun H2 ad2 u S2 re => by obtain ⟨p, vs, rfl, hs, rs⟩ := relD_tup.mp re; exact ⟨p, vs, rfl, .inr hs, rs⟩
        | kl ys => exact seq eo fun H2 ad2 u S2 re => by obtain ⟨p, vs, rfl, hs, rs⟩ := relD_kl.mp re; exact ⟨p, vs, rfl, .inl hs.seq, rs⟩
        | loc n =>
          cases es : st2[n]? with
          | none => simp only [inO, es] at eo; cases eo
          | some ob =>
            cases ob with
            | ins _ _ => simp only [inO, es] at eo; cases eo
            | lst ys =>
              simp only [inO, es] at eo
              exact seq eo fun H2 ad2 u S2 re => by
                obtain ⟨p, rfl, hp⟩ := relD_loc.mp re
                obtain ⟨vs, q1, q2⟩ := lst_at S2 hp es
                exact ⟨p, vs, rfl, .inl (.of q1), q2⟩
            | dK kvs =>
              simp only [inO, es] at eo
              cases ek : keyOf d with
              | none => rw [ek] at eo; cases eo
              | some key =>
                rw [ek] at eo
                have ek2 : (valD kvs key).isSome = k := Option.some.inj eo
                have key_ok : ∀ {H2 ad2 v p} , Sim (gx X cl) H2 ad2 st2 → RelD X.K H2 ad2 d v → ad2[n]? = some p → ∃ o, DGet H2 p v o ∧ o.isSome = k := fun {H2 ad2 v p} S2 rd hp => by
                  obtain ⟨ks, q1, q2⟩ := dK_at S2 hp es
                  rw [keyOf_rel rd ek]
                  refine ⟨valV ks key, DGet.k q1, ?_⟩
                  rw [← ek2]
                  cases ev : valD kvs key with
                  | none => rw [(valD_rel q2).2 ev]; rfl
                  | some d' => obtain ⟨w, hw, _⟩ := (valD_rel q2).1 d' ev; rw [hw]; rfl
                have hu1 : X.A.units + 1 < cLine := by omega
                have body : ∀ (R' : VK → Hp → V → V → Prop), (∀ H2 v u, (∃ p o, u = .ref p ∧ DGet H2 p v o ∧ Q (.bl (xor neg o.isSome)) H2) → R' Q H2 v u) → tE (gx X cl) E ma σ H fun v H1 => tE (gx X cl) E mb σ H1 fun u H2 => R' Q H2 v u := fun R' f => by
                  refine ⟨ad, ds, st, S, r, ?_⟩
                  rw [e1]
                  intro v H1 ad1 x1 S1 rd
                  refine ⟨ad1, ds, st1, S1, r.ext x1, ?_⟩
                  rw [e2]
                  intro u H2 ad2 x2 S2 re
                  obtain ⟨p, rfl, hp⟩ := relD_loc.mp re
                  obtain ⟨o, g1, g2⟩ := key_ok S2 (rd.ext x2) hp
                  exact f H2 v _ ⟨p, o, rfl, g1, by rw [g2]; exact Post.ret (Post.ext (x1.trans x2) h) S2 (relD_bl.mpr rfl)⟩
                cases neg with
                | false =>
                  subst hop
                  refine (pc_din hu1 ha hb).run pins s σ H Q I (body (fun Q H2 v u => ∃ a o, u = .ref a ∧ DGet H2 a v o ∧ Q (.bl o.isSome) H2) fun H2 v u ⟨p, o, q1, q2, q3⟩ => ⟨p, o, q1, q2, by simpa using q3⟩)
                | true =>
                  subst hop
                  refine (pc_dnotin hu1 ha hb).run pins s σ H Q I (body (fun Q H2 v u => ∃ a o, u = .ref a ∧ DGet H2 a v o ∧ Q (.bl (!o.isSome)) H2) fun H2 v u ⟨p, o, q1, q2, q3⟩ => ⟨p, o, q1, q2, by simpa using q3⟩)
theorem pc_in (hu : X.A.units + 64 < cLine) (ha : PE X a (tE (gx X cl) E ma)) (hb : PE X b (tE (gx X cl) E mb)) : PC X .In a b (tE (gx X cl) E (m2 inD ma mb)) := by
  have e : (m2 inD ma mb : M D) = m2 (fun x y st => blR ((inO st x y).map (xor false ·)) st) ma mb := by
    unfold inD; congr 1; funext x y st; cases inO st x y <;> simp
  rw [e]
  exact in_rule false rfl hu ha hb
theorem pc_nin (hu : X.A.units + 64 < cLine) (ha : PE X a (tE (gx X cl) E ma)) (hb : PE X b (tE (gx X cl) E mb)) : PC X .NotIn a b (tE (gx X cl) E (m2 ninD ma mb)) := by
  have e : (m2 ninD ma mb : M D) = m2 (fun x y st => blR ((inO st x y).map (xor true ·)) st) ma mb := by
    unfold ninD; congr 1; funext x y st; cases inO st x y <;> simp
  rw [e]
  exact in_rule true rfl hu ha hb
theorem mt_pc {op : CmpOp} {m : M D} (h : PC X op a b (tE (gx X cl) E m)) (hm : behindInMarks op b = false := by rfl) : PT X (.Compare a [op] [b] pos) (tT (gx X cl) E (tB1 m)) :=
  tT.imp (pt_cmp h hm) fun σ H Q ⟨ad, ds, st, S, r, h⟩ => ⟨ad, ds, st, S, r, Post.isB h⟩
theorem me_in (hu : X.A.units + 64 < cLine) (ha : PE X a (tE (gx X cl) E ma)) (hb : PE X b (tE (gx X cl) E mb)) (hm : behindInMarks .In b = false := by rfl) : PE X (.Compare a [.In] [b] pos) (tE (gx X cl) E (m2 inD ma mb)) := pe_cmp (pc_in hu ha hb) hm
theorem me_nin (hu : X.A.units + 64 < cLine) (ha : PE X a (tE (gx X cl) E ma)) (hb : PE X b (tE (gx X cl) E mb)) (hm : behindInMarks .NotIn b = false := by rfl) : PE X (.Compare a [.NotIn] [b] pos) (tE (gx X cl) E (m2 ninD ma mb)) := pe_cmp (pc_nin hu ha hb) hm
theorem mt_in (hu : X.A.units + 64 < cLine) (ha : PE X a (tE (gx X cl) E ma)) (hb : PE X b (tE (gx X cl) E mb)) (hm : behindInMarks .In b = false := by rfl) : PT X (.Compare a [.In] [b] pos) (tT (gx X cl) E (tB1 (m2 inD ma mb))) := mt_pc (pc_in hu ha hb) hm
theorem mt_nin (hu : X.A.units + 64 < cLine) (ha : PE X a (tE (gx X cl) E ma)) (hb : PE X b (tE (gx X cl) E mb)) (hm : behindInMarks .NotIn b = false := by rfl) : PT X (.Compare a [.NotIn] [b] pos) (tT (gx X cl) E (tB1 (m2 ninD ma mb))) := mt_pc (pc_nin hu ha hb) hm
end
end Mp
end
section
set_option Elab.async false
set_option linter.all false
set_option maxRecDepth 100000
set_option maxHeartbeats 2000000
/-! Mp: methods of lists and texts; stores; attributes; own classes. -/
namespace Mp
open PySem PySem.Spec PyProof.Rows L2
theorem NoTup.lst_set {g : G} {H : Hp} {ad : List Addr} {st : Store} {n : Nat} {p : Addr} {ys : List D} {vs ws : List V} (S : Sim g H ad st) (hp : ad[n]? = some p) (e : H p = some (.lst vs)) (r : RelDs g.K H ad ys ws) :
    Ext g.K H ad (upd H p (.lst ws)) ad ∧ Sim g (upd H p (.lst ws)) ad (st.set n (.lst ys)) := by
  have x0 : Ext g.K H ad (upd H p (.lst ws)) ad := Ext.write (List.mem_of_getElem? hp) (.of_lst e)
  exact ⟨x0, S.write hp (.of_lst e) ⟨ws, upd_same, r.ext x0⟩⟩
section
variable {X : Cx} {cl : Str → Addr} {E : XK} {a b c e o : Expr} {ma mb mc mo : M D} {pos p p2 apos cpos : Pos} {es : List Expr} {mas : M (List D)} {x : Str}

/-! ### methods of lists -/
def appendD : D → List D → Store → R D := fun x xs st => match x, xs with
  | .loc n, [d] => match st[n]? with
    | some (.lst ys) => if ys.length < sizeLine then .ok .non (st.set n (.lst (ys ++ [d]))) else .stuck
    | _ => .stuck
  | _, _ => .stuck
def extendD : D → List D → Store → R D := fun x xs st => match x, xs with
  | .loc n, [.loc m] => match st[n]?, st[m]? with
    | some (.lst ys), some (.lst zs) => if ys.length + zs.length ≤ sizeLine then .ok .non (st.set n (.lst (ys ++ zs))) else .stuck
    | _, _ => .stuck
  | _, _ => .stuck
def popD : D → List D → Store → R D := fun x xs st => match x, xs with
  | .loc n, [] => match st[n]? with
    | some (.lst ys) => (match ys[ys.length - 1]? with
      | some d => .ok d (st.set n (.lst ys.dropLast))
      | none => .stuck)
    | _ => .stuck
  | .loc n, [.int i] => match st[n]? with
    | some (.lst ys) => if -(2 ^ 63) ≤ i ∧ i < 2 ^ 63 then (match seqIndex? i ys.length with
      | some k => (match ys[k]? with
        | some d => .ok d (st.set n (.lst (ys.eraseIdx k)))
        | none => .stuck)
      | none => .stuck) else .stuck
    | _ => .stuck
  | _, _ => .stuck
/-- a built-in's method, the receiver a list of the store -/
theorem RelDs.dropLast {K : PySem.W.Frag} {H : Hp} {ad : List Addr} {xs : List D} {vs : List V} (r : RelDs K H ad xs vs) : RelDs K H ad xs.dropLast vs.dropLast := by
  rw [List.dropLast_eq_take, List.dropLast_eq_take, r.length]
  exact r.take _
theorem RelDs.eraseIdx {K : PySem.W.Frag} {H : Hp} {ad : List Addr} {xs : List D} {vs : List V} (r : RelDs K H ad xs vs) (k : Nat) : RelDs K H ad (xs.eraseIdx k) (vs.eraseIdx k) := by
  rw [List.eraseIdx_eq_take_drop_succ, List.eraseIdx_eq_take_drop_succ]
  exact (r.take _).append (r.drop _)
/-- a method of a built-in type T -/
def mBM (T : String) (f : D → List D → Store → R D) (o : M D) (as : M (List D)) : M D := fun ds st => (o ds st).bind fun x st => if tyD st x = some T then (as ds st).bind fun xs st => f x xs st else .stuck
theorem tyV_of {H : Hp} {ad : List Addr} {st : Store} (S : Sim (gx X cl) H ad st) {T : String} {d : D} {v : V} (r : RelD X.K H ad d v) (h : tyD st d = some T) (hT : T = "list" ∨ T = "str" ∨ T = "dict") : tyV X.K T v H := by
  cases d with
  | non => cases h; rcases hT with q | q | q <;> exact absurd q (by decide)
  | bl _ => cases h; rcases hT with q | q | q <;> exact absurd q (by decide)
  | int _ => cases h; rcases hT with q | q | q <;> exact absurd q (by decide)
  | str _ => cases h; rw [relD_str.mp r]; rfl
  | tup _ => cases h; rcases hT with q | q | q <;> exact absurd q (by decide)
  | kl xs =>
    cases h
    obtain ⟨p, vs, rfl, hs, _⟩ := relD_kl.mp r
    exact .inl ⟨rfl, vs, hs.seq⟩
  | loc n =>
    obtain ⟨p, rfl, hp⟩ := relD_loc.mp r
    obtain ⟨ob, eo, ro⟩ := S.lt hp
    cases ob with
    | lst xs =>
      simp only [tyD, eo] at h; cases h
      obtain ⟨vs, e, _⟩ := ro
      exact .inl ⟨rfl, vs, .of e⟩
    | dK xs =>
      simp only [tyD, eo] at h; cases h
      obtain ⟨vs, e, _⟩ := ro
      exact .inr (.inr (.inl ⟨rfl, .inl ⟨vs, e⟩⟩))
    | ins _ _ => simp only [tyD, eo] at h; cases h
theorem me_bm {T id : String} {name : Str} {f : D → List D → Store → R D} (hT : T = "list" ∨ T = "str" ∨ T = "dict") (pa : PlainAttrs T) (slot : Slot T name id) (hty : typeOf (.builtin id) = pure (.type "method_descriptor")) (hm : MtR X id (rM (gx X cl) E f)) (ho : PE X o (tE (gx X cl) E mo)) (ha : PA X (e :: es) (tA (gx X cl) E mas))
    (hbase : attributeBase o name X.env (eval o X.env) = eval o X.env := by rfl)
    (hfew : ((backTo cpos (starEach (e :: es) X.env)).all (fun x => !x.1) && (backToKw cpos (keywordEach [] X.env)).all (fun x => x.1.isSome)
      && decide ((e :: es).length + ([] : List Keyword).length + (if ([] : List Keyword).isEmpty then 0 else 1) < 30)) = true := by rfl)
    (hline : (apos.endLine == cpos.line) = true := by rfl) (hs : starEach (e :: es) X.env = (false, eval e X.env) :: starEach es X.env := by rfl) (hplain : (backTo cpos (starEach es X.env)).any (·.1) = false := by rfl) :
    PE X (.Call (.Attribute o name apos) (e :: es) [] cpos) (tE (gx X cl) E (mBM T f mo mas)) :=
  tE.imp (pe_bm pa slot hty hm ho ha hbase hfew hline hs hplain) fun σ H Q ⟨ad, ds, st, S, r, h⟩ => by
    refine tE.go S r h fun x st1 v H1 ad1 e1 S1 r1 rx h1 => ?_
    split at h1
    · rename_i ht
      refine ⟨tyV_of S1 rx ht hT, ?_⟩
      refine tA.go S1 r1 h1 fun xs st2 vs H2 ad2 e2 S2 r2 rxs h2 => ?_
      exact ⟨ad2, x, xs, st2, S2, rx.ext e2, rxs, h2⟩
    · exact h1.elim
theorem me_bm0 {T id : String} {name : Str} {f : D → List D → Store → R D} (hT : T = "list" ∨ T = "str" ∨ T = "dict") (pa : PlainAttrs T) (slot : Slot T name id) (hty : typeOf (.builtin id) = pure (.type "method_descriptor")) (hm : MtR X id (rM (gx X cl) E f)) (ho : PE X o (tE (gx X cl) E mo))
    (hbase : attributeBase o name X.env (eval o X.env) = eval o X.env := by rfl) (hline : (apos.endLine == cpos.line) = true := by rfl) : PE X (.Call (.Attribute o name apos) [] [] cpos) (tE (gx X cl) E (mBM T f mo mNil)) :=
  tE.imp (pe_bm0 pa slot hty hm ho hbase hline) fun σ H Q ⟨ad, ds, st, S, r, h⟩ => by
    refine tE.go S r h fun x st1 v H1 ad1 e1 S1 r1 rx h1 => ?_
    split at h1
    · rename_i ht
      exact ⟨tyV_of S1 rx ht hT, ad1, x, [], st1, S1, rx, .nil, h1⟩
    · exact h1.elim
theorem mt_appendD : MtR X "list.append" (rM (gx X cl) E appendD) := by
  intro pins s σ H x xs v us Q I rx rv ⟨ad, d, ds, st, S, rd, rs, h⟩
  unfold appendD at h
  split at h
  · rename_i n y
    obtain ⟨p, rfl, hp⟩ := relD_loc.mp rd
    obtain ⟨w, rfl, rw'⟩ := relDs1 rs
    split at h
    · rename_i ys eo
      split at h
      · rename_i hz
        obtain ⟨vs, q1, q2⟩ := lst_at S hp eo
        obtain ⟨x0, S2⟩ := NoTup.lst_set S hp q1 (q2.append (.cons rw' .nil))
        exact mt_append pins s σ H _ _ v us Q I rx rv ⟨p, vs, w, rfl, rfl, q1, by rw [← q2.length]; exact hz, h _ _ _ x0 S2 (relD_non.mpr rfl)⟩
      · exact h.elim
    · exact h.elim
  · exact h.elim
theorem mt_extendD : MtR X "list.extend" (rM (gx X cl) E extendD) := by
  intro pins s σ H x xs v us Q I rx rv ⟨ad, d, ds, st, S, rd, rs, h⟩
  unfold extendD at h
  split at h
  · rename_i n m
    obtain ⟨p, rfl, hp⟩ := relD_loc.mp rd
    obtain ⟨w, rfl, rw'⟩ := relDs1 rs
    obtain ⟨q, rfl, hq⟩ := relD_loc.mp rw'
    split at h
    · rename_i ys zs eo eo2
      split at h
      · rename_i hz
        obtain ⟨vs, q1, q2⟩ := lst_at S hp eo
        obtain ⟨ws, k1, k2⟩ := lst_at S hq eo2
        obtain ⟨x0, S2⟩ := NoTup.lst_set S hp q1 (q2.append k2)
        exact mt_extend pins s σ H _ _ v us Q I rx rv ⟨p, q, vs, ws, rfl, rfl, q1, k1, by rw [← q2.length, ← k2.length]; exact hz, h _ _ _ x0 S2 (relD_non.mpr rfl)⟩
      · exact h.elim
    · exact h.elim
  · exact h.elim
theorem mt_popD : MtR X "list.pop" (rM (gx X cl) E popD) := by
  intro pins s σ H x xs v us Q I rx rv ⟨ad, d, ds, st, S, rd, rs, h⟩
  unfold popD at h
  split at h
  · rename_i n
    obtain ⟨p, rfl, hp⟩ := relD_loc.mp rd
    have e0 := relDs_nil.mp rs
    subst e0
    split at h
    · rename_i ys eo
      split at h
      · rename_i d ed
        obtain ⟨vs, q1, q2⟩ := lst_at S hp eo
        obtain ⟨w, hw, rw'⟩ := q2.get ed
        obtain ⟨x0, S2⟩ := NoTup.lst_set S hp q1 q2.dropLast
        exact mt_pop pins s σ H _ _ v us Q I rx rv ⟨p, vs, w, rfl, rfl, q1, by rw [← q2.length]; exact hw, h _ _ _ x0 S2 (rw'.ext x0)⟩
      · exact h.elim
    · exact h.elim
  · rename_i n i
    obtain ⟨p, rfl, hp⟩ := relD_loc.mp rd
    obtain ⟨w, rfl, rw'⟩ := relDs1 rs
    have ei := relD_int.mp rw'
    subst ei
    split at h
    · rename_i ys eo
      split at h
      · rename_i hz
        split at h
        · rename_i k ek
          split at h
          · rename_i d ed
            obtain ⟨vs, q1, q2⟩ := lst_at S hp eo
            obtain ⟨w, hw, rw'⟩ := q2.get ed
            obtain ⟨x0, S2⟩ := NoTup.lst_set S hp q1 (q2.eraseIdx k)
            exact mt_popAt pins s σ H _ _ v us Q I rx rv ⟨p, vs, i, k, w, rfl, rfl, q1, hz.1, hz.2, by rw [← q2.length]; exact ek, hw, h _ _ _ x0 S2 (rw'.ext x0)⟩
          · exact h.elim
        · exact h.elim
      · exact h.elim
    · exact h.elim
  · exact h.elim

/-! ### methods of texts -/
def joinD : D → List D → Store → R D := fun x xs st => match x, xs with
  | .str a, [d] => match (seqD st d).bind strsD with
    | some ys => if (ys.map (·.length)).sum + ys.length * a.length ≤ 16777216 then .ok (.str (Txt.join a ys)) st else .stuck
    | none => .stuck
  | _, _ => .stuck
theorem mt_joinD : MtR X "str.join" (rM (gx X cl) E joinD) := by
  intro pins s σ H x xs v us Q I rx rv ⟨ad, d, ds, st, S, rd, rs, h⟩
  unfold joinD at h
  split at h
  · rename_i a y
    obtain ⟨w, rfl, rw'⟩ := relDs1 rs
    split at h
    · rename_i ys eo
      split at h
      · rename_i hz
        obtain ⟨zs, e1, e2⟩ := Option.bind_eq_some_iff.mp eo
        obtain ⟨p, vs, rfl, hs, rs⟩ := seqD_ok S rw' e1
        rw [strsD_ok rs e2] at hs
        exact mt_join pins s σ H _ _ v us Q I rx rv ⟨a, p, ys, relD_str.mp rd, rfl, hs, hz, Post.ret h S (relD_str.mpr rfl)⟩
      · exact h.elim
    · exact h.elim
  · exact h.elim
def sindexD : D → List D → Store → R D := fun x xs st => match x, xs with
  | .str a, [.str b] => match Builtin.Str.occurrences a b 0 a.length 1 with
    | i :: _ => .ok (.int (i : Nat)) st
    | [] => .stuck
  | _, _ => .stuck
theorem mt_sindexD : MtR X "str.index" (rM (gx X cl) E sindexD) := by
  intro pins s σ H x xs v us Q I rx rv ⟨ad, d, ds, st, S, rd, rs, h⟩
  unfold sindexD at h
  split at h
  · rename_i a b
    obtain ⟨w, rfl, rw'⟩ := relDs1 rs
    split at h
    · rename_i i rest eo
      exact mt_sindex pins s σ H _ _ v us Q I rx rv ⟨a, b, i, rest, relD_str.mp rd, by rw [relD_str.mp rw'], eo, Post.ret h S (relD_int.mpr rfl)⟩
    · exact h.elim
  · exact h.elim

/-! ### stores: d[k] = v, xs[i] = v -/
def putKD (kvs : List (Key × D)) (k : Key) (v : D) : List (Key × D) :=
  if (kvs.any fun kv => decide (kv.1 = k)) = true then kvs.map (fun kv => if kv.1 = k then (kv.1, v) else kv) else kvs ++ [(k, v)]
def dropKD (kvs : List (Key × D)) (k : Key) : List (Key × D) := kvs.filter fun kv => decide (kv.1 ≠ k)
theorem relKs_any {K : PySem.W.Frag} {H : Hp} {ad : List Addr} {k : Key} : ∀ {kvs : List (Key × D)} {ks : List (Key × V)}, RelKs K H ad kvs ks → (kvs.any fun kv => decide (kv.1 = k)) = (ks.any fun kv => decide (kv.1 = k))
  | _, _, .nil => rfl
  | _, _, .cons r t => by
    simp only [List.any_cons, r.1]
    rw [relKs_any t]
theorem relKs_map {K : PySem.W.Frag} {H : Hp} {ad : List Addr} {k : Key} {d : D} {v : V} (rd : RelD K H ad d v) : ∀ {kvs : List (Key × D)} {ks : List (Key × V)}, RelKs K H ad kvs ks → RelKs K H ad (kvs.map (fun kv => if kv.1 = k then (kv.1, d) else kv)) (ks.map (fun kv => if kv.1 = k then (kv.1, v) else kv))
  | _, _, .nil => .nil
  | (p :: ps), (q :: qs), .cons r t => by
    rw [List.map_cons, List.map_cons]
    refine .cons ?_ (relKs_map rd t)
    by_cases hk : p.1 = k
    · rw [if_pos hk, if_pos (r.1 ▸ hk)]; exact ⟨r.1, rd⟩
    · rw [if_neg hk, if_neg (r.1 ▸ hk)]; exact r
theorem relKs_snoc {K : PySem.W.Frag} {H : Hp} {ad : List Addr} {k : Key} {d : D} {v : V} (rd : RelD K H ad d v) : ∀ {kvs : List (Key × D)} {ks : List (Key × V)}, RelKs K H ad kvs ks → RelKs K H ad (kvs ++ [(k, d)]) (ks ++ [(k, v)])
  | _, _, .nil => .cons ⟨rfl, rd⟩ .nil
  | _, _, .cons r t => .cons r (relKs_snoc rd t)
theorem relKs_put {K : PySem.W.Frag} {H : Hp} {ad : List Addr} {k : Key} {d : D} {v : V} (rd : RelD K H ad d v) {kvs : List (Key × D)} {ks : List (Key × V)} (r : RelKs K H ad kvs ks) : RelKs K H ad (putKD kvs k d) (putK ks k v) := by
  unfold putKD putK
  rw [relKs_any r]
  split
  · exact relKs_map rd r
  · exact relKs_snoc rd r
theorem relKs_drop {K : PySem.W.Frag} {H : Hp} {ad : List Addr} {k : Key} : ∀ {kvs : List (Key × D)} {ks : List (Key × V)}, RelKs K H ad kvs ks → RelKs K H ad (dropKD kvs k) (dropK ks k)
  | _, _, .nil => .nil
  | (p :: ps), (q :: qs), .cons r t => by
    have ih := relKs_drop (k := k) (show RelKs K H ad ps qs from t)
    unfold dropKD dropK at ih ⊢
    rw [List.filter_cons, List.filter_cons, r.1]
    by_cases hk : q.1 = k
    · rw [if_neg (by simp [hk]), if_neg (by simp [hk])]; exact ih
    · rw [if_pos (by simp [hk]), if_pos (by simp [hk])]; exact .cons r ih
def setD : D → D → D → Store → R Unit := fun o i v st => match o with
  | .loc n => match st[n]? with
    | some (.lst xs) => (match i with
      | .int k => (match ixN xs.length k with
        | some j => .ok () (st.set n (.lst (xs.set j v)))
        | none => .stuck)
      | _ => .stuck)
    | some (.dK kvs) => (match keyOf i with
      | some k => if kvs.length < sizeLine then .ok () (st.set n (.dK (putKD kvs k v))) else .stuck
      | none => .stuck)
    | _ => .stuck
  | _ => .stuck
/-- o[i] = v, as a target -/
def gSb (mo mi : M D) : D → M DSt := fun v ds st => match mo ds st with
  | .ok o st => (match mi ds st with
    | .ok i st => (match setD o i v st with
      | .ok _ st => .ok ds st
      | _ => .stuck)
    | _ => .stuck)
  | _ => .stuck
theorem mg_sub (hu : X.A.units + 1 < cLine) (ho : PE X o (tE (gx X cl) E mo)) (ha : PE X a (tE (gx X cl) E ma))
    (tg : PE X o (tE (gx X cl) E mo) → PE X a (tE (gx X cl) E ma) → ∀ ts : TSet, PSet X ts → PG X (.Subscript o a pos) (gSub (tE (gx X cl) E mo) (tE (gx X cl) E ma) ts) := by exact fun h1 h2 ts h => pg_sub h1 h2 h) : PG X (.Subscript o a pos) (tG (gx X cl) E (gSb mo ma)) := by
  refine ⟨fun pins s σ H v u Q I rv h => ?_⟩
  obtain ⟨ad, d, ds, st, S, r, rd, h⟩ := h
  unfold gSb at h
  have go : ∀ {t : TSet}, PSet X t → (∀ x y H2 ad2 st2 dx dy, Ext X.K H ad H2 ad2 → Sim (gx X cl) H2 ad2 st2 → RelD X.K H2 ad2 dx x → RelD X.K H2 ad2 dy y → RelD X.K H2 ad2 d v → RelS X.K H2 ad2 ds σ → (∀ st1, mo ds st = .ok dx st1 → ma ds st1 = .ok dy st2 → t x y v H2 fun H3 => Q σ H3)) →
      wpAny (model X.prog X.w) X.A (assign (.Subscript o a pos) X.env u) (fun _ s' => ∃ σ' H', Inv X pins σ' H' s' ∧ Q σ' H') X.xe s := fun {t} ht f => by
    refine (tg ho ha _ ht).run pins s σ H v u Q I rv ⟨ad, ds, st, S, r, ?_⟩
    cases e1 : mo ds st with
    | exc _ _ _ => rw [e1] at h; exact h.elim
    | stuck => rw [e1] at h; exact h.elim
    | ok dx st1 =>
      rw [e1] at h
      intro x H1 ad1 x1 S1 rx
      refine ⟨ad1, ds, st1, S1, r.ext x1, ?_⟩
      simp only at h
      cases e2 : ma ds st1 with
      | exc _ _ _ => rw [e2] at h; exact h.elim
      | stuck => rw [e2] at h; exact h.elim
      | ok dy st2 =>
        intro y H2 ad2 x2 S2 ry
        exact f x y H2 ad2 st2 dx dy (x1.trans x2) S2 (rx.ext x2) ry (rd.ext (x1.trans x2)) (r.ext (x1.trans x2)) st1 e1 e2
  cases e1 : mo ds st with
  | exc _ _ _ => rw [e1] at h; exact h.elim
  | stuck => rw [e1] at h; exact h.elim
  | ok dx st1 =>
    rw [e1] at h
    simp only at h
    cases e2 : ma ds st1 with
    | exc _ _ _ => rw [e2] at h; exact h.elim
    | stuck => rw [e2] at h; exact h.elim
    | ok dy st2 =>
      rw [e2] at h
      simp only at h
      cases dx with
      | loc n =>
        cases eo : st2[n]? with
        | none => simp only [setD, eo] at h; exact h.elim
        | some ob =>
          cases ob with
          | ins _ _ => simp only [setD, eo] at h; exact h.elim
          | lst xs =>
            simp only [setD, eo] at h
            refine go set_list fun x y H2 ad2 st2' dx' dy' x2 S2 rx ry rv2 r2 st1' q1 q2 => ?_
            rw [e1] at q1; cases q1
            rw [e2] at q2; cases q2
            cases dy with
            | int k =>
              simp only at h
              cases ej : ixN xs.length k with
              | none => rw [ej] at h; exact h.elim
              | some j =>
                rw [ej] at h
                obtain ⟨p, rfl, hp⟩ := relD_loc.mp rx
                obtain ⟨vs, k1, k2⟩ := lst_at S2 hp eo
                obtain ⟨x0, S3⟩ := NoTup.lst_set S2 hp k1 (RelDs.set j rv2 k2)
                exact ⟨p, vs, k, j, rfl, relD_int.mp ry, k1, by rw [← k2.length]; exact ej, h _ _ _ (x2.trans x0) S3 (r2.ext x0)⟩
            | _ => exact h.elim
          | dK kvs =>
            simp only [setD, eo] at h
            refine go (set_dict hu) fun x y H2 ad2 st2' dx' dy' x2 S2 rx ry rv2 r2 st1' q1 q2 => ?_
            rw [e1] at q1; cases q1
            rw [e2] at q2; cases q2
            cases ek : keyOf dy with
            | none => rw [ek] at h; exact h.elim
            | some k =>
              rw [ek] at h
              simp only at h
              split at h
              · rename_i ds' st' e3
                split at e3
                · rename_i hz
                  cases e3
                  obtain ⟨p, rfl, hp⟩ := relD_loc.mp rx
                  obtain ⟨ks, k1, k2⟩ := dK_at S2 hp eo
                  have x0 : Ext X.K H2 ad2 (upd H2 p (.dK (putK ks k v))) ad2 := Ext.write (List.mem_of_getElem? hp) (.of_dK k1)
                  rw [keyOf_rel ry ek]
                  exact ⟨p, _, rfl, DPut.k k1 (by rw [← Paired.length k2]; exact hz), h _ _ _ (x2.trans x0) (S2.write hp (.of_dK k1) ⟨_, upd_same, (relKs_put rv2 k2).ext x0⟩) (r2.ext x0)⟩
                · cases e3
              · exact h.elim
      | _ => exact h.elim

/-! ### attributes -/
def fldD (c f : Str) : D → Store → R D := fun x st => match x with
  | .loc n => match st[n]? with
    | some (.ins c' fs) => if c' = c then optR (fs.lookup f) st else .stuck
    | _ => .stuck
  | _ => .stuck
theorem ins_at {g : G} {H : Hp} {ad : List Addr} {st : Store} {n : Nat} {p : Addr} {c : Str} {fs : List (Str × D)} (S : Sim g H ad st) (hp : ad[n]? = some p) (e : st[n]? = some (.ins c fs)) : ∃ dx ks, H p = some (.ins (g.cl c) dx ks) ∧ RelFs g.K H ad fs ks := by
  obtain ⟨o, eo, ro⟩ := S.lt hp
  rw [e] at eo; cases eo
  exact ro
theorem relFs_lookup {K : PySem.W.Frag} {H : Hp} {ad : List Addr} {f : Str} : ∀ {fs : List (Str × D)} {ks : List (Str × V)}, RelFs K H ad fs ks → (∀ d, fs.lookup f = some d → ∃ v, ks.lookup f = some v ∧ RelD K H ad d v) ∧ (fs.lookup f = none → ks.lookup f = none)
  | _, _, .nil => ⟨fun _ z => (nomatch z), fun _ => rfl⟩
  | (p :: ps), (q :: qs), .cons r t => by
    obtain ⟨g, d⟩ := p
    obtain ⟨g', v⟩ := q
    obtain ⟨e, rv⟩ := r
    simp only at e rv
    subst e
    have ih := relFs_lookup (f := f) (show RelFs K H ad ps qs from t)
    by_cases h : f = g
    · subst h
      simp only [List.lookup, beq_self_eq_true]
      exact ⟨fun d' z => by (cases z; exact ⟨v, rfl, rv⟩), fun z => (nomatch z)⟩
    · have hb : (f == g) = false := beq_eq_false_iff_ne.mpr h
      simp only [List.lookup, hb]
      exact ih
theorem me_fld {c f : Str} (hc : Cls X.K (cl c)) (hn : NoAttr X.K (cl c) f) (ha : PE X a (tE (gx X cl) E ma)) (hb : attributeBase a f X.env (eval a X.env) = eval a X.env := by rfl) : PE X (.Attribute a f pos) (tE (gx X cl) E (m1 (fldD c f) ma)) :=
  tE.imp (pe_fld ha hb) fun σ H Q ⟨ad, ds, st, S, r, h⟩ => by
    refine tE.go S r h fun x st1 v H1 ad1 e1 S1 r1 rx h1 => ?_
    cases x with
    | loc n =>
      unfold fldD at h1; simp only at h1
      split at h1
      · rename_i c' fs eo
        split at h1
        · rename_i hcc
          subst hcc
          obtain ⟨d, ed, h1⟩ := Post.opt h1
          obtain ⟨p, rfl, hp⟩ := relD_loc.mp rx
          obtain ⟨dx, ks, k1, k2⟩ := ins_at S1 hp eo
          obtain ⟨w, hw, rw'⟩ := (relFs_lookup k2).1 d ed
          exact ⟨p, cl c', dx, ks, w, rfl, k1, hc, hn, hw, Post.ret h1 S1 rw'⟩
        · exact h1.elim
      · exact h1.elim
    | _ => exact h1.elim
def putFD (f : Str) (v : D) : List (Str × D) → List (Str × D)
  | [] => [(f, v)]
  | (g, x) :: r => if g = f then (g, v) :: r else (g, x) :: putFD f v r
theorem relFs_put {K : PySem.W.Frag} {H : Hp} {ad : List Addr} {f : Str} {d : D} {v : V} (rd : RelD K H ad d v) : ∀ {fs : List (Str × D)} {ks : List (Str × V)}, RelFs K H ad fs ks → RelFs K H ad (putFD f d fs) (putF f v ks)
  | _, _, .nil => .cons ⟨rfl, rd⟩ .nil
  | (p :: ps), (q :: qs), .cons r t => by
    obtain ⟨g, x⟩ := p
    obtain ⟨g', y⟩ := q
    obtain ⟨e, rv⟩ := r
    simp only at e rv
    subst e
    unfold putFD putF
    by_cases h : g = f
    · rw [if_pos h, if_pos h]; exact .cons ⟨rfl, rd⟩ t
    · rw [if_neg h, if_neg h]; exact .cons ⟨rfl, rv⟩ (relFs_put rd t)
def setFD (c f : Str) (x v : D) (st : Store) : R Unit := match x with
  | .loc n => match st[n]? with
    | some (.ins c' fs) => if c' = c ∧ fs.length < 1000 then .ok () (st.set n (.ins c' (putFD f v fs))) else .stuck
    | _ => .stuck
  | _ => .stuck
/-- e.f = value (the value first) -/
def sFldD (c f : Str) (mo mv : M D) : MS := fun ds st => ofR (mv ds st) fun v st => ofR (mo ds st) fun x st => match setFD c f x v st with
  | .ok _ st => .nx ds st
  | _ => .stuck
theorem set_ins {H : Hp} {ad : List Addr} {st : Store} {n : Nat} {p : Addr} {c f : Str} {fs : List (Str × D)} {ks : List (Str × V)} {dx : Addr} {d : D} {v : V} (S : Sim (gx X cl) H ad st) (hp : ad[n]? = some p) (e : H p = some (.ins (cl c) dx ks)) (r : RelFs X.K H ad fs ks) (rd : RelD X.K H ad d v) :
    Ext X.K H ad (upd H p (.ins (cl c) dx (putF f v ks))) ad ∧ Sim (gx X cl) (upd H p (.ins (cl c) dx (putF f v ks))) ad (st.set n (.ins c (putFD f d fs))) := by
  have x0 : Ext X.K H ad (upd H p (.ins (cl c) dx (putF f v ks))) ad := Ext.write (List.mem_of_getElem? hp) (.of_ins e)
  exact ⟨x0, S.write hp (.of_ins e) ⟨dx, _, upd_same, (relFs_put rd r).ext x0⟩⟩
theorem ms_fld {c f : Str} {pos' : Pos} (hc : Cls X.K (cl c)) (hn : NoAttr X.K (cl c) f) (ho : PE X o (tE (gx X cl) E mo)) (ha : PE X a (tE (gx X cl) E ma)) (hs : swapsWith a (some (.Attribute o f pos')) pos.line X.env = pure false := by rfl) : PS X (.Assign [.Attribute o f pos'] a pos) (tS (gx X cl) E (sFldD c f mo ma)) :=
  tS.imp (ps_fld ho ha hs) fun σ H Q ⟨ad, ds, st, S, r, h⟩ => by
    refine tE.goS S r h fun d st1 v H1 ad1 e1 S1 r1 rd h1 => ?_
    refine tE.goS S1 r1 h1 fun x st2 u H2 ad2 e2 S2 r2 rx h2 => ?_
    cases x with
    | loc n =>
      unfold setFD at h2; simp only at h2
      cases eo : st2[n]? with
      | none => simp only [eo] at h2; exact h2.elim
      | some ob =>
        simp only [eo] at h2
        cases ob with
        | lst _ => exact h2.elim
        | dK _ => exact h2.elim
        | ins c' fs =>
          simp only at h2
          by_cases hz : c' = c ∧ fs.length < 1000
          · rw [if_pos hz] at h2
            obtain ⟨rfl, hz⟩ := hz
            obtain ⟨p, rfl, hp⟩ := relD_loc.mp rx
            obtain ⟨dx, ks, k1, k2⟩ := ins_at S2 hp eo
            obtain ⟨x0, S3⟩ := set_ins S2 hp k1 k2 (rd.ext e2)
            exact ⟨p, cl c', dx, ks, rfl, k1, hc, hn, by rw [← Paired.length k2]; exact hz, h2 _ _ _ x0 S3 (r2.ext x0)⟩
          · rw [if_neg hz] at h2; exact h2.elim
    | _ => exact h2.elim

/-! ### name op= value -/
def sAug (i : Nat) (f : D → D → Store → R D) (m : M D) : MS := fun ds st => match ds[i]? with
  | some (some x) => ofR (m ds st) fun y st => ofR (f x y st) fun z st => .nx (ds.set i (some z)) st
  | _ => .stuck
def iaddD : D → D → Store → R D := fun x y st => match x, y with
  | .int i, .int j => .ok (.int (i + j)) st
  | .str i, .str j => if i.length + j.length ≤ sizeLine then .ok (.str (i ++ j)) st else .stuck
  | _, _ => .stuck
def isubD : D → D → Store → R D := fun x y st => match x, y with
  | .int i, .int j => .ok (.int (i - j)) st
  | _, _ => .stuck
theorem ir_add : OpR X (inplaceOp .Add) (r2 (gx X cl) E iaddD) := by
  intro pins s σ H x y v u Q I rx ry ⟨ad, d, e, st, S, rd, re, h⟩
  unfold iaddD at h
  split at h
  · rename_i i j
    exact iop_add pins s σ H x y v u Q I rx ry ⟨i, j, relD_int.mp rd, relD_int.mp re, Post.ret h S (relD_int.mpr rfl)⟩
  · rename_i i j
    split at h
    · exact iop_add_str pins s σ H x y v u Q I rx ry ⟨i, j, relD_str.mp rd, relD_str.mp re, by assumption, Post.ret h S (relD_str.mpr rfl)⟩
    · exact h.elim
  · exact h.elim
theorem ir_sub : OpR X (inplaceOp .Sub) (r2 (gx X cl) E isubD) := by
  intro pins s σ H x y v u Q I rx ry ⟨ad, d, e, st, S, rd, re, h⟩
  unfold isubD at h
  split at h
  · rename_i i j
    exact iop_sub pins s σ H x y v u Q I rx ry ⟨i, j, relD_int.mp rd, relD_int.mp re, Post.ret h S (relD_int.mpr rfl)⟩
  · exact h.elim
theorem ms_aug {i : Nat} {op : Operator} {f : D → D → Store → R D} {pos' : Pos} (hN : X.N.Nodup) (hop : OpR X (inplaceOp op) (r2 (gx X cl) E f)) (ha : PE X a (tE (gx X cl) E ma)) (hi : X.N[i]? = some x := by rfl) (hx : Loc X.env.scope x := by first | exact Or.inl rfl | exact Or.inr rfl)
    (hf : X.fn x = true ∨ X.env.scope.names.lookup x = some .local := by first | exact .inl rfl | exact .inr rfl | assumption) : PS X (.AugAssign (.Name x pos') op a pos) (tS (gx X cl) E (sAug i f ma)) :=
  tS.imp (ps_aug (ti := r2 (gx X cl) E f) hN hi hx ha hop hf) fun σ H Q ⟨ad, ds, st, S, r, h⟩ => by
    unfold sAug at h
    cases e0 : ds[i]? with
    | none => rw [e0] at h; exact h.elim
    | some o =>
      cases o with
      | none => rw [e0] at h; exact h.elim
      | some d =>
        rw [e0] at h
        obtain ⟨v, ev, rv⟩ := r.2 i d e0
        refine ⟨v, ev, ?_⟩
        refine tE.goS S r h fun y st1 w H1 ad1 e1 S1 r1 ry h1 => ?_
        refine ⟨ad1, d, y, st1, S1, rv.ext e1, ry, ?_⟩
        cases ef : f d y st1 with
        | ok z st2 =>
          rw [ef] at h1
          intro zv H2 ad2 e2 S2 rz
          exact h1 _ _ _ e2 S2 ((r1.ext e2).set i rz)
        | exc _ _ _ => rw [ef] at h1; exact h1
        | stuck => rw [ef] at h1; exact h1
/-- e.f op= value -/
def sFldAugD (c f : Str) (fo : D → D → Store → R D) (mo mv : M D) : MS := fun ds st => ofR (mo ds st) fun x st => ofR (fldD c f x st) fun y st => ofR (mv ds st) fun v st => ofR (fo y v st) fun z st => match setFD c f x z st with
  | .ok _ st => .nx ds st
  | _ => .stuck
theorem ms_fldaug {c f : Str} {op : Operator} {fo : D → D → Store → R D} {tpos : Pos} (hc : Cls X.K (cl c)) (hn : NoAttr X.K (cl c) f) (hop : OpR X (inplaceOp op) (r2 (gx X cl) E fo)) (ho : PE X o (tE (gx X cl) E mo)) (ha : PE X a (tE (gx X cl) E ma)) : PS X (.AugAssign (.Attribute o f tpos) op a pos) (tS (gx X cl) E (sFldAugD c f fo mo ma)) :=
  tS.imp (ps_fldaug (rd := r2 (gx X cl) E fo) ho ha hop) fun σ H Q ⟨ad, ds, st, S, r, h⟩ => by
    refine tE.goS S r h fun x st1 v H1 ad1 e1 S1 r1 rx h1 => ?_
    cases x with
    | loc n =>
      cases eo : st1[n]? with
      | none => simp only [fldD, eo] at h1; exact h1.elim
      | some ob =>
        cases ob with
        | lst _ => simp only [fldD, eo] at h1; exact h1.elim
        | dK _ => simp only [fldD, eo] at h1; exact h1.elim
        | ins c' fs =>
          simp only [fldD, eo] at h1
          by_cases hcc : c' = c
          · rw [if_pos hcc] at h1
            subst hcc
            cases el : fs.lookup f with
            | none => rw [el] at h1; exact h1.elim
            | some y =>
              rw [el] at h1
              obtain ⟨p, rfl, hp⟩ := relD_loc.mp rx
              obtain ⟨dx, ks, k1, k2⟩ := ins_at S1 hp eo
              obtain ⟨w, hw, rw'⟩ := (relFs_lookup k2).1 y el
              refine ⟨p, cl c', dx, ks, w, rfl, k1, hc, hn, hw, ?_⟩
              have h2 : PostS (gx X cl) E H1 ad1 (ofR (ma ds st1) fun v st => ofR (fo y v st) fun z st => match setFD c' f (.loc n) z st with
                | .ok _ st => .nx ds st
                | _ => .stuck) Q := h1
              refine tE.goS S1 r1 h2 fun v st2 vv H2 ad2 e2 S2 r2' rvv h3 => ?_
              refine ⟨ad2, y, v, st2, S2, rw'.ext e2, rvv, ?_⟩
              cases ef : fo y v st2 with
              | exc _ _ _ => rw [ef] at h3; exact h3
              | stuck => rw [ef] at h3; exact h3
              | ok z st3 =>
                rw [ef] at h3
                intro zv H3 ad3 e3 S3 rz
                have h4 := PostS.ext e3 h3
                simp only [ofR_ok] at h4
                cases eo3 : st3[n]? with
                | none => simp only [setFD, eo3] at h4; exact h4.elim
                | some ob =>
                  cases ob with
                  | lst _ => simp only [setFD, eo3] at h4; exact h4.elim
                  | dK _ => simp only [setFD, eo3] at h4; exact h4.elim
                  | ins c3 fs3 =>
                    simp only [setFD, eo3] at h4
                    by_cases hz : c3 = c' ∧ fs3.length < 1000
                    · rw [if_pos hz] at h4
                      obtain ⟨rfl, hz⟩ := hz
                      have hp3 := e3.at (e2.at hp)
                      obtain ⟨dx3, ks3, m1, m2⟩ := ins_at S3 hp3 eo3
                      obtain ⟨x0, S4⟩ := set_ins S3 hp3 m1 m2 rz
                      exact ⟨dx3, ks3, m1, by rw [← Paired.length m2]; exact hz, h4 _ _ _ x0 S4 ((r2'.ext e3).ext x0)⟩
                    · rw [if_neg hz] at h4; exact h4.elim
          · rw [if_neg hcc] at h1; exact h1.elim
    | _ => exact h1.elim

/-! ### displays of dicts; a, b = x, y -/
def mDict0 : M D := fun _ st => .ok (.loc st.length) (st ++ [.dK []])
theorem me_dict0 : PE X (.Dict [] [] pos) (tE (gx X cl) E mDict0) := tE.imp pe_dnewK fun σ H Q ⟨ad, ds, st, S, r, h⟩ => fun p hp => by
  refine h _ _ (ad ++ [p]) (Ext.new hp) (S.new hp ⟨[], upd_same, .nil⟩) (relD_loc.mpr ⟨p, rfl, by rw [← S.len]; simp⟩)
def sPar (i j : Nat) (m : M (List D)) : MS := fun ds st => ofR (m ds st) fun xs st => match xs with
  | [x, y] => .nx ((ds.set i (some x)).set j (some y)) st
  | _ => .stuck
theorem ms_par {i j : Nat} {x y : Str} {px py pt pt2 : Pos} {kt k2 : Nat} {mab : M (List D)} (hc : X.calm = true) (hN : X.N.Nodup) (ha : PA X [a, b] (tA (gx X cl) E mab)) (hw : swappedStores [.Tuple [.Name x px, .Name y py] kt pt] (.Tuple [a, b] k2 pt2) X.env = pure (some [x, y]) := by rfl)
    (hi : X.N[i]? = some x := by rfl) (hj : X.N[j]? = some y := by rfl) (hij : i ≠ j := by decide) (hx : X.env.scope.names.lookup x = some .local := by rfl) (hy : X.env.scope.names.lookup y = some .local := by rfl)
    (hs : swapsWithSole [.Tuple [.Name x px, .Name y py] kt pt] (.Tuple [a, b] k2 pt2) pos.line X.env = pure false := by rfl) : PS X (.Assign [.Tuple [.Name x px, .Name y py] kt pt] (.Tuple [a, b] k2 pt2) pos) (tS (gx X cl) E (sPar i j mab)) :=
  tS.imp (ps_par hc hN hi hj hij hx hy ha hw hs) fun σ H Q ⟨ad, ds, st, S, r, h⟩ => by
    refine ⟨ad, ds, st, S, r, ?_⟩
    unfold sPar at h
    cases e : mab ds st with
    | exc _ _ _ => rw [e] at h; exact h
    | stuck => rw [e] at h; exact h
    | ok xs st1 =>
      rw [e] at h
      intro vs H1 ad1 e1 S1 rx
      match xs, h with
      | [x, y], h =>
        obtain ⟨v, w, rfl, rv, rw'⟩ := relDs2 rx
        exact ⟨v, w, rfl, h _ _ _ e1 S1 (((r.ext e1).set i rv).set j rw')⟩
end
end Mp
end
section
set_option Elab.async false
set_option linter.all false
set_option maxRecDepth 100000
set_option maxHeartbeats 2000000
/-! Mp: y = [..]; constants of the module; calls without arguments. -/
namespace Mp
open PySem PySem.Spec PyProof.Rows L2
section
variable {X : Cx} {cl : Str → Addr} {E : XK} {a b c e o elt tg iter : Expr} {ma mb mc mo : M D} {pos p p2 apos cpos : Pos} {es ifs : List Expr} {mas : M (List D)} {x : Str}
theorem ms_setLc {i : Nat} {y : Str} {py spos : Pos} {scope : Scope} {own : List (Str × Nat)} {mi : M ItD} {mg : D → M DSt} {tt : M Bool} {me : M D} (hc : X.calm = true) (hN : X.N.Nodup) (hi : PI X tg iter (tI (gx X cl) E mi)) (ok : BlkOk X.N X.env.scope scope own)
    (hg : ∀ (s : Shared) (H : Hp) (C : Addr) (cls : List (Str × Addr)) (fp : List Addr), PG (X.blk s H scope (compEnvC scope cls C X.env) fp) tg (tGW (gx X cl) E0 (own.map (·.2)) mg))
    (ht : ∀ (s : Shared) (H : Hp) (C : Addr) (cls : List (Str × Addr)) (fp : List Addr), PTs (X.blk s H scope (compEnvC scope cls C X.env) fp) ifs (tT (gx X cl) E0 tt))
    (he : ∀ (s : Shared) (H : Hp) (C : Addr) (cls : List (Str × Addr)) (fp : List Addr), PE (X.blk s H scope (compEnvC scope cls C X.env) fp) elt (tE (gx X cl) E0 me))
    (hsw : swapsWith (.ListComp elt [⟨tg, iter, ifs, 0⟩] scope pos) (some (.Name y py)) spos.line X.env = pure true) (hy : X.N[i]? = some y := by rfl) (hyl : X.env.scope.names.lookup y = some .local := by rfl) (hs : ∀ x, foldedSetIterable iter X.env x = pure x := by intro _; rfl) :
    PS X (.Assign [.Name y py] (.ListComp elt [⟨tg, iter, ifs, 0⟩] scope pos) spos) (tS (gx X cl) E (sAsg (mLc mi mg tt me (own.map (·.2))) (gNm i))) :=
  tS.imp (ps_setLc hc hN hy hyl hsw hi ok hg ht he hs) fun σ H Q ⟨ad, ds, st, S, r, h⟩ => by
    refine lc_reads (Q := fun x H1 => gName i x σ H1 Q.nx) S r ?_
    cases e : mLc mi mg tt me (own.map (·.2)) ds st with
    | exc _ _ _ => unfold sAsg at h; rw [e] at h; exact h
    | stuck => unfold sAsg at h; rw [e] at h; exact h.elim
    | ok d st1 =>
      unfold sAsg at h
      rw [e] at h
      exact fun v H1 ad1 x1 S1 rd => h _ _ _ x1 S1 ((r.ext x1).set i rd)
/-- a constant of the module: a tuple of texts, ints -/
theorem me_gTup {u : Addr} {ds : List D} {vs : List V} (hm : X.mg x = some (.ref u)) (ht : ∀ H, SqT X.K H u vs) (r : ∀ H ad, RelDs X.K H ad ds vs) (hg : Gl X x := by rfl) (hd : (x == ("__debug__" : Str)) = false := by decide) : PE X (.Name x pos) (tE (gx X cl) E (mC (.tup ds))) :=
  me_c (pe_glob (v := .ref u) hg hm rfl hd) fun H ad => relD_tup.mpr ⟨u, vs, rfl, ht H, r H ad⟩
end
end Mp
end
section
set_option Elab.async false
set_option linter.all false
set_option maxRecDepth 100000
set_option maxHeartbeats 4000000
/-! Mp: sorted(set(x)) of a list of texts or of a text. -/
namespace Mp
open PySem PySem.Spec PyProof.Rows L2

/-! ### sorted without repetition -/
def ltS (x y : Str) : Prop := x.cps.toList < y.cps.toList
instance (x y : Str) : Decidable (ltS x y) := inferInstanceAs (Decidable (_ < _))
def insS (x : Str) : List Str → List Str
  | [] => [x]
  | y :: ys => if x = y then y :: ys else if ltS x y then x :: y :: ys else y :: insS x ys
def sortU (xs : List Str) : List Str := xs.foldr insS []
theorem str_ext {x y : Str} (h : x.cps.toList = y.cps.toList) : x = y := by
  cases x; cases y
  simp only [Str.mk.injEq]
  exact Array.toList_inj.mp h
theorem ltS_irrefl (x : Str) : ¬ ltS x x := List.lt_irrefl _
theorem ltS_trans {x y z : Str} (a : ltS x y) (b : ltS y z) : ltS x z := List.lt_trans a b
theorem ltS_of_ne {x y : Str} (a : ¬ ltS y x) (h : x ≠ y) : ltS x y := by
  apply Classical.byContradiction
  intro c
  exact h (str_ext (List.le_antisymm (as := x.cps.toList) (bs := y.cps.toList) a c))
theorem mem_insS {x z : Str} : ∀ {l : List Str}, z ∈ insS x l ↔ z = x ∨ z ∈ l
  | [] => by simp [insS]
  | y :: ys => by
    unfold insS
    split
    · rename_i h; subst h; simp
    · split
      · simp
      · simp only [List.mem_cons, mem_insS (l := ys)]
        constructor
        · rintro (h | h | h)
          · exact .inr (.inl h)
          · exact .inl h
          · exact .inr (.inr h)
        · rintro (h | h | h)
          · exact .inr (.inl h)
          · exact .inl h
          · exact .inr (.inr h)
theorem insS_pw {x : Str} : ∀ {l : List Str}, l.Pairwise ltS → (insS x l).Pairwise ltS
  | [], _ => by simp [insS]
  | y :: ys, h => by
    obtain ⟨h1, h2⟩ := List.pairwise_cons.mp h
    unfold insS
    split
    · exact h
    · rename_i hne
      split
      · rename_i hlt
        refine List.pairwise_cons.mpr ⟨fun z hz => ?_, h⟩
        rcases List.mem_cons.mp hz with rfl | hz
        · exact hlt
        · exact ltS_trans hlt (h1 z hz)
      · rename_i hnl
        refine List.pairwise_cons.mpr ⟨fun z hz => ?_, insS_pw h2⟩
        rcases mem_insS.mp hz with rfl | hz
        · exact ltS_of_ne hnl fun e => hne e.symm
        · exact h1 z hz
theorem mem_sortU {z : Str} : ∀ {l : List Str}, z ∈ sortU l ↔ z ∈ l
  | [] => by simp [sortU]
  | x :: xs => by
    show z ∈ insS x (sortU xs) ↔ _
    rw [mem_insS, mem_sortU (l := xs), List.mem_cons]
theorem sortU_pw : ∀ (l : List Str), (sortU l).Pairwise ltS
  | [] => List.Pairwise.nil
  | x :: xs => insS_pw (sortU_pw xs)
theorem insS_length {x : Str} : ∀ {l : List Str}, (insS x l).length ≤ l.length + 1
  | [] => by simp [insS]
  | y :: ys => by
    unfold insS
    split
    · simp
    · split
      · simp
      · simp only [List.length_cons]
        have := insS_length (x := x) (l := ys)
        omega
theorem sortU_length : ∀ (l : List Str), (sortU l).length ≤ l.length
  | [] => Nat.le_refl _
  | x :: xs => by
    show (insS x (sortU xs)).length ≤ xs.length + 1
    have := insS_length (x := x) (l := sortU xs)
    have := sortU_length xs
    omega
theorem pw_unique : ∀ {a b : List Str}, a.Pairwise ltS → b.Pairwise ltS → (∀ z, z ∈ a ↔ z ∈ b) → a = b
  | [], [], _, _, _ => rfl
  | [], y :: ys, _, _, h => by have := (h y).mpr List.mem_cons_self; cases this
  | x :: xs, [], _, _, h => by have := (h x).mp List.mem_cons_self; cases this
  | x :: xs, y :: ys, ha, hb, h => by
    obtain ⟨a1, a2⟩ := List.pairwise_cons.mp ha
    obtain ⟨b1, b2⟩ := List.pairwise_cons.mp hb
    have e : x = y := by
      rcases List.mem_cons.mp ((h x).mp List.mem_cons_self) with e | hx
      · exact e
      · rcases List.mem_cons.mp ((h y).mpr List.mem_cons_self) with e | hy
        · exact e.symm
        · exact absurd (ltS_trans (a1 y hy) (b1 x hx)) (ltS_irrefl _)
    subst e
    refine congrArg (x :: ·) (pw_unique a2 b2 fun z => ?_)
    constructor
    · intro hz
      rcases List.mem_cons.mp ((h z).mp (List.mem_cons_of_mem _ hz)) with e | q
      · exact absurd (e ▸ a1 z hz) (ltS_irrefl _)
      · exact q
    · intro hz
      rcases List.mem_cons.mp ((h z).mpr (List.mem_cons_of_mem _ hz)) with e | q
      · exact absurd (e ▸ b1 z hz) (ltS_irrefl _)
      · exact q
theorem rising_le : ∀ (r : List Str) (p : Str), risingS p r = true → ∀ z ∈ r, ¬ ltS z p
  | [], _, _, z, hz => nomatch hz
  | x :: r, p, h, z, hz => by
    have h' : (!ltCps x.cps.toList p.cps.toList && risingS x r) = true := h
    rw [Bool.and_eq_true] at h'
    have hx : ¬ ltS x p := by
      intro c
      have q := h'.1
      rw [ltCps_eq] at q
      simp only [Bool.not_eq_true', decide_eq_false_iff_not] at q
      exact q c
    rcases List.mem_cons.mp hz with e | hz
    · rw [e]; exact hx
    · have := rising_le r x h'.2 z hz
      exact List.le_trans (l₁ := p.cps.toList) (l₂ := x.cps.toList) (l₃ := z.cps.toList) hx this
theorem rising_pw : ∀ (r : List Str) (p : Str), risingS p r = true → r.Pairwise fun x y => ¬ ltS y x
  | [], _, _ => List.Pairwise.nil
  | x :: r, p, h => by
    have h' : (!ltCps x.cps.toList p.cps.toList && risingS x r) = true := h
    rw [Bool.and_eq_true] at h'
    exact List.pairwise_cons.mpr ⟨fun z hz => rising_le r x h'.2 z hz, rising_pw r x h'.2⟩
theorem sortedS_pw : ∀ {l : List Str}, sortedS l = true → l.Nodup → l.Pairwise ltS
  | [], _, _ => List.Pairwise.nil
  | x :: r, h, nd => by
    have h : risingS x r = true := h
    have q : (x :: r).Pairwise fun x y => ¬ ltS y x := List.pairwise_cons.mpr ⟨fun z hz => rising_le r x h z hz, rising_pw r x h⟩
    refine List.Pairwise.imp₂ (fun a b h1 h2 => ltS_of_ne h1 h2) q nd

/-! ### a set of texts -/
def keyS (e : Int × Value) : Str := match e.2 with | .str k _ => k | _ => Str.empty
def GoodS (w : World) (e : Int × Value) : Prop := ∃ k tk, e.2 = Value.str k tk ∧ e.1 = hashStr w k
def SetS (w : World) (h : Heap) (a : Addr) (S : Str → Bool) (n : Nat) : Prop :=
  ∃ o es ep t, h.get? a = some o ∧ o.ExactSet ∧ o.data = .set es ep t ∧ (∀ e ∈ es.toList, GoodS w e) ∧ (es.toList.map keyS).Nodup ∧ (∀ k, S k = true ↔ k ∈ es.toList.map keyS) ∧
    es.size < scanBound ∧ t.fits es.size = true ∧ es.size = n ∧ Ris t.place.toList ∧ (w.params.followText "set-order" = true ∨ t.led = true)
section
variable {P : Program} {w : World} {h h' : Heap} {a : Addr} {S : Str → Bool} {n : Nat}
theorem SetS.at (R : SetS w h a S n) (k : ∀ o, h.get? a = some o → h'.get? a = some o) : SetS w h' a S n := by
  obtain ⟨o, es, ep, t, ho, r⟩ := R
  exact ⟨o, es, ep, t, k o ho, r⟩
theorem SetS.congr {S' : Str → Bool} (R : SetS w h a S n) (e : ∀ k, S' k = S k) : SetS w h a S' n := by
  have q : S' = S := funext e
  rw [q]; exact R
theorem goodS_elems {l : List (Int × Value)} (g : ∀ e ∈ l, GoodS w e) : ElemsOf (PySem.strKind P w) l := fun e he => by
  obtain ⟨k, tk, h1, h2⟩ := g e he
  exact ⟨⟨k, by rw [h1]; exact PySem.strKind_is P w k tk, h2⟩, by rw [h1] <;> rfl⟩
theorem goodS_is {e : Int × Value} (g : GoodS w e) (k : Str) : (PySem.strKind P w).is k e.2 = true ↔ keyS e = k := by
  obtain ⟨k0, tk, h1, _⟩ := g
  unfold keyS
  rw [h1]
  show Value.isStrOf k (.str k0 tk) = true ↔ k0 = k
  simp [Value.isStrOf]
theorem goodS_mem {l : List (Int × Value)} (g : ∀ e ∈ l, GoodS w e) (k : Str) : k ∈ l.map keyS ↔ ∃ e ∈ l, (PySem.strKind P w).is k e.2 = true := by
  rw [List.mem_map]
  constructor
  · rintro ⟨e, he, q⟩
    exact ⟨e, he, (goodS_is (g e he) k).2 q⟩
  · rintro ⟨e, he, q⟩
    exact ⟨e, he, (goodS_is (g e he) k).1 q⟩
end
section
variable {P : Program} {w : World} {A : Around} {E : Value → Shared → Prop} {s : Shared} {a : Addr} {S : Str → Bool} {n : Nat}
theorem setS_add_tail {g : Bool → Sem Unit} (hg : ∀ (b : Bool) (s₁ : Shared) (Q' : Unit → Shared → Prop), Q' () s₁ → wpAny (model P w) A (g b) Q' E s₁)
    {o : Obj} {es : Array (Int × Value)} {ep : Nat} {t : SetTable} (ho : s.heap.get? a = some o) (hex : o.ExactSet) (hd : o.data = .set es ep t)
    {es1 : Array (Int × Value)} {t2 : SetTable} {S' : Str → Bool} (g1 : ∀ e ∈ es1.toList, GoodS w e) (nd1 : (es1.toList.map keyS).Nodup) (m1 : ∀ k, S' k = true ↔ k ∈ es1.toList.map keyS)
    (hb1 : es1.size < scanBound) (hf2 : t2.fits es1.size = true) (hr : Ris t2.place.toList) (hl : w.params.followText "set-order" = true ∨ t2.led = true) {wasDummy : Bool} {R : Option Bool → Shared → Prop}
    (hR : ∀ h', Heap.SameBut a s.heap h' → SetS w h' a S' es1.size → R (some true) { s with heap := h' }) :
    wpAny (model P w) A (do
        storeSet a es1 t2
        if (!wasDummy && t2.tooFull) = true then do
            g (relayAll t2 es1 (SetTable.grown es1.size)).2.2
            storeSet a (relayAll t2 es1 (SetTable.grown es1.size)).1 (relayAll t2 es1 (SetTable.grown es1.size)).2.1
            pure (some true)
          else pure (some true)) R E s := by
  refine wpAny_bind (wpAny_storeSet_of ho hd ?_ (fits_of_scanBound hb1))
  have ho1 := store_at (es' := es1) (t' := t2) ho hd
  have sb1 := Heap.SameBut.update s.heap a (Obj.putSet es1 t2)
  split
  · have pm := relayAll_perm t2 es1 (SetTable.grown es1.size)
    have hf3 := relayAll_fits t2 es1 (SetTable.grown es1.size)
    have hr3 := relayAll_ris t2 es1 (SetTable.grown es1.size)
    have hl3 := relayAll_led t2 es1 (SetTable.grown es1.size)
    generalize relayAll t2 es1 (SetTable.grown es1.size) = Z at pm hf3 hr3 hl3 ⊢
    obtain ⟨es2, t3, gave⟩ := Z
    dsimp only at pm hf3 hr3 hl3 ⊢
    have hsz : es2.size = es1.size := by rw [← Array.length_toList, pm.length_eq, Array.length_toList]
    have hb2 : es2.size < scanBound := by rw [hsz]; exact hb1
    refine wpAny_bind (hg _ _ _ ?_)
    refine wpAny_bind (wpAny_storeSet_of ho1 rfl ?_ (fits_of_scanBound hb2))
    have ho2 := store_at (es' := es2) (t' := t3) ho1 rfl
    refine wpAny_pure (hR _ (sb1.trans (Heap.SameBut.update _ a _)) ?_)
    exact ⟨_, es2, _, t3, ho2, hex, rfl, fun e he => g1 e (pm.mem_iff.mp he), (pm.map keyS).nodup_iff.mpr nd1, fun k => (m1 k).trans (pm.map keyS).mem_iff.symm, hb2, hf3, hsz, hr3,
      hl.imp id fun z => by rw [hl3]; exact z⟩
  · exact wpAny_pure (hR _ sb1 ⟨_, es1, _, t2, ho1, hex, rfl, g1, nd1, m1, hb1, hf2, rfl, hr, hl⟩)
theorem setS_add_hashed {k : Str} {tk : Tok} {Q : Bool → Shared → Prop} (R : SetS w s.heap a S n) (room : n + 1 < scanBound)
    (hQ : ∀ h', Heap.SameBut a s.heap h' → SetS w h' a (fun j => S j || decide (j = k)) (if S k = true then n else n + 1) → Q (!S k) { s with heap := h' }) :
    wpAny (model P w) A (setAddHashed a (.str k tk) ((PySem.strKind P w).hash k)) Q E s := by
  obtain ⟨o, es, ep, t, ho, hex, hd, g, nd, hm, hb, hf, hn, hr, hl⟩ := R
  have hkey : (PySem.strKind P w).is k (.str k tk) = true := PySem.strKind_is P w k tk
  have hsc : (Value.str k tk).scannable = true := rfl
  have hel : ElemsOf (PySem.strKind P w) es.toList := goodS_elems g
  unfold setAddHashed setAddHashedIn
  refine wpAny_holding (wpAny_bind (wpAny_setState_of ho hd hf ?_))
  dsimp only
  rw [byScan_of hsc hb hel]
  simp only [↓reduceIte]
  unfold setAddByScan
  refine wpAny_bind ?_
  refine wpAny_bind (wpAny_rule ?_)
  refine wpAny_bind (wpAny_setScan_of hkey ho hd hf hel ?_)
  cases hfi : List.findIdx? (fun e => (PySem.strKind P w).is k e.2) es.toList with
  | some j =>
    dsimp only
    obtain ⟨hj, pj, _⟩ := List.findIdx?_eq_some_iff_getElem.mp hfi
    have hSk : S k = true := (hm k).2 ((goodS_mem (P := P) (w := w) g k).2 ⟨es.toList[j], List.getElem_mem hj, pj⟩)
    refine wpAny_pure (wpAny_pure ?_)
    have q := hQ s.heap (Heap.SameBut.refl a s.heap) ⟨o, es, ep, t, ho, hex, hd, g, nd, fun i => by
      rw [Bool.or_eq_true, decide_eq_true_eq, ← hm i]
      exact ⟨fun z => z.elim id (fun e => e ▸ hSk), .inl⟩, hb, hf, by rw [if_pos hSk]; exact hn, hr, hl⟩
    rw [hSk] at q
    exact q
  | none =>
    dsimp only
    have hnk : k ∉ es.toList.map keyS := fun z => by
      obtain ⟨e, he, q⟩ := (goodS_mem (P := P) (w := w) g k).1 z
      have c := List.findIdx?_eq_none_iff.mp hfi e he
      rw [q] at c
      cases c
    have hSk : S k = false := by
      cases q : S k with
      | false => rfl
      | true => exact absurd ((hm k).1 q) hnk
    have hgw : ∀ (b : Bool) {s₁ : Shared} {Q' : Unit → Shared → Prop}, Q' () s₁ → wpAny (model P w) A (match b with | true => rule "set.scan.the-table-gave-way" | false => pure ()) Q' E s₁ :=
      fun b s₁ Q' q => by cases b <;> first | exact wpAny_pure q | exact wpAny_rule q
    have pm := layNew_perm t es ((PySem.strKind P w).hash k) (.str k tk)
    have hf1 := layNew_fits t es ((PySem.strKind P w).hash k) (.str k tk)
    have hr1 := layNew_ris t es ((PySem.strKind P w).hash k) (.str k tk) hr
    have hl1 := layNew_led t es ((PySem.strKind P w).hash k) (.str k tk)
    generalize layNew t es ((PySem.strKind P w).hash k) (.str k tk) = Z at pm hf1 hr1 hl1 ⊢
    obtain ⟨es1, t1, wasDummy, gave⟩ := Z
    dsimp only at pm hf1 hr1 hl1 ⊢
    rw [Array.toList_push] at pm
    have pc : es1.toList.Perm (((PySem.strKind P w).hash k, Value.str k tk) :: es.toList) := pm.trans (List.perm_append_singleton _ _)
    have pk : (es1.toList.map keyS).Perm (k :: es.toList.map keyS) := pc.map keyS
    have g1 : ∀ e ∈ es1.toList, GoodS w e := fun e he => by
      rcases List.mem_cons.mp (pc.mem_iff.mp he) with z | z
      · rw [z]; exact ⟨k, tk, rfl, rfl⟩
      · exact g e z
    have nd1 : (es1.toList.map keyS).Nodup := pk.nodup_iff.mpr (List.nodup_cons.mpr ⟨hnk, nd⟩)
    have m1 : ∀ i, (S i || decide (i = k)) = true ↔ i ∈ es1.toList.map keyS := fun i => by
      rw [Bool.or_eq_true, decide_eq_true_eq, hm i, pk.mem_iff, List.mem_cons]
      exact Or.comm
    have hsz : es1.size = n + 1 := by rw [← Array.length_toList, pc.length_eq, List.length_cons, Array.length_toList, hn]
    have hb1 : es1.size < scanBound := by rw [hsz]; exact room
    have hled : w.params.followText "set-order" = true ∨ t1.led = true := hl.imp id fun z => by rw [hl1]; exact z
    have fin : ∀ h', Heap.SameBut a s.heap h' → SetS w h' a (fun j => S j || decide (j = k)) es1.size → Q true { s with heap := h' } := fun h' sb r => by
      have q := hQ h' sb
      rw [hSk] at q
      rw [hsz] at r
      exact q r
    refine wpAny_bind (hgw _ ?_)
    split
    · refine wpAny_bind ?_
      rw [hashByValue_scannable 8 hsc]
      refine wpAny_pure ?_
      refine setS_add_tail ?_ ho hex hd g1 nd1 m1 hb1 ?_ ?_ ?_ ?_
      · intro b s₁ Q' q; cases b <;> first | exact wpAny_pure q | exact wpAny_rule q
      · first | (split <;> first | exact hf1 | exact SetTable.fits_plain_off hf1) | exact hf1
      · first | (split <;> exact hr1) | exact hr1
      · first | (split <;> exact hled) | exact hled
      · intro h' sb r; dsimp only; exact wpAny_pure (fin h' sb r)
    · refine wpAny_bind (wpAny_pure ?_)
      simp only [↓reduceIte]
      refine setS_add_tail ?_ ho hex hd g1 nd1 m1 hb1 hf1 hr1 hled ?_
      · intro b s₁ Q' q; cases b <;> first | exact wpAny_pure q | exact wpAny_rule q
      · intro h' sb r; dsimp only; exact wpAny_pure (fin h' sb r)
theorem setS_new_at {w : World} {h : Heap} {a : Addr} {ns : List Str} (ho : h.get? a = some { cls := .type "set", dict := none, data := .set #[] 0 (.fresh 0 0 (!w.params.followText "set-order")) }) : SetS w h a (fun j => decide (j ∈ ns.take 0)) 0 :=
  ⟨_, #[], 0, _, ho, ⟨rfl, rfl, rfl⟩, rfl, (fun e he => by simp at he), (by simp), (fun k => by simp), (by decide), (by rfl), rfl, List.Pairwise.nil, by
    show _ ∨ (!w.params.followText "set-order") = true
    cases w.params.followText "set-order"
    · exact .inr rfl
    · exact .inl rfl⟩
theorem set_update_strs {I : Addr} {fp wr : List Addr} {G : Array GenState → Array GenState → Prop} {n : Nat} {Pv : Nat → Value → Prop} {St : Nat → Shared → Prop} {R : Result → Shared → Prop}
    (W : WalksS P w A.in1 I fp wr G n Pv St) (S : Addr) (hSf : S ∉ fp) (ns : List Str) (hn : n = ns.length) (hb : ns.length + 1 < scanBound) (hval : ∀ i v, Pv i v → ∃ k t, ns[i]? = some k ∧ v = .str k t) :
    ∀ (k i : Nat) (s : Shared), n - i = k → i ≤ n → St i s → (∃ c, c ≤ i ∧ SetS w s.heap S (fun j => decide (j ∈ ns.take i)) c) →
      (∀ s' c, Moved (S :: wr) G s s' → c ≤ n → SetS w s'.heap S (fun j => decide (j ∈ ns)) c → R (.ok (.ret .none)) s') →
      codeAny (model P w) A (.builtin "set.update.loop" ⟨[.ref S, .ref I], []⟩) R s := by
  have hSw : S ∉ wr := fun h => hSf (W.sub _ h)
  have hsub : ∀ b ∈ wr, b ∈ S :: wr := fun b hb => List.mem_cons_of_mem _ hb
  intro k
  induction k with
  | zero =>
    intro i s hk' hi hst ⟨c, hc, hS⟩ hR
    have hin : i = n := by omega
    subst hin
    refine codeAny_builtin F.entry_set_update_loop ?_
    rw [Around.under_plainId F.plain_set_update_loop _]
    show wpAny _ A.in1 (pyNext (.ref I) >>= _) _ _ s
    refine wpAny_bind (W.done s _ _ hst fun s' hm => ?_)
    show wpAny _ A.in1 (ret Value.none) _ _ s'
    have e : ns.take i = ns := List.take_of_length_le (by omega)
    rw [e] at hS
    exact wpAny_pure (hR s' c (hm.mono hsub) hc (hS.at fun o e => hm.heap S o hSw e))
  | succ k ih =>
    intro i s hk' hi hst ⟨c, hc, hS⟩ hR
    have hlt : i < n := by omega
    refine codeAny_builtin F.entry_set_update_loop ?_
    rw [Around.under_plainId F.plain_set_update_loop _]
    show wpAny _ A.in1 (pyNext (.ref I) >>= _) _ _ s
    refine wpAny_bind (W.item i s _ _ hlt hst fun v s' hP hst' hm => ?_)
    obtain ⟨z, t, hz, rfl⟩ := hval i v hP
    have hS' : SetS w s'.heap S (fun j => decide (j ∈ ns.take i)) c := hS.at fun o e => hm.heap S o hSw e
    show wpAny _ A.in1 (holding [Value.str z t] (setAdd S (.str z t)) >>= _) _ _ s'
    refine wpAny_bind (wpAny_holding ?_)
    unfold setAdd
    refine wpAny_holding ?_
    refine wpAny_bind ((PySem.strKind P w).pyHash (k := z) (PySem.strKind_is _ _ _ _) ?_)
    refine setS_add_hashed (s := { s' with toks := s'.toks + 1 }) hS' (by omega) fun h' hsb hS2 => ?_
    have hS3 : SetS w h' S (fun j => decide (j ∈ ns.take (i + 1))) (if decide (z ∈ ns.take i) = true then c else c + 1) := hS2.congr fun j => by
      rw [List.take_add_one, hz]
      simp [List.mem_append]
    have hc3 : (if decide (z ∈ ns.take i) = true then c else c + 1) ≤ i + 1 := by
      split <;> omega
    refine wpAny_pure ⟨plainId_quiet F.plain_set_update_loop _, ih (i + 1) _ (by omega) hlt (W.frame _ s' _ _ hst' (Nat.le_succ _) fun b hb o e => ?_) ⟨_, hc3, hS3⟩ fun s'' c2 hm'' hc'' hS'' => ?_⟩
    · rw [hsb.2 b (fun h : b = S => hSf (by rw [← h]; exact hb))]; exact e
    · refine hR s'' c2 (Moved.trans W.gtrans ((hm.mono hsub).then_heap (Nat.le_succ _) fun b o hb e => ?_) hm'') hc'' hS''
      rw [hsb.2 b (fun h : b = S => hb (by rw [h]; exact List.mem_cons_self))]; exact e

set_option maxHeartbeats 8000000 in
/-- set(x), x walked by W -/
theorem call_set_strs (v : Value) (ns : List Str) {Q : Value → Shared → Prop} (hh : A.handled = none) (hb : ns.length + 1 < scanBound)
    (hupd : ∀ (A' : Around) (s1 : Shared) (E' : Value → Shared → Prop) (Q' : Unit → Shared → Prop), A'.handled = none → s1.heap = s.heap.push { cls := .type "set", dict := none, data := .set #[] 0 (.fresh 0 0 (!w.params.followText "set-order")) } → s1.gens = s.gens → s1.drawn = s.drawn → s1.os = s.os →
      (∀ (h' : Heap) (tk c : Nat), SetS w h' s.heap.objs.size (fun j => decide (j ∈ ns)) c → c ≤ ns.length → (∀ b o, s.heap.get? b = some o → h'.get? b = some o) → Q' () { s with heap := h', toks := tk }) →
      wpAny (model P w) A' (Builtin.Frozenset.updateFrom "set.__init__" s.heap.objs.size v) Q' E' s1)
    (h : ∀ (h' : Heap) (tk c : Nat), SetS w h' s.heap.objs.size (fun j => decide (j ∈ ns)) c → c ≤ ns.length → (∀ b o, s.heap.get? b = some o → h'.get? b = some o) → Q (.ref s.heap.objs.size) { s with heap := h', toks := tk }) :
    wpAny (model P w) A (call (.type "set") [v]) Q E s := by
  obtain ⟨c, tl, hmro⟩ := F.called_set.mro
  have hmade := F.called_set.made
  have hsub := F.called_set.sub
  refine wpAny_call (codeAny_of_tree ?_)
  show wpAny _ _ (callAny (.type "set") _) _ _ _
  refine wpAny_pure ⟨Code.quiet_builtin _ (by decide +kernel), codeAny_builtin F.entry_type_call ?_⟩
  rw [Around.under_plain (weight_type_call_type "set" [v] []) rfl]
  have h1 := F.called_set.notType
  have h2 := F.called_set.canCreate
  have hct := F.typeCall_set_1 v
  repeat (any_goals (first | assumption | wp_step))
  refine codeAny_mono (code_set_led1 v (E := E) (Q₁ := fun obj s₁ => obj = .ref s.heap.objs.size ∧ s₁ = { s with heap := s.heap.push { cls := .type "set", dict := none, data := .set #[] 0 (.fresh 0 0 (!w.params.followText "set-order")) } }) ⟨rfl, rfl⟩) fun r s₁ hr => ?_
  cases r with
  | error e => exact hr
  | ok fl =>
    cases fl with
    | ret obj =>
      obtain ⟨rfl, rfl⟩ := hr
      have hS : (s.heap.push { cls := .type "set", dict := none, data := .set #[] 0 (.fresh 0 0 (!w.params.followText "set-order")) }).get? s.heap.objs.size = some { cls := .type "set", dict := none, data := .set #[] 0 (.fresh 0 0 (!w.params.followText "set-order")) } := Heap.get?_push_size _ rfl
      have hT : Shared.TypeIs { s with heap := s.heap.push { cls := .type "set", dict := none, data := .set #[] 0 (.fresh 0 0 (!w.params.followText "set-order")) } } (.ref s.heap.objs.size) "set" := ⟨_, hS, rfl⟩
      have hli := F.called_set.init.lookup
      have hbi := F.called_set.init.bind (.ref s.heap.objs.size)
      repeat (any_goals (first | assumption | wp_step))
      refine codeAny_mono (codeAny_call_builtin (R := wants (fun r s₂ => r = .none ∧ ∃ h' tk c, s₂ = { s with heap := h', toks := tk } ∧ SetS w h' s.heap.objs.size (fun j => decide (j ∈ ns)) c ∧ c ≤ ns.length ∧
          (∀ b o, s.heap.get? b = some o → h'.get? b = some o)) E) F.called_set.init.plain F.entry_set_init (check_set_init_1 hT ?_)) fun r₂ s₂ hr₂ => ?_
      · unfold Builtin.«set.__init__» noKeywords
        generalize hUF : Builtin.Frozenset.updateFrom = UF
        wp_walk
        subst hUF
        refine hupd _ _ _ _ (by simp [hh]) rfl rfl rfl rfl fun h' tk c' hS' hc' hk' => ?_
        show wpAny _ _ (ret Value.none) _ _ _
        exact wpAny_pure ⟨rfl, h', tk, c', rfl, hS', hc', hk'⟩
      · cases r₂ with
        | error e => exact hr₂
        | ok fl₂ =>
          cases fl₂ with
          | ret r =>
            obtain ⟨rfl, h', tk, c', rfl, hS', hc', hk'⟩ := hr₂
            repeat (any_goals (first | assumption | wp_step))
            exact h _ _ _ hS' hc' hk'
          | _ => exact hr₂.elim
    | _ => exact hr.elim
theorem push_new (h : Heap) (o : Obj) : (h.push o).objs.size = h.objs.size + 1 := Heap.size_push ..
/-- the loop over what W walks -/
theorem upd_loop {A' : Around} {s1 : Shared} {E' : Value → Shared → Prop} {Q' : Unit → Shared → Prop} {ns : List Str} (hb : ns.length + 1 < scanBound) (hp : s1.heap = s.heap.push { cls := .type "set", dict := none, data := .set #[] 0 (.fresh 0 0 (!w.params.followText "set-order")) }) (hg : s1.gens = s.gens) (hd : s1.drawn = s.drawn) (ho : s1.os = s.os)
    {fp : List Addr} {Pv : Nat → Value → Prop} {St : Nat → Heap → Prop} {n : Nat} {o : Obj} (W : Walks P w A'.in1 s1.heap.objs.size fp [s1.heap.objs.size] n Pv St) (hn : n = ns.length) (hfp : s.heap.objs.size ∉ fp) (hval : ∀ i v, Pv i v → ∃ k t, ns[i]? = some k ∧ v = .str k t) (h0 : St 0 (s1.heap.push o))
    (h : ∀ (h' : Heap) (tk c : Nat), SetS w h' s.heap.objs.size (fun j => decide (j ∈ ns)) c → c ≤ ns.length → (∀ b o, s.heap.get? b = some o → h'.get? b = some o) → Q' () { s with heap := h', toks := tk }) :
    wpAny (model P w) A' (do let _ ← runValue (.builtin "set.update.loop" ⟨[.ref s.heap.objs.size, .ref s1.heap.objs.size], []⟩)) Q' E' { s1 with heap := s1.heap.push o } := by
  refine wpAny_bind (wpAny_runValue ?_)
  have e1 : s1.heap.objs.size = s.heap.objs.size + 1 := by rw [hp]; exact push_new _ _
  have hget : (s1.heap.push o).get? s.heap.objs.size = some { cls := .type "set", dict := none, data := .set #[] 0 (.fresh 0 0 (!w.params.followText "set-order")) } := by
    refine Heap.get?_push_of_some _ ?_
    rw [hp]
    exact Heap.get?_push_size _ rfl
  refine set_update_strs (W.toS) s.heap.objs.size hfp ns hn hb hval (n - 0) 0 _ (by omega) (Nat.zero_le _) h0 ⟨0, Nat.le_refl 0, setS_new_at hget⟩ ?_
  intro s' c' hm hc' hS'
  obtain ⟨h', g2, d', tk', os'⟩ := s'
  have eg : g2 = s.gens := Eq.trans hm.gens hg
  have ed : d' = s.drawn := Eq.trans hm.drawn hd
  have eo : os' = s.os := Eq.trans hm.os ho
  subst eg; subst ed; subst eo
  refine wpAny_pure ?_
  rw [hn] at hc'
  refine h h' tk' c' hS' hc' fun b o e => ?_
  have hb0 : b < s.heap.objs.size := Heap.lt_size e
  have hb1 : b ≠ s.heap.objs.size := Nat.ne_of_lt hb0
  have hb2 : b ≠ s1.heap.objs.size := by rw [e1]; exact Nat.ne_of_lt (Nat.lt_succ_of_lt hb0)
  refine hm.heap b o (by simp only [List.mem_cons, List.mem_singleton, List.not_mem_nil, or_false, not_or]; exact ⟨hb1, hb2⟩) (Heap.get?_push_of_some _ ?_)
  show s1.heap.get? b = some o
  rw [hp]
  exact Heap.get?_push_of_some _ e
set_option maxHeartbeats 8000000 in
theorem call_set_listT {l : Addr} {items : Array Value} {ns : List Str} {Q : Value → Shared → Prop} (hh : A.handled = none) (hl : s.heap.IsList l items) (hi : StrsAre items.toList ns) (hb : ns.length + 1 < scanBound)
    (h : ∀ (h' : Heap) (tk c : Nat), SetS w h' s.heap.objs.size (fun j => decide (j ∈ ns)) c → c ≤ ns.length → (∀ b o, s.heap.get? b = some o → h'.get? b = some o) → Q (.ref s.heap.objs.size) { s with heap := h', toks := tk }) :
    wpAny (model P w) A (call (.type "set") [.ref l]) Q E s := by
  refine call_set_strs (.ref l) ns hh hb (fun A' s1 E' Q' hh' hp hg hd ho h' => ?_) h
  have hl0 := hl
  obtain ⟨ol, hol, hcl, nl, hdl⟩ := hl
  obtain ⟨ocls, odict, odata, oslots⟩ := ol
  simp only at hcl hdl
  subst hcl; subst hdl
  have hol' : s1.heap.get? l = some { cls := .type "list", dict := odict, data := .seq items nl, slots := oslots } := by rw [hp]; exact Heap.get?_push_of_some _ hol
  have hsls := F.sub_list_set
  have hslf := F.sub_list_frozenset
  have hne : (Value.type "list" == Value.type "dict") = false := by decide
  have hl1 : s1.heap.IsList l items := ⟨_, hol', rfl, nl, rfl⟩
  have hlS : l < s.heap.objs.size := Heap.lt_size hol
  have e1 : s1.heap.objs.size = s.heap.objs.size + 1 := by rw [hp]; exact push_new _ _
  unfold Builtin.Frozenset.updateFrom
  generalize hPI : pyIter = PI
  wp_walk
  subst hPI
  refine wpAny_pyIter_list hl1 ?_
  have hneI : l ≠ s1.heap.objs.size := by rw [e1]; exact Nat.ne_of_lt (Nat.lt_succ_of_lt hlS)
  have hisz : items.size = ns.length := by
    have q := StrsAre.len_eq hi
    rw [Array.length_toList] at q
    exact q.symm ▸ rfl
  refine upd_loop hb hp hg hd ho (Walks.list (by simp [hh']) _ l hneI items) hisz ?_ ?_ ⟨⟨_, Heap.get?_push_size _ rfl, rfl, rfl⟩, hl1.push _⟩ h'
  · simp only [List.mem_cons, List.mem_singleton, List.not_mem_nil, or_false, not_or]
    exact ⟨by rw [e1]; exact Nat.ne_of_lt (Nat.lt_succ_self _), Nat.ne_of_gt hlS⟩
  · intro i v hv
    have hi' : i < ns.length := by rw [← hisz]; exact (Array.getElem?_eq_some_iff.mp hv).1
    obtain ⟨t, e⟩ := SS.strs_at hi i v (by rw [Array.getElem?_toList]; exact hv)
    refine ⟨ns[i], t, List.getElem?_eq_getElem hi', ?_⟩
    rw [e, List.getD_eq_getElem?_getD, List.getElem?_eq_getElem hi'] <;> rfl
def signsOf (x : Str) : List Str := x.cps.toList.map fun c => ⟨#[c]⟩
set_option maxHeartbeats 8000000 in
theorem call_set_strT {x : Str} {t : Tok} {Q : Value → Shared → Prop} (hh : A.handled = none) (hb : x.cps.size + 1 < scanBound)
    (h : ∀ (h' : Heap) (tk c : Nat), SetS w h' s.heap.objs.size (fun j => decide (j ∈ signsOf x)) c → c ≤ (signsOf x).length → (∀ b o, s.heap.get? b = some o → h'.get? b = some o) → Q (.ref s.heap.objs.size) { s with heap := h', toks := tk }) :
    wpAny (model P w) A (call (.type "set") [.str x t]) Q E s := by
  have hl : (signsOf x).length = x.cps.size := by unfold signsOf; rw [List.length_map, Array.length_toList]
  refine call_set_strs (.str x t) (signsOf x) hh (by rw [hl]; exact hb) (fun A' s1 E' Q' hh' hp hg hd ho h' => ?_) h
  have e1 : s1.heap.objs.size = s.heap.objs.size + 1 := by rw [hp]; exact push_new _ _
  unfold Builtin.Frozenset.updateFrom
  refine wpAny_bind (L2.Fz.anySet ?_)
  simp only [Bool.false_eq_true, if_false]
  refine wpAny_bind (wpAny_pure ?_)
  rw [if_neg (by decide)]
  refine wpAny_bind (wpAny_pyIter_str fun o St hW h0 => ?_)
  refine upd_loop (by rw [hl]; exact hb) hp hg hd ho (hW A'.in1 (by simp [hh'])) hl.symm ?_ ?_ h0 h'
  · simp only [List.mem_cons, List.mem_singleton, List.not_mem_nil, or_false, not_or]
    rw [e1]; exact Nat.ne_of_lt (Nat.lt_succ_self _)
  · rintro i v ⟨c, u, hc, rfl⟩
    refine ⟨⟨#[c]⟩, u, ?_, rfl⟩
    unfold signsOf
    rw [List.getElem?_map, Array.getElem?_toList, hc] <;> rfl
/-! ### sorted -/
theorem strs_of : ∀ (l : List Value), (∀ v ∈ l, ∃ k tk, v = Value.str k tk) → StrsAre l (l.map fun v => match v with | .str k _ => k | _ => Str.empty)
  | [], _ => .nil
  | v :: l, h => by
    obtain ⟨k, tk, rfl⟩ := h v List.mem_cons_self
    exact .cons k tk (strs_of l fun u hu => h u (List.mem_cons_of_mem _ hu))
set_option maxHeartbeats 8000000 in
theorem sorted_setS {S : Str → Bool} {n : Nat} {a : Addr} {Q : Value → Shared → Prop} (R : SetS w s.heap a S n) (hh : A.handled = none) (h64 : n < 64)
    (hQ : ∀ s' p (out : Array Value) (c : Nat) (ns : List Str), (∀ b o, s.heap.get? b = some o → s'.heap.get? b = some o) → s'.gens = s.gens → s'.os = s.os → s.heap.objs.size ≤ p →
      s'.heap.get? p = some (seqObj "list" out c) → StrsAre out.toList ns → ns.Pairwise ltS → (∀ k, k ∈ ns ↔ S k = true) → ns.length = n → Q (.ref p) s') :
    wpAny (model P w) A (call (.builtin "sorted") [.ref a]) Q E s := by
  obtain ⟨o, es, ep, t, ho, hex, hd, g, nd, hm, hb, hf, hn, hr, hl⟩ := R
  refine Calls.call_function_entry kind_sorted plain_sorted entry_sorted (args_sorted1 _) ?_
  unfold Builtin.«sorted»
  refine wpAny_bind (m := checkCount "sorted" 1 1 _) (wpAny_pure ?_)
  refine wpAny_bind (collect_set (A := A.in1) hh ⟨o, ho, hex.1, hd⟩ hf hb hr hl fun s1 vs k1 hz g1 o1 pm => ?_)
  have hvl : vs.length = n := by rw [pm.length_eq, List.length_map, Array.length_toList]; exact hn
  have hI := strs_of vs fun v hv => by
    obtain ⟨e, he, q⟩ := List.mem_map.mp (pm.mem_iff.mp hv)
    obtain ⟨k, tk, h1, _⟩ := g e he
    exact ⟨k, tk, by rw [← q]; exact h1⟩
  have pk : (vs.map fun v => match v with | .str k _ => k | _ => Str.empty).Perm (es.toList.map keyS) := by
    have q := pm.map fun v => match v with | .str k _ => k | _ => Str.empty
    rw [List.map_map] at q
    exact q
  refine wpAny_bind (wpAny_newList ?_ (by rw [hvl, sizeLine_eq]; omega))
  have hoL : (s1.heap.push (seqObj "list" vs.toArray 0)).get? s1.heap.objs.size = some (seqObj "list" vs.toArray 0) := Heap.get?_push_size _ rfl
  refine wpAny_bind (wpAny_holding (wpAny_call_entry slot_list_sort ⟨_, hoL, rfl⟩ entry_list_sort (list_sort_treeK strKind_oneLt hoL hI.keysOf (fun v₁ v₂ rest e => keyKind_strs (by rw [← e]; exact hI)) (by rw [hvl]; exact h64) fun st' hp hs => ?_) (args_list_sort _)))
  obtain ⟨ns', a1, a2, a3⟩ := sorted_out_str hI hp hs
  obtain ⟨c, hc⟩ := sortedHeap_at (vs := vs) (out := (arrOf st').map (·.2)) hoL
  have pn : ns'.Perm (es.toList.map keyS) := a2.trans pk
  refine ⟨_, rfl, wpAny_pure ⟨_, rfl, hQ _ s1.heap.objs.size ((arrOf st').map (·.2)) c ns' (fun b u e => ?_) g1 o1 hz hc a1 (sortedS_pw a3 (pn.nodup_iff.mpr nd)) (fun k => by rw [pn.mem_iff, ← hm k]) ?_⟩⟩
  · have q := k1 b u e
    have hlt := Heap.lt_size q
    show (sortedHeap (s1.heap.push (seqObj "list" vs.toArray 0)) s1.heap.objs.size vs _).get? b = some u
    rw [sortedHeap_old (Nat.ne_of_lt hlt) (by rw [size_push']; exact Nat.lt_succ_of_lt hlt)]
    exact Heap.get?_push_of_some _ q
  · rw [pn.length_eq, List.length_map, Array.length_toList]; exact hn
end
end Mp
end
section
set_option Elab.async false
set_option linter.all false
set_option maxRecDepth 100000
set_option maxHeartbeats 4000000
/-! Mp: sorted(set(x)), the rule. -/
namespace Mp
open PySem PySem.Spec PyProof.Rows L2
theorem boot_sortedB : bootBuiltins "sorted" = some (.builtin "sorted") := by decide +kernel
/-! ### the rule -/
def strsIn (st : Store) (d : D) : Option (List Str) := match d with
  | .str z => some (signsOf z)
  | .loc n => match st[n]? with
    | some (.lst xs) => strsD xs
    | _ => none
  | _ => none
def mSortSet (a : M D) : M D := fun ds st => (a ds st).bind fun x st => match strsIn st x with
  | some ns => if ns.length < 64 then .ok (.loc st.length) (st ++ [.lst ((sortU ns).map .str)]) else .stuck
  | none => .stuck
theorem relDs_strs {K : PySem.W.Frag} {H : Hp} {ad : List Addr} : ∀ (xs : List Str), RelDs K H ad (xs.map .str) (xs.map V.str)
  | [] => RelDs.nil
  | x :: xs => RelDs.cons (relD_str.mpr rfl) (relDs_strs xs)
theorem vals_strs_are : ∀ {xs : List Str} {us : List Value}, Vals (xs.map V.str) us → StrsAre us xs
  | [], _, .nil => .nil
  | x :: xs, _, .cons r t => by
    obtain ⟨tk, rfl⟩ := r
    exact .cons x tk (vals_strs_are t)
section
variable {X : Cx} {cl : Str → Addr} {E : XK} {a : Expr} {ma : M D} {p p2 q pos : Pos}

theorem setThen {pins : List (Addr × Obj)} {σ : L2.St} {H : Hp} {s : Shared} {A : Around} {E' : Value → Shared → Prop} {Q : Value → Shared → Prop} {ad : List Addr} {d : D} {st : Store} {ns : List Str} {v : V} {u : Value} (I : Inv X pins σ H s) (S : Sim (gx X cl) H ad st) (rd : RelD X.K H ad d v) (ru : RelV v u)
    (es : strsIn st d = some ns) (hh : A.handled = none) (h64 : ns.length < 64)
    (h : ∀ (h' : Heap) (tk c : Nat), SetS X.w h' s.heap.objs.size (fun j => decide (j ∈ ns)) c → c ≤ ns.length → (∀ b o, s.heap.get? b = some o → h'.get? b = some o) → Q (.ref s.heap.objs.size) { s with heap := h', toks := tk }) :
    wpAny (model X.prog X.w) A (call (.type "set") [u]) Q E' s := by
  have hsc : ns.length + 1 < scanBound := by unfold scanBound; omega
  cases d with
  | str z =>
    cases es
    rw [relD_str.mp rd] at ru
    obtain ⟨t, rfl⟩ := ru
    refine call_set_strT hh ?_ h
    have : (signsOf z).length = z.cps.size := by unfold signsOf; rw [List.length_map, Array.length_toList]
    omega
  | loc n =>
    obtain ⟨p, rfl, hp⟩ := relD_loc.mp rd
    cases ru
    unfold strsIn at es
    simp only at es
    cases eo : st[n]? with
    | none => rw [eo] at es; cases es
    | some o =>
      rw [eo] at es
      cases o with
      | lst xs =>
        obtain ⟨ys, hy, rs⟩ := lst_at S hp eo
        obtain ⟨its, rv, pl, hz⟩ := I.list (.of hy)
        rw [strsD_ok rs es] at rv
        exact call_set_listT hh pl.isList (by simpa using vals_strs_are rv) hsc h
      | _ => cases es
  | _ => cases es
theorem me_sortSet (hc : X.calm = true) (hm : X.mg "sorted" = none) (hm2 : X.mg "set" = none) (ha : PE X a (tE (gx X cl) E ma)) (hg : Gl X "sorted" := by rfl) (hg2 : Gl X "set" := by rfl)
    (na : starEach [a] X.env = (false, eval a X.env) :: starEach [] X.env := by rfl) : PE X (.Call (.Name "sorted" p) [.Call (.Name "set" p2) [a] [] q] [] pos) (tE (gx X cl) E (mSortSet ma)) := by
  refine ⟨fun pins s σ H Q I ⟨ad, ds, st, S, r, h⟩ => ?_⟩
  refine Call_ (ld_blt I hg hm boot_sortedB ?_)
  refine PyProof.Rows.callWith_builtin1 (PyProof.Rows.args_cons ?_ rfl) rfl rfl
  refine Call_ (ld_blt I hg2 hm2 PyProof.Rows.boot_set ?_)
  refine PyProof.Rows.callWith_type1 (PyProof.Rows.args_cons (thn (ha.run pins s σ H (fun v H1 => ∃ ad1 d st1 ns, Sim (gx X cl) H1 ad1 st1 ∧ RelD X.K H1 ad1 d v ∧ strsIn st1 d = some ns ∧ ns.length < 64 ∧ Post (gx X cl) E H1 ad1 (.ok (.loc st1.length) (st1 ++ [.lst ((sortU ns).map .str)])) Q) I (tE.go S r h fun d st1 v H1 ad1 e1 S1 r1 rx h1 => ?_)) fun v s1 ⟨x, H1, I1, r1, q1⟩ => PyProof.Rows.args_nil ?_) na) na rfl
  · cases e : strsIn st1 d with
    | none => simp only [e] at h1; exact h1.elim
    | some ns =>
      simp only [e] at h1
      split at h1
      · exact ⟨ad1, d, st1, ns, S1, rx, e, by assumption, h1⟩
      · exact h1.elim
  · obtain ⟨ad1, d, st1, ns, S1, rx, es, h64, hq⟩ := q1
    refine setThen (ns := ns) I1 S1 rx r1 es (I1.ok.hd hc) h64 fun h' tk c hS hc' hk => PyProof.Rows.args_nil ?_
    have I2 : Inv X pins σ H1 { s1 with heap := h', toks := tk } := I1.kept (t' := tk) hk
    refine sorted_setS (s := { s1 with heap := h', toks := tk }) hS (I1.ok.hd hc) (by omega) fun s' p out c2 ns2 k g o hp hgt hst pw mem len => ?_
    have e2 : ns2 = sortU ns := pw_unique pw (sortU_pw ns) fun z => by rw [mem z, mem_sortU, decide_eq_true_eq]
    have hlen : (ns2.map V.str).length ≤ sizeLine := by rw [List.length_map, len, sizeLine_eq]; omega
    have hn : H1 p = none := I2.hok.fresh hp
    have J : Inv X pins σ (upd H1 p (.lst (ns2.map V.str))) { s1 with heap := s'.heap, gens := s'.gens, drawn := s'.drawn, toks := s'.toks } :=
      I2.call (ch := []) (s := { s1 with heap := h', toks := tk }) (Un.laid k hp hn) (I2.hok.laid k hp ⟨hlen, out.toList, c2, vals_of_strs hst, hgt⟩) (by rw [g]; exact I2.bare) (fun _ z => nomatch z)
    have e : s' = { s1 with heap := s'.heap, gens := s'.gens, drawn := s'.drawn, toks := s'.toks } := by
      cases s'
      cases s1
      cases o
      rfl
    rw [e]
    refine ⟨.ref p, _, J, rfl, ?_⟩
    rw [e2]
    exact Post.lst hq S1 (by exact relDs_strs _) hn
end
end Mp
end
section
set_option Elab.async false
set_option linter.all false
set_option maxRecDepth 100000
set_option maxHeartbeats 4000000
/-! Mp: repr(x). -/
namespace Mp
open PySem PySem.Spec PyProof.Rows L2
def pyL (f : D → Option PyData) : List D → Option (List PyData)
  | [] => some []
  | d :: ds => match f d, pyL f ds with
    | some p, some ps => some (p :: ps)
    | _, _ => none
def keyP : Key → PyData
  | .inl i => .int i
  | .inr x => .str x
def pyK (f : D → Option PyData) : List (Key × D) → Option (List (PyData × PyData))
  | [] => some []
  | (k, d) :: r => match f d, pyK f r with
    | some p, some ps => some ((keyP k, p) :: ps)
    | _, _ => none
def py1 (st : Store) (f : D → Option PyData) : D → Option PyData
  | .non => some .none
  | .bl b => some (.bool b)
  | .int i => some (.int i)
  | .str x => some (.str x)
  | .tup xs => (pyL f xs).map .tuple
  | .kl _ => none
  | .loc n => match st[n]? with
    | some (.lst xs) => (pyL f xs).map .list
    | some (.dK kvs) => (pyK f kvs).map .dict
    | _ => none
def pyD (st : Store) : Nat → D → Option PyData
  | 0 => fun _ => none
  | n + 1 => py1 st (pyD st n)
def reprD : List D → Store → R D := fun xs st => match xs with
  | [d] => match pyD st 40 d with
    | some p => if p.showable = true ∧ p.shown.length ≤ sizeLine then .ok (.str p.shown) st else .stuck
    | none => .stuck
  | _ => .stuck
def mRepr (a : M D) : M D := mCall reprD (mCons a mNil)

theorem pyL_depth {f : D → Option PyData} {n : Nat} (hf : ∀ d p, f d = some p → p.depth ≤ n) : ∀ {ds : List D} {ps : List PyData}, pyL f ds = some ps → PyData.depthAll ps ≤ n
  | [], _, h => by cases h; simp [PyData.depthAll]
  | d :: ds, _, h => by
    unfold pyL at h
    cases e1 : f d with
    | none => rw [e1] at h; cases h
    | some p =>
      cases e2 : pyL f ds with
      | none => rw [e1, e2] at h; cases h
      | some ps =>
        rw [e1, e2] at h; cases h
        simp only [PyData.depthAll]
        exact Nat.max_le.mpr ⟨hf _ _ e1, pyL_depth hf e2⟩
theorem keyP_depth (k : Key) : (keyP k).depth = 0 := by cases k <;> rfl
theorem pyK_depth {f : D → Option PyData} {n : Nat} (hf : ∀ d p, f d = some p → p.depth ≤ n) : ∀ {ds : List (Key × D)} {ps : List (PyData × PyData)}, pyK f ds = some ps → PyData.depthKv ps ≤ n
  | [], _, h => by cases h; simp [PyData.depthKv]
  | (k, d) :: ds, _, h => by
    unfold pyK at h
    cases e1 : f d with
    | none => rw [e1] at h; cases h
    | some p =>
      cases e2 : pyK f ds with
      | none => rw [e1, e2] at h; cases h
      | some ps =>
        rw [e1, e2] at h; cases h
        simp only [PyData.depthKv]
        exact Nat.max_le.mpr ⟨Nat.max_le.mpr ⟨by rw [keyP_depth]; exact Nat.zero_le _, hf _ _ e1⟩, pyK_depth hf e2⟩
theorem pyD_depth (st : Store) : ∀ (n : Nat) (d : D) (p : PyData), pyD st n d = some p → p.depth ≤ n
  | 0, _, _, h => by cases h
  | n + 1, d, p, h => by
    have ih := pyD_depth st n
    unfold pyD py1 at h
    cases d with
    | non => cases h; simp [PyData.depth]
    | bl b => cases h; simp [PyData.depth]
    | int b => cases h; simp [PyData.depth]
    | str b => cases h; simp [PyData.depth]
    | kl b => cases h
    | tup xs =>
      obtain ⟨ps, e, rfl⟩ := Option.map_eq_some_iff.mp h
      simp only [PyData.depth]
      exact Nat.succ_le_succ (pyL_depth ih e)
    | loc k =>
      simp only at h
      cases e : st[k]? with
      | none => rw [e] at h; cases h
      | some o =>
        rw [e] at h
        cases o with
        | lst xs =>
          obtain ⟨ps, e, rfl⟩ := Option.map_eq_some_iff.mp h
          simp only [PyData.depth]
          exact Nat.succ_le_succ (pyL_depth ih e)
        | dK xs =>
          obtain ⟨ps, e, rfl⟩ := Option.map_eq_some_iff.mp h
          simp only [PyData.depth]
          exact Nat.succ_le_succ (pyK_depth ih e)
        | ins _ _ => cases h
section
variable {X : Cx} {cl : Str → Addr} {E : XK} {pins : List (Addr × Obj)} {σ : L2.St} {H : Hp} {s : Shared} {ad : List Addr} {st : Store}
/-- what a value shows: it is read as p, and its text is p's -/
def Shows (P : Program) (w : World) (h : Heap) (u : Value) (p : PyData) : Prop := (∃ as, Reads h u p as) ∧ ∃ bs, ReadAtMost h p.depth bs ∧ ReprK P w bs h p.depth u p.shown
def ShowsAll (P : Program) (w : World) (h : Heap) (us : List Value) (ps : List PyData) : Prop := (∃ as, ReadsAll h us ps as) ∧ ∃ bs, ReadAtMost h (PyData.depthAll ps) bs ∧ ReprAllK P w bs h (PyData.depthAll ps) us (PyData.shownAll ps)
theorem ShowsAll.nil {P : Program} {w : World} {h : Heap} : ShowsAll P w h [] [] := ⟨⟨[], .nil⟩, [], (fun _ h => nomatch h), by simp only [PyData.shownAll]; exact .nil⟩
theorem ShowsAll.cons {P : Program} {w : World} {h : Heap} {u : Value} {us : List Value} {p : PyData} {ps : List PyData} (x : Shows P w h u p) (y : ShowsAll P w h us ps) : ShowsAll P w h (u :: us) (p :: ps) := by
  obtain ⟨⟨as, r⟩, bs, m, k⟩ := x
  obtain ⟨⟨as', r'⟩, bs', m', k'⟩ := y
  refine ⟨⟨_, .cons r r'⟩, bs ++ bs', ?_, ?_⟩
  · simp only [PyData.depthAll]
    exact (m.mono (Nat.le_max_left _ _)).append (m'.mono (Nat.le_max_right _ _))
  · simp only [PyData.depthAll, PyData.shownAll]
    exact .cons ((k.more (as' := bs ++ bs') fun b q => List.mem_append_left _ q).level_le (Nat.le_max_left _ _)) (k'.more_le (fun b q => List.mem_append_right _ q) (Nat.le_max_right _ _))
/-- may be shown: its ints are not too long, its text fits -/
def Fine (p : PyData) : Prop := p.showable = true ∧ p.shown.length ≤ sizeLine
def FineAll (ps : List PyData) : Prop := PyData.showableAll ps = true ∧ ∀ t ∈ PyData.shownAll ps, t.length ≤ sizeLine
theorem FineAll.cons {p : PyData} {ps : List PyData} (h : FineAll (p :: ps)) : Fine p ∧ FineAll ps := by
  obtain ⟨h1, h2⟩ := h
  simp only [PyData.showableAll, Bool.and_eq_true] at h1
  simp only [PyData.shownAll, List.mem_cons] at h2
  exact ⟨⟨h1.1, h2 _ (.inl rfl)⟩, h1.2, fun t ht => h2 t (.inr ht)⟩
theorem showsAll_of {P : Program} {w : World} {h : Heap} {K : PySem.W.Frag} {f : D → Option PyData} (hf : ∀ d v u p, RelD K H ad d v → RelV v u → f d = some p → Fine p → Shows P w h u p) : ∀ {ds : List D} {vs : List V} {us : List Value} {ps : List PyData}, RelDs K H ad ds vs → Vals vs us → pyL f ds = some ps → FineAll ps → ShowsAll P w h us ps
  | [], _, _, _, r, v, e, _ => by
    rw [relDs_nil.mp r] at v
    cases v; cases e
    exact .nil
  | d :: ds, _, _, _, r, v, e, hz => by
    obtain ⟨x, xs, rfl, r1, r2⟩ := relDs_cons.mp r
    cases v with
    | cons v1 v2 =>
      unfold pyL at e
      cases e1 : f d with
      | none => rw [e1] at e; cases e
      | some p =>
        cases e2 : pyL f ds with
        | none => rw [e1, e2] at e; cases e
        | some ps =>
          rw [e1, e2] at e; cases e
          exact ShowsAll.cons (hf _ _ _ _ r1 v1 e1 hz.cons.1) (showsAll_of hf r2 v2 e2 hz.cons.2)
theorem keyP_shows {P : Program} {w : World} {h : Heap} {k : Key} {u : Value} (e : keyIs k u = true) (hz : Fine (keyP k)) : Shows P w h u (keyP k) := by
  rcases keyIs_shape e with ⟨i, t, rfl, rfl⟩ | ⟨x, t, rfl, rfl⟩
  · exact ⟨⟨[], .int i t⟩, [], (fun _ h => nomatch h), by simp only [keyP, PyData.shown]; exact .of_is (ReprIs.int t (of_decide_eq_true (by simpa only [keyP, PyData.showable] using hz.1))) _ _ _⟩
  · exact ⟨⟨[], .str x t⟩, [], (fun _ h => nomatch h), by simp only [keyP, PyData.shown]; exact .of_is (ReprIs.str x t (by simpa only [keyP, PyData.shown] using hz.2)) _ _ _⟩
theorem showsKv_of {P : Program} {w : World} {h : Heap} {K : PySem.W.Frag} {f : D → Option PyData} (hf : ∀ d v u p, RelD K H ad d v → RelV v u → f d = some p → Fine p → Shows P w h u p) : ∀ {kvs : List (Key × D)} {ks : List (Key × V)} {vs : List (Key × Value)} {es : List DictEntry} {ps : List (PyData × PyData)},
    RelKs K H ad kvs ks → KV ks vs → Pairs (mixKind P w) es vs → pyK f kvs = some ps → FineAll (ps.map (·.1)) → FineAll (ps.map (·.2)) → ShowsAll P w h (es.map (·.key)) (ps.map (·.1)) ∧ ShowsAll P w h (es.map (·.val)) (ps.map (·.2))
  | [], _, _, _, _, .nil, .nil, .nil, e, _, _ => by cases e; exact ⟨.nil, .nil⟩
  | (k, d) :: ds, (k', v) :: ks, (k2, u) :: vs, e0 :: es, _, .cons r1 r2, .cons q1 q2, .cons p1 p2 p3, e, hk, hv => by
    unfold pyK at e
    cases e1 : f d with
    | none => rw [e1] at e; cases e
    | some p =>
      cases e2 : pyK f ds with
      | none => rw [e1, e2] at e; cases e
      | some ps =>
        rw [e1, e2] at e; cases e
        obtain ⟨hke, rd⟩ := r1
        obtain ⟨hk2, rv⟩ := q1
        simp only at hke rd hk2 rv p1 p2
        subst hke; subst hk2
        rw [List.map_cons] at hk hv
        have hk' := hk.cons
        have hv' := hv.cons
        obtain ⟨a, b⟩ := showsKv_of hf r2 q2 p3 e2 hk'.2 hv'.2
        refine ⟨ShowsAll.cons (keyP_shows p1 hk'.1) a, ShowsAll.cons ?_ b⟩
        show Shows P w h e0.val p
        rw [p2]
        exact hf _ _ _ _ rd rv e1 hv'.1
theorem fineAll_list {xs : List PyData} (h : Fine (.list xs)) : FineAll xs :=
  ⟨by simpa only [PyData.showable] using h.1, fun t ht => Nat.le_trans (listText_mem_le ht) (by simpa only [PyData.shown] using h.2)⟩
theorem fineAll_tup {xs : List PyData} (h : Fine (.tuple xs)) : FineAll xs :=
  ⟨by simpa only [PyData.showable] using h.1, fun t ht => Nat.le_trans (tupleText_mem_le ht) (by simpa only [PyData.shown] using h.2)⟩
theorem fineAll_dict {kvs : List (PyData × PyData)} (h : Fine (.dict kvs)) : FineAll (kvs.map (·.1)) ∧ FineAll (kvs.map (·.2)) := by
  have hz : (dictText (PyData.shownKv kvs)).length ≤ sizeLine := by simpa only [PyData.shown] using h.2
  obtain ⟨s1, s2⟩ := PyData.showableKv_split kvs (by simpa only [PyData.showable] using h.1)
  refine ⟨⟨s1, fun t ht => ?_⟩, s2, fun t ht => ?_⟩
  · obtain ⟨q, hq, hl⟩ := PyData.shownKv_key_le kvs t ht
    exact Nat.le_trans hl (Nat.le_trans (dictText_mem_le hq) hz)
  · obtain ⟨q, hq, hl⟩ := PyData.shownKv_val_le kvs t ht
    exact Nat.le_trans hl (Nat.le_trans (dictText_mem_le hq) hz)
/-- a thing on the heap that shows -/
def ShowsRef (P : Program) (w : World) (h : Heap) (u : Value) (p : PyData) : Prop := ∀ a, u = .ref a → ∃ T idr, ShowsBy P w h a p T idr
theorem shows_list {P : Program} {w : World} {h : Heap} {a : Addr} {us : List Value} {ps : List PyData} (t : h.IsList a us.toArray) (A : ShowsAll P w h us ps) (hz : Fine (.list ps)) : Shows P w h (.ref a) (.list ps) ∧ ShowsRef P w h (.ref a) (.list ps) := by
  obtain ⟨⟨as, ra⟩, bs, m, k⟩ := A
  obtain ⟨o, ho, hc, n, hd⟩ := t
  have r : Reads h (.ref a) (.list ps) (a :: as) := .list ho hc hd (by simpa using ra)
  have hna : a ∉ bs := not_mem_of_deeper r (n := PyData.depthAll ps) (by simp only [PyData.depth]; omega) m
  have hz' : (listText (PyData.shownAll ps)).length ≤ sizeLine := by simpa only [PyData.shown] using hz.2
  constructor
  · refine ⟨⟨_, r⟩, a :: bs, ReadAtMost.cons r (by simp only [PyData.depth]; omega) m, ?_⟩
    simp only [PyData.depth, PyData.shown]
    cases us with
    | nil =>
      cases ra
      simp only [PyData.shownAll, listText_nil]
      exact ReprK.listEmpty ho hc hd
    | cons u us => exact ReprK.list ho hc hd hna (by simpa using k.length_eq) fun i y e => k.item i y (by simpa using e)
  · intro a' ea
    cases ea
    refine ⟨"list", "list.__repr__", PySem.F.slot_list_repr.toG, PySem.F.slot_list_str, PySem.F.slot_list_format, fun s hk0 => ⟨o, hk0 _ _ ho, hc⟩, fun A E s Q hg hu hk0 hQ => ?_⟩
    simp only [PyData.depth] at hu
    simp only [PyData.shown] at hQ
    cases us with
    | nil =>
      cases ra
      simp only [PyData.shownAll, listText_nil] at hQ
      exact call_list_repr_empty ⟨o, hk0 _ _ ho, hc⟩ (hk0 _ _ ho) hd (hQ s.heap _ _ fun _ _ e => e)
    | cons u us => exact call_list_reprK ho hc hd hna (by simpa using k.length_eq) (fun i y e => k.item i y (by simpa using e)) hg (fun b _ => Clear.nil b) hu hk0 hQ hz'
theorem shows_tup {P : Program} {w : World} {h : Heap} {a : Addr} {us : List Value} {ps : List PyData} (t : h.IsTuple a us.toArray) (A : ShowsAll P w h us ps) (hz : Fine (.tuple ps)) : Shows P w h (.ref a) (.tuple ps) ∧ ShowsRef P w h (.ref a) (.tuple ps) := by
  obtain ⟨⟨as, ra⟩, bs, m, k⟩ := A
  obtain ⟨o, ho, hc, n, hd⟩ := t
  have r : Reads h (.ref a) (.tuple ps) as := .tuple ho hc hd (by simpa using ra)
  have hna : a ∉ bs := not_mem_of_deeper r (n := PyData.depthAll ps) (by simp only [PyData.depth]; omega) m
  have hz' : (tupleText (PyData.shownAll ps)).length ≤ sizeLine := by simpa only [PyData.shown] using hz.2
  constructor
  · refine ⟨⟨_, r⟩, a :: bs, ReadAtMost.cons r (by simp only [PyData.depth]; omega) m, ?_⟩
    simp only [PyData.depth, PyData.shown]
    exact ReprK.tuple ho hc hd hna (by simpa using k)
  · intro a' ea
    cases ea
    refine ⟨"tuple", "tuple.__repr__", PySem.F.slot_tuple_repr, PySem.F.slot_tuple_str, PySem.F.slot_tuple_format, fun s hk0 => ⟨o, hk0 _ _ ho, hc⟩, fun A E s Q hg hu hk0 hQ => ?_⟩
    simp only [PyData.depth] at hu
    simp only [PyData.shown] at hQ
    exact call_tuple_reprK ho hc hd hna (by simpa using k) hg (fun b _ => Clear.nil b) hu hk0 hQ hz'
theorem shows_dict {P : Program} {w : World} {h : Heap} {a : Addr} {o : Obj} {es : Array DictEntry} {ep : Nat} {ps : List (PyData × PyData)} (ho : h.get? a = some o) (hc : o.cls = .type "dict") (hd : o.data = .dict es ep) (hsm : (a == sysModules) = false) (A : ShowsAll P w h (es.toList.map (·.key)) (ps.map (·.1))) (B : ShowsAll P w h (es.toList.map (·.val)) (ps.map (·.2))) (hz : Fine (.dict ps)) :
    Shows P w h (.ref a) (.dict ps) ∧ ShowsRef P w h (.ref a) (.dict ps) := by
  obtain ⟨⟨as, ra⟩, bs, m, k⟩ := A
  obtain ⟨⟨as', ra'⟩, bs', m', k'⟩ := B
  have r : Reads h (.ref a) (.dict ps) (a :: as ++ as') := .dict ho hc hd ra ra'
  have mm : ReadAtMost h (PyData.depthKv ps) (bs ++ bs') := (m.mono (PyData.depthAll_keys_le ps)).append (m'.mono (PyData.depthAll_vals_le ps))
  have hna : a ∉ bs ++ bs' := not_mem_of_deeper r (n := PyData.depthKv ps) (by simp only [PyData.depth]; omega) mm
  have hz' : (dictText (PyData.shownKv ps)).length ≤ sizeLine := by simpa only [PyData.shown] using hz.2
  have kk := ReprEntriesK.of_two es.toList _ _ (k.more_le (as' := bs ++ bs') (fun b q => List.mem_append_left _ q) (PyData.depthAll_keys_le ps)) (k'.more_le (fun b q => List.mem_append_right _ q) (PyData.depthAll_vals_le ps))
  constructor
  · refine ⟨⟨_, r⟩, a :: (bs ++ bs'), ReadAtMost.cons r (by simp only [PyData.depth]; omega) mm, ?_⟩
    simp only [PyData.depth, PyData.shown, PyData.shownKv_eq]
    exact ReprK.dict ho hc hd hsm hna kk
  · intro a' ea
    cases ea
    refine ⟨"dict", "dict.__repr__", PySem.F.slot_dict_repr, PySem.F.slot_dict_str, PySem.F.slot_dict_format, fun s hk0 => ⟨o, hk0 _ _ ho, hc⟩, fun A E s Q hg hu hk0 hQ => ?_⟩
    simp only [PyData.depth] at hu
    simp only [PyData.shown, PyData.shownKv_eq] at hQ
    exact call_dict_reprK ho hc hd hsm hna kk hg (fun b _ => Clear.nil b) hu hk0 hQ (by rw [← PyData.shownKv_eq]; exact hz')
theorem shows_of (I : Inv X pins σ H s) (S : Sim (gx X cl) H ad st) : ∀ (n : Nat) (d : D) (v : V) (u : Value) (p : PyData), RelD X.K H ad d v → RelV v u → pyD st n d = some p → Fine p → Shows X.prog X.w s.heap u p ∧ ShowsRef X.prog X.w s.heap u p
  | 0, _, _, _, _, _, _, h, _ => by cases h
  | n + 1, d, v, u, p, rd, rv, h, hz => by
    have ih := fun d v u p a b c e => (shows_of I S n d v u p a b c e).1
    unfold pyD py1 at h
    have sn := seen I S rd rv
    cases sn with
    | non => cases h; exact ⟨⟨⟨[], .none⟩, [], (fun _ h => nomatch h), by simp only [PyData.shown]; exact .of_is ReprIs.none _ _ _⟩, fun _ e => nomatch e⟩
    | bl b => cases h; exact ⟨⟨⟨[], .bool b⟩, [], (fun _ h => nomatch h), by simp only [PyData.shown]; exact .of_is (ReprIs.bool b) _ _ _⟩, fun _ e => nomatch e⟩
    | int i t => cases h; exact ⟨keyP_shows (k := .inl i) (keyIs_int i t) hz, fun _ e => nomatch e⟩
    | str x t => cases h; exact ⟨keyP_shows (k := .inr x) (keyIs_str x t) hz, fun _ e => nomatch e⟩
    | kl xs u => cases h
    | tup r v t _ =>
      obtain ⟨ps, e, rfl⟩ := Option.map_eq_some_iff.mp h
      exact shows_tup t (showsAll_of ih r v e (fineAll_tup hz)) hz
    | lst eo pa r v t ha =>
      simp only [eo] at h
      obtain ⟨ps, e, rfl⟩ := Option.map_eq_some_iff.mp h
      exact shows_list t (showsAll_of ih r v e (fineAll_list hz)) hz
    | ins eo u => simp only [eo] at h; cases h
    | @dK n1 kvs a eo ha _ =>
      simp only [eo] at h
      obtain ⟨ps, e, rfl⟩ := Option.map_eq_some_iff.mp h
      obtain ⟨ks, ek, rk⟩ := dK_at S ha eo
      obtain ⟨_, hsm, vs, kv, o, es, ep, ho, hx, hdat, hko, hp, hnd⟩ := I.hok _ _ ek
      obtain ⟨A, B⟩ := showsKv_of ih rk kv hp e (fineAll_dict hz).1 (fineAll_dict hz).2
      exact shows_dict ho hx.1 hdat hsm A B hz
/-- repr(x) -/
theorem cr_reprD (hg : X.A.guards = some []) (hu : X.A.units + 64 < cLine) : CallR X (.builtin "repr") (rC (gx X cl) E reprD) := by
  intro pins s σ H xs us Q I r h
  obtain ⟨ad, ds, st, S, rd, h⟩ := h
  match ds, h with
  | [d], h =>
    obtain ⟨v, rfl, rd1⟩ := relDs1 rd
    obtain ⟨u, rfl, rv⟩ : ∃ u, us = [u] ∧ RelV v u := by
      cases r with
      | cons a b => cases b; exact ⟨_, rfl, a⟩
    unfold reprD at h
    simp only at h
    cases e : pyD st 40 d with
    | none => simp only [e] at h; exact h.elim
    | some p =>
      simp only [e] at h
      split at h
      case isFalse => exact h.elim
      rename_i hc
      obtain ⟨⟨⟨as, ra⟩, _⟩, sr⟩ := shows_of I S 40 d v u p rd1 rv e hc
      have hdp := pyD_depth st 40 d p e
      have fin : ∀ h' t tk, (∀ b o, s.heap.get? b = some o → h'.get? b = some o) → EP X pins σ Q (.str p.shown t) { s with heap := h', toks := tk } := fun h' t tk hk =>
        ⟨.str p.shown, H, I.kept (t' := tk) hk, ⟨t, rfl⟩, h _ H ad .refl S (relD_str.mpr rfl)⟩
      cases u with
      | ref a =>
        obtain ⟨T, idr, S0⟩ := sr a rfl
        exact call_repr_slot (by omega) (S0.typeIs s fun _ _ e => e) S0.slotRepr (S0.call X.A.in1 _ s _ hg (by show X.A.units + 1 + p.depth < cLine; omega) (fun _ _ e => e) fun h' u tk hk => ⟨_, _, rfl, fin h' u tk hk⟩)
      | none => cases ra; exact PySem.P.repr_of_none (fin _ _ _ fun _ _ e => e)
      | bool b => cases ra; exact PySem.P.repr_of_bool (fin _ _ _ fun _ _ e => e)
      | int i t => cases ra; exact PySem.P.repr_of_int (of_decide_eq_true (by simpa only [PyData.showable] using hc.1)) (fin _ _ _ fun _ _ e => e)
      | str x t => cases ra; exact PySem.P.repr_of_str (fin _ _ _ fun _ _ e => e) (by simpa only [PyData.shown] using hc.2)
      | _ => cases ra
variable {a : Expr} {ma : M D} {p pos : Pos}
theorem me_repr (hg : X.A.guards = some []) (hu : X.A.units + 64 < cLine) (hm : X.mg "repr" = none) (ha : PE X a (tE (gx X cl) E ma)) (hgl : Gl X "repr" := by rfl) (na : starEach [a] X.env = (false, eval a X.env) :: starEach [] X.env := by rfl)
    (hpl : (backTo pos (starEach [] X.env)).any (·.1) = false := by rfl) : PE X (.Call (.Name "repr" p) [a] [] pos) (tE (gx X cl) E (mRepr ma)) :=
  me_callB (cr_reprD hg hu) hm (by decide +kernel) (ma_cons ha ma_nil na) hgl (he := na) (hpl := hpl)
end
end Mp
end
section
set_option Elab.async false
set_option linter.all false
set_option maxRecDepth 100000
set_option maxHeartbeats 2000000
/-! Mp: what a law's text finds at the top. -/
namespace Mp
open PySem PySem.Spec PyProof.Rows L2
theorem bb_len : bootBuiltins "len" = some (.builtin "len") := by decide +kernel
theorem bb_all : bootBuiltins "all" = some (.builtin "all") := by decide +kernel
theorem bb_any : bootBuiltins "any" = some (.builtin "any") := by decide +kernel
theorem bb_min : bootBuiltins "min" = some (.builtin "min") := by decide +kernel
theorem bb_max : bootBuiltins "max" = some (.builtin "max") := by decide +kernel
theorem bb_sum : bootBuiltins "sum" = some (.builtin "sum") := by decide +kernel
theorem bb_list : bootBuiltins "list" = some (.type "list") := by decide +kernel
theorem bb_tuple : bootBuiltins "tuple" = some (.type "tuple") := by decide +kernel
theorem bb_int : bootBuiltins "int" = some (.type "int") := by decide +kernel
theorem bb_bool : bootBuiltins "bool" = some (.type "bool") := by decide +kernel
theorem bb_str : bootBuiltins "str" = some (.type "str") := by decide +kernel
theorem bb_dict : bootBuiltins "dict" = some (.type "dict") := by decide +kernel
/-- a def of the module -/
structure Fd (K : PySem.W.Frag) (mg : Str → Option Value) (nm : Str) (st : Stmt) (ps : List Str) where
  a : Addr
  fd : FuncData
  F : Fun K nm nm st a fd
  m : mg nm = some (.ref a)
  k : PySem.W.keepIn K (.ref a) = true
  hb : ∀ us : List Value, us.length = ps.length → bindArgs fd ⟨us, []⟩ = pure (ps.zip us)
theorem Fd.b {K : PySem.W.Frag} {mg : Str → Option Value} {nm : Str} {st : Stmt} {ps : List Str} (d : Fd K mg nm st ps) : Binds K d.fd ps [] := .all d.hb
def Fd.of {K : PySem.W.Frag} {mg : Str → Option Value} {nm : Str} {st : Stmt} {ps : List Str} {h : Heap} (KX : K.In h) (G : h.Ns mainGlobals mg) {f : Addr} {oc : Value} {od an : Option Addr} {osl : Array (Option Value)} {kV doc pm cdv ct : Value}
    (a : PySem.W.nsIn K mainGlobals nm = some (some (.ref f))) (l : K.lookup f = some ⟨oc, od, .func (PySem.W.fnOf nm nm (defArgs st) (defBody st) (defScope st) .none kV doc pm an cdv ct), osl⟩) (c : PySem.W.codeIn K cdv nm = true) (k : PySem.W.keepIn K (.ref f) = true)
    (hb : ∀ (kV doc pm : Value) (an : Option Addr) (cdv ct : Value) (us : List Value), us.length = ps.length → bindArgs (PySem.W.fnOf nm nm (defArgs st) (defBody st) (defScope st) .none kV doc pm an cdv ct) ⟨us, []⟩ = pure (ps.zip us)) : Fd K mg nm st ps :=
  ⟨f, PySem.W.fnOf nm nm (defArgs st) (defBody st) (defScope st) .none kV doc pm an cdv ct, fun_mk l c k, PySem.W.mg_of KX G a, k, hb kV doc pm an cdv ct⟩
theorem cInt {K : PySem.W.Frag} {mg : Str → Option Value} {nm : Str} {h : Heap} {i : Int} {t : Tok} (KX : K.In h) (G : h.Ns mainGlobals mg) (a : PySem.W.nsIn K mainGlobals nm = some (some (.int i t))) : ∃ t, mg nm = some (.int i t) := ⟨t, PySem.W.mg_of KX G a⟩
theorem cStr {K : PySem.W.Frag} {mg : Str → Option Value} {nm : Str} {h : Heap} {i : Str} {t : Tok} (KX : K.In h) (G : h.Ns mainGlobals mg) (a : PySem.W.nsIn K mainGlobals nm = some (some (.str i t))) : ∃ t, mg nm = some (.str i t) := ⟨t, PySem.W.mg_of KX G a⟩
theorem cNone {K : PySem.W.Frag} {mg : Str → Option Value} {nm : Str} {h : Heap} (KX : K.In h) (G : h.Ns mainGlobals mg) (a : PySem.W.nsIn K mainGlobals nm = some none) : mg nm = none := PySem.W.mg_none_of KX G a
/-- a tuple of texts -/
theorem cTupS {K : PySem.W.Frag} {mg : Str → Option Value} {nm : Str} {h : Heap} {u : Addr} {o : Obj} {its : Array Value} {n : Nat} {xs : List Str} (KX : K.In h) (G : h.Ns mainGlobals mg) (a : PySem.W.nsIn K mainGlobals nm = some (some (.ref u)))
    (l : K.lookup u = some o) (hc : o.cls = .type "tuple") (hd : o.data = .seq its n) (hz : its.size ≤ sizeLine) (hv : Vals (xs.map V.str) its.toList) : ∃ u, mg nm = some (.ref u) ∧ ∀ H, SqT K H u (xs.map V.str) :=
  ⟨u, PySem.W.mg_of KX G a, fun H => .inr ⟨o, its, n, l, hc, hd, hz, hv⟩⟩
theorem sysIn {K : PySem.W.Frag} {o : Obj} (l : K.lookup sysModules = some o) : ∃ o, K.lookup sysModules = some o := ⟨o, l⟩
section
variable {X : Cx} {cl : Str → Addr} {E : XK} {x : Str} {pos : Pos}
theorem me_kInt {i : Int} (hm : ∃ t, X.mg x = some (.int i t)) (hg : Gl X x := by rfl) (hd : (x == ("__debug__" : Str)) = false := by decide) : PE X (.Name x pos) (tE (gx X cl) E (mC (.int i))) := me_gInt hm.choose_spec hg hd
theorem me_kStr {i : Str} (hm : ∃ t, X.mg x = some (.str i t)) (hg : Gl X x := by rfl) (hd : (x == ("__debug__" : Str)) = false := by decide) : PE X (.Name x pos) (tE (gx X cl) E (mC (.str i))) := me_gStr hm.choose_spec hg hd
theorem me_kTupS {xs : List Str} (hm : ∃ u, X.mg x = some (.ref u) ∧ ∀ H, SqT X.K H u (xs.map V.str)) (hg : Gl X x := by rfl) (hd : (x == ("__debug__" : Str)) = false := by decide) : PE X (.Name x pos) (tE (gx X cl) E (mC (.tup (xs.map .str)))) :=
  me_gTup hm.choose_spec.1 hm.choose_spec.2 (fun _ _ => relDs_strs xs) hg hd
end
theorem FnG.none {P : Program} {w : World} {K : PySem.W.Frag} {mg : Str → Option Value} {base : Heap} {CX : CXT} {k n : Nat} {f : Addr} {fd : FuncData} {ps : List Str} {g : G} (hn : ps.length = n) : FnG P w K mg base CX k f fd ps (spN g n fun _ _ => .stuck) :=
  ⟨fun vs H Q E h => h.1.trans hn.symm, fun A outer s H args us vs Q E hr hg e0 hb r h => let ⟨_, _, _, _, _, _, q⟩ := h; q.elim⟩
/-- the law's end, from what its def answers -/
theorem end_of {K : PySem.W.Frag} {cl : Str → Addr} {F : List D → Store → R D} {n : Nat} (hF : ∀ ns : List Int, ns.length ≤ n → ∃ st, F [.kl (ns.map .int)] [] = .ok (.bl true) st) (H : Hp) (a : Addr) (ns : List Int) (hl : ns.length ≤ n) (hO : Only H) (hS : SqR K H a (ns.map V.int)) :
    spN ⟨K, cl⟩ 1 F [.ref a] H (fun v _ => v = .bl true) fun _ _ _ => False := by
  obtain ⟨st, e⟩ := hF ns hl
  have ri : ∀ ns : List Int, RelDs K H [] (ns.map .int) (ns.map V.int) := fun ns => by
    induction ns with
    | nil => exact RelDs.nil
    | cons x xs ih => exact RelDs.cons (relD_int.mpr rfl) ih
  refine ⟨rfl, [], [.kl (ns.map .int)], [], ⟨rfl, List.nodup_nil, fun n o e => by simp at e⟩, RelDs.cons (relD_kl.mpr ⟨a, _, rfl, hS, ri ns⟩) RelDs.nil, ?_⟩
  rw [e]
  exact fun v H' ad' _ _ r => relD_bl.mp r
end Mp
end
section
set_option Elab.async false
set_option linter.all false
set_option maxRecDepth 100000
set_option maxHeartbeats 2000000
/-! Mp: comprehensions, the own slots given as a list. -/
namespace Mp
open PySem PySem.Spec PyProof.Rows L2
section
variable {X : Cx} {cl : Str → Addr} {E : XK} {tg iter : Expr} {pos : Pos} {vs : List Nat}
theorem me_lcv {elt : Expr} {ifs : List Expr} {scope : Scope} {own : List (Str × Nat)} {mi : M ItD} {mg : D → M DSt} {tt : M Bool} {me : M D} (hc : X.calm = true) (hN : X.N.Nodup) (hi : PI X tg iter (tI (gx X cl) E mi)) (ok : BlkOk X.N X.env.scope scope own)
    (hg : ∀ (s : Shared) (H : Hp) (C : Addr) (cls : List (Str × Addr)) (fp : List Addr), PG (X.blk s H scope (compEnvC scope cls C X.env) fp) tg (tGW (gx X cl) E0 vs mg))
    (ht : ∀ (s : Shared) (H : Hp) (C : Addr) (cls : List (Str × Addr)) (fp : List Addr), PTs (X.blk s H scope (compEnvC scope cls C X.env) fp) ifs (tT (gx X cl) E0 tt))
    (he : ∀ (s : Shared) (H : Hp) (C : Addr) (cls : List (Str × Addr)) (fp : List Addr), PE (X.blk s H scope (compEnvC scope cls C X.env) fp) elt (tE (gx X cl) E0 me)) (hvs : own.map (·.2) = vs := by rfl) (hs : ∀ x, foldedSetIterable iter X.env x = pure x := by intro _; rfl) :
    PE X (.ListComp elt [⟨tg, iter, ifs, 0⟩] scope pos) (tE (gx X cl) E (mLc mi mg tt me vs)) := by
  subst hvs
  exact me_lc hc hN hi ok hg ht he hs
theorem ms_setLcv {elt : Expr} {ifs : List Expr} {i : Nat} {y : Str} {py spos : Pos} {scope : Scope} {own : List (Str × Nat)} {mi : M ItD} {mg : D → M DSt} {tt : M Bool} {me : M D} (hc : X.calm = true) (hN : X.N.Nodup) (hi : PI X tg iter (tI (gx X cl) E mi)) (ok : BlkOk X.N X.env.scope scope own)
    (hg : ∀ (s : Shared) (H : Hp) (C : Addr) (cls : List (Str × Addr)) (fp : List Addr), PG (X.blk s H scope (compEnvC scope cls C X.env) fp) tg (tGW (gx X cl) E0 vs mg))
    (ht : ∀ (s : Shared) (H : Hp) (C : Addr) (cls : List (Str × Addr)) (fp : List Addr), PTs (X.blk s H scope (compEnvC scope cls C X.env) fp) ifs (tT (gx X cl) E0 tt))
    (he : ∀ (s : Shared) (H : Hp) (C : Addr) (cls : List (Str × Addr)) (fp : List Addr), PE (X.blk s H scope (compEnvC scope cls C X.env) fp) elt (tE (gx X cl) E0 me))
    (hsw : swapsWith (.ListComp elt [⟨tg, iter, ifs, 0⟩] scope pos) (some (.Name y py)) spos.line X.env = pure true) (hvs : own.map (·.2) = vs := by rfl) (hy : X.N[i]? = some y := by rfl) (hyl : X.env.scope.names.lookup y = some .local := by rfl) (hs : ∀ x, foldedSetIterable iter X.env x = pure x := by intro _; rfl) :
    PS X (.Assign [.Name y py] (.ListComp elt [⟨tg, iter, ifs, 0⟩] scope pos) spos) (tS (gx X cl) E (sAsg (mLc mi mg tt me vs) (gNm i))) := by
  subst hvs
  exact ms_setLc hc hN hi ok hg ht he hsw hy hyl hs
end
end Mp
end
section
set_option Elab.async false
set_option linter.all false
set_option maxRecDepth 100000
set_option maxHeartbeats 2000000
/-! Mp: what a construct answers, by what must hold behind it (no program in sight). -/
namespace Mp
open PySem PySem.Spec PyProof.Rows L2
def Ok {α : Type} (r : R α) (Q : α → Store → Prop) : Prop := match r with
  | .ok a st => Q a st
  | _ => False
section
variable {α β : Type} {Q : α → Store → Prop} {st : Store} {ds : DSt} {N B C : DSt → Store → Prop} {T : D → Store → Prop}
@[simp] theorem Ok_ok (a : α) : Ok (.ok a st) Q = Q a st := rfl
@[simp] theorem Ok_stuck : Ok (.stuck : R α) Q = False := rfl
@[simp] theorem Ok_exc (c : Str) (fs) : Ok (.exc c fs st : R α) Q = False := rfl
theorem Ok_bind {Q : β → Store → Prop} (r : R α) (k : α → Store → R β) : Ok (r.bind k) Q = Ok r fun a st => Ok (k a st) Q := by cases r <;> rfl
theorem Ok.mono {r : R α} {Q Q' : α → Store → Prop} (h : Ok r Q) (i : ∀ a st, Q a st → Q' a st) : Ok r Q' := by
  cases r with
  | ok a st => exact i a st h
  | exc _ _ _ => exact h
  | stuck => exact h
theorem Ok.ex {r : R α} (h : Ok r Q) : ∃ a st, r = .ok a st ∧ Q a st := by
  cases r with
  | ok a st => exact ⟨a, st, rfl, h⟩
  | exc _ _ _ => exact h.elim
  | stuck => exact h.elim
theorem Ok_ite {c : Prop} [Decidable c] {a b : R α} : Ok (if c then a else b) Q = ((c → Ok a Q) ∧ (¬ c → Ok b Q)) := by
  by_cases h : c
  · simp [h]
  · simp [h]
def wE (m : M α) (ds : DSt) (st : Store) (Q : α → Store → Prop) : Prop := Ok (m ds st) Q
def wS (s : MS) (ds : DSt) (st : Store) (N : DSt → Store → Prop) (T : D → Store → Prop) (B C : DSt → Store → Prop) : Prop := match s ds st with
  | .nx ds st => N ds st
  | .rt d st => T d st
  | .bk ds st => B ds st
  | .ct ds st => C ds st
  | _ => False
theorem wE.mono {m : M α} {Q Q' : α → Store → Prop} (h : wE m ds st Q) (i : ∀ a st, Q a st → Q' a st) : wE m ds st Q' := Ok.mono h i
theorem wS.mono {s : MS} {N' B' C' : DSt → Store → Prop} {T' : D → Store → Prop} (h : wS s ds st N T B C) (i : ∀ ds st, N ds st → N' ds st) (j : ∀ ds st, T ds st → T' ds st) (k : ∀ ds st, B ds st → B' ds st) (l : ∀ ds st, C ds st → C' ds st) : wS s ds st N' T' B' C' := by
  unfold wS at *
  split <;> simp_all
/-! ### values -/
theorem wE_C {d : D} {Q : D → Store → Prop} : wE (mC d) ds st Q = Q d st := rfl
theorem wE_var {i : Nat} {d : D} {Q : D → Store → Prop} (h : ds[i]? = some (some d)) : wE (mVar i) ds st Q = Q d st := by unfold wE mVar; rw [h]; rfl
/-- the i-th slot -/
def slot (ds : DSt) (i : Nat) (k : D → Prop) : Prop := match ds[i]? with
  | some (some d) => k d
  | _ => False
theorem slot_zero {d : D} {ds : DSt} {k : D → Prop} : slot (some d :: ds) 0 k = k d := rfl
theorem slot_succ {o : Option D} {ds : DSt} {i : Nat} {k : D → Prop} : slot (o :: ds) (i + 1) k = slot ds i k := by unfold slot; rw [List.getElem?_cons_succ]
theorem wE_v {i : Nat} {Q : D → Store → Prop} : wE (mVar i) ds st Q = slot ds i fun d => Q d st := by
  unfold wE mVar slot
  split <;> simp_all
theorem wE_1 {f : D → Store → R D} {a : M D} {Q : D → Store → Prop} : wE (m1 f a) ds st Q = wE a ds st fun x st => Ok (f x st) Q := Ok_bind _ _
theorem wE_2 {f : D → D → Store → R D} {a b : M D} {Q : D → Store → Prop} : wE (m2 f a b) ds st Q = wE a ds st fun x st => wE b ds st fun y st => Ok (f x y st) Q := by
  unfold wE m2
  rw [Ok_bind]
  simp only [Ok_bind]
theorem wE_nil {Q : List D → Store → Prop} : wE mNil ds st Q = Q [] st := rfl
theorem wE_cons {a : M D} {r : M (List D)} {Q : List D → Store → Prop} : wE (mCons a r) ds st Q = wE a ds st fun x st => wE r ds st fun xs st => Q (x :: xs) st := by
  unfold wE mCons
  rw [Ok_bind]
  simp only [Ok_bind, Ok_ok]
theorem wE_tup {a : M (List D)} {Q : D → Store → Prop} : wE (mTup a) ds st Q = wE a ds st fun xs st => xs.length ≤ sizeLine ∧ Q (.tup xs) st := by
  unfold wE mTup
  rw [Ok_bind]
  congr 1; funext xs st
  by_cases h : xs.length ≤ sizeLine <;> simp [h]
theorem wE_lst {a : M (List D)} {Q : D → Store → Prop} : wE (mLst a) ds st Q = wE a ds st fun xs st => xs.length ≤ sizeLine ∧ Q (.loc st.length) (st ++ [.lst xs]) := by
  unfold wE mLst
  rw [Ok_bind]
  congr 1; funext xs st
  by_cases h : xs.length ≤ sizeLine <;> simp [h]
theorem wE_dict0 {Q : D → Store → Prop} : wE mDict0 ds st Q = Q (.loc st.length) (st ++ [.dK []]) := rfl
theorem wE_call {f : List D → Store → R D} {a : M (List D)} {Q : D → Store → Prop} : wE (mCall f a) ds st Q = wE a ds st fun xs st => Ok (f xs st) Q := Ok_bind _ _
theorem Ok_callN {n : Nat} {F : List D → Store → R D} {xs : List D} {Q : D → Store → Prop} : Ok (callN n F xs st) Q = (xs.length = n ∧ Ok (F xs st) Q) := by
  unfold callN
  by_cases h : xs.length = n
  · rw [if_pos h]; simp only [h, true_and]; cases F xs st <;> rfl
  · rw [if_neg h]; simp [h]
theorem wE_if {c : M Bool} {a b : M D} {Q : D → Store → Prop} : wE (mIf c a b) ds st Q = wE c ds st fun k st => (k = true → wE a ds st Q) ∧ (k = false → wE b ds st Q) := by
  unfold wE mIf
  rw [Ok_bind]
  congr 1; funext k st
  cases k <;> simp
theorem wE_tval {a : M D} {Q : Bool → Store → Prop} : wE (tVal a) ds st Q = wE a ds st fun x st => Ok (truth x st) Q := Ok_bind _ _
theorem wE_tb1 {a : M D} {Q : Bool → Store → Prop} : wE (tB1 a) ds st Q = wE a ds st fun x st => Ok (isB x st) Q := Ok_bind _ _
theorem wE_tand {a b : M Bool} {Q : Bool → Store → Prop} : wE (tAnd a b) ds st Q = wE a ds st fun k st => (k = true → wE b ds st Q) ∧ (k = false → Q false st) := by
  unfold wE tAnd
  rw [Ok_bind]
  congr 1; funext k st
  cases k <;> simp
theorem wE_tor {a b : M Bool} {Q : Bool → Store → Prop} : wE (tOr a b) ds st Q = wE a ds st fun k st => (k = true → Q true st) ∧ (k = false → wE b ds st Q) := by
  unfold wE tOr
  rw [Ok_bind]
  congr 1; funext k st
  cases k <;> simp
theorem wE_tnot {a : M Bool} {Q : Bool → Store → Prop} : wE (tNot a) ds st Q = wE a ds st fun k st => Q (!k) st := by
  unfold wE tNot
  rw [Ok_bind]
  rfl
theorem wE_and {a b : M D} {Q : D → Store → Prop} : wE (mAnd a b) ds st Q = wE a ds st fun x st => Ok (isB x st) fun k st => (k = true → wE b ds st Q) ∧ (k = false → Q (.bl false) st) := by
  unfold wE mAnd
  rw [Ok_bind]
  congr 1; funext x st
  rw [Ok_bind]
  congr 1; funext k st
  cases k <;> simp
theorem wE_or {a b : M D} {Q : D → Store → Prop} : wE (mOr a b) ds st Q = wE a ds st fun x st => Ok (isB x st) fun k st => (k = true → Q (.bl true) st) ∧ (k = false → wE b ds st Q) := by
  unfold wE mOr
  rw [Ok_bind]
  congr 1; funext x st
  rw [Ok_bind]
  congr 1; funext k st
  cases k <;> simp
theorem wE_not {a : M D} {Q : D → Store → Prop} : wE (mNotV a) ds st Q = wE a ds st fun x st => Ok (isB x st) fun k st => Q (.bl (!k)) st := by
  unfold wE mNotV
  rw [Ok_bind]
  congr 1; funext x st
  rw [Ok_bind]
  rfl
theorem wE_chain {f f' : D → D → Store → R D} {a b c : M D} {Q : D → Store → Prop} : wE (mChain f f' a b c) ds st Q = wE a ds st fun x st => wE b ds st fun y st => Ok (f x y st) fun z st => Ok (isB z st) fun k st => (k = true → wE c ds st fun w st => Ok (f' y w st) Q) ∧ (k = false → Q (.bl false) st) := by
  unfold wE mChain
  simp only [Ok_bind]
  congr 1; funext x st
  congr 1; funext y st
  congr 1; funext z st
  congr 1; funext k st
  cases k <;> simp [Ok_bind]
@[simp] theorem isB_bl {b : Bool} : isB (.bl b) st = .ok b st := rfl
@[simp] theorem truth_bl {b : Bool} : truth (.bl b) st = .ok b st := rfl
theorem wE_bm {Ty : String} {f : D → List D → Store → R D} {o : M D} {as : M (List D)} {Q : D → Store → Prop} : wE (mBM Ty f o as) ds st Q = wE o ds st fun x st => tyD st x = some Ty ∧ wE as ds st fun xs st => Ok (f x xs st) Q := by
  unfold wE mBM
  rw [Ok_bind]
  congr 1; funext x st
  by_cases h : tyD st x = some Ty
  · simp [h, Ok_bind]
  · simp [h]
theorem wE_repr {a : M D} {Q : D → Store → Prop} : wE (mRepr a) ds st Q = wE a ds st fun x st => Ok (reprD [x] st) Q := by
  unfold mRepr
  rw [wE_call, wE_cons]
  rfl
theorem wE_sl {a : M D} {l h : M (Option Int)} {Q : D → Store → Prop} : wE (mSl a l h) ds st Q = wE a ds st fun x st => wE l ds st fun lo st => wE h ds st fun hi st => Ok (slD x lo hi st) Q := by
  unfold wE mSl
  simp only [Ok_bind]
theorem wE_pN {Q : Option Int → Store → Prop} : wE pN ds st Q = Q none st := rfl
def intOf (d : D) (k : Int → Prop) : Prop := match d with
  | .int i => k i
  | _ => False
/-! ### statements -/
theorem wS_skip : wS sSkip ds st N T B C = N ds st := rfl
theorem wS_seq {a b : MS} : wS (sSeq a b) ds st N T B C = wS a ds st (fun ds st => wS b ds st N T B C) T B C := by
  unfold wS sSeq
  cases a ds st <;> rfl
theorem wS_expr {a : M D} : wS (sExpr a) ds st N T B C = wE a ds st fun _ st => N ds st := by
  unfold wS sExpr wE
  cases a ds st <;> rfl
theorem wS_ret {a : M D} : wS (sRet a) ds st N T B C = wE a ds st T := by
  unfold wS sRet wE
  cases a ds st <;> rfl
theorem wS_retN : wS sRetN ds st N T B C = T .non st := rfl
theorem wS_brk : wS sBrk ds st N T B C = B ds st := rfl
theorem wS_cnt : wS sCnt ds st N T B C = C ds st := rfl
theorem wS_if {c : M Bool} {a b : MS} : wS (sIf c a b) ds st N T B C = wE c ds st fun k st => (k = true → wS a ds st N T B C) ∧ (k = false → wS b ds st N T B C) := by
  unfold wS sIf wE
  cases c ds st with
  | ok k st => cases k <;> simp
  | _ => rfl
theorem wS_asg {a : M D} {g : D → M DSt} : wS (sAsg a g) ds st N T B C = wE a ds st fun d st => Ok (g d ds st) N := by
  unfold wS sAsg wE
  cases a ds st with
  | ok d st => simp only [ofR_ok, Ok_ok]; cases g d ds st <;> rfl
  | _ => rfl
theorem Ok_gNm {i : Nat} {d : D} : Ok (gNm i d ds st) N = N (ds.set i (some d)) st := rfl
theorem Ok_gTp {n : Nat} {r : List D → M DSt} {xs : List D} : Ok (gTp n r (.tup xs) ds st) N = (xs.length = n ∧ Ok (r xs ds st) N) := by
  unfold gTp
  by_cases h : xs.length = n <;> simp [h]
theorem Ok_gNil : Ok (gNil' [] ds st) N = N ds st := rfl
theorem Ok_gCons {a : D → M DSt} {r : List D → M DSt} {x : D} {xs : List D} : Ok (gCons' a r (x :: xs) ds st) N = Ok (a x ds st) fun ds st => Ok (r xs ds st) N := by
  unfold gCons'
  exact Ok_bind _ _
theorem Ok_gSb {mo mi : M D} {d : D} : Ok (gSb mo mi d ds st) N = wE mo ds st fun o st => wE mi ds st fun i st => Ok (setD o i d st) fun _ st => N ds st := by
  unfold gSb wE
  cases mo ds st with
  | ok o st =>
    simp only [Ok_ok]
    cases mi ds st with
    | ok i st => simp only [Ok_ok]; cases setD o i d st <;> rfl
    | _ => rfl
  | _ => rfl
theorem wS_par {i j : Nat} {m : M (List D)} : wS (sPar i j m) ds st N T B C = wE m ds st fun xs st => match xs with
  | [x, y] => N ((ds.set i (some x)).set j (some y)) st
  | _ => False := by
  unfold wS sPar wE
  cases m ds st with
  | ok xs st =>
    simp only [ofR_ok, Ok_ok]
    match xs with
    | [] => rfl
    | [_] => rfl
    | [_, _] => rfl
    | _ :: _ :: _ :: _ => rfl
  | _ => rfl
theorem wS_aug {i : Nat} {f : D → D → Store → R D} {m : M D} : wS (sAug i f m) ds st N T B C = slot ds i fun x => wE m ds st fun y st => Ok (f x y st) fun z st => N (ds.set i (some z)) st := by
  unfold wS sAug slot wE
  cases ds[i]? with
  | none => rfl
  | some o =>
    cases o with
    | none => rfl
    | some x =>
      simp only
      cases m ds st with
      | ok y st => simp only [ofR_ok, Ok_ok]; cases f x y st <;> rfl
      | _ => rfl
theorem Ok_fn {m n : Nat} {body : MS} {args : List D} {Q : D → Store → Prop} : Ok (fnD m n body args st) Q = (args.length = n ∧ wS body (args.map some ++ List.replicate (m - n) none) st (fun _ st => Q .non st) Q (fun _ _ => False) fun _ _ => False) := by
  unfold fnD wS
  by_cases h : args.length = n
  · rw [if_pos h]; simp only [h, true_and]; cases body (args.map some ++ List.replicate (m - n) none) st <;> rfl
  · rw [if_neg h]; simp [h]
/-! ### loops -/
theorem for_go {it : ItD} {g : D → M DSt} {b : MS} (Inv : Nat → DSt → Store → Prop) (hok : ∀ i ds st, Inv i ds st → it.ok st)
    (hstep : ∀ i x ds st, it.items[i]? = some x → Inv i ds st → Ok (g x ds st) fun ds st => wS b ds st (Inv (i + 1)) T N (Inv (i + 1))) (hend : ∀ ds st, Inv it.items.length ds st → N ds st) :
    ∀ (k i : Nat) (ds : DSt) (st : Store), it.items.length - i = k → i ≤ it.items.length → Inv i ds st → wS (fun ds st => forL it g b (it.items.drop i) ds st) ds st N T B C := by
  intro k
  induction k with
  | zero =>
    intro i ds st hk hi h
    have : i = it.items.length := by omega
    subst this
    unfold wS
    simp only [List.drop_length, forL]
    rw [if_pos (hok _ _ _ h)]
    exact hend ds st h
  | succ k ih =>
    intro i ds st hk hi h
    have hlt : i < it.items.length := by omega
    unfold wS
    simp only
    rw [List.drop_eq_getElem_cons hlt]
    simp only [forL]
    rw [if_pos (hok _ _ _ h)]
    have h1 := hstep i _ ds st (List.getElem?_eq_getElem hlt) h
    cases e : g it.items[i] ds st with
    | exc _ _ _ => rw [e] at h1; exact h1.elim
    | stuck => rw [e] at h1; exact h1.elim
    | ok ds1 st1 =>
      rw [e] at h1
      simp only [Ok_ok] at h1
      simp only
      unfold wS at h1
      cases e2 : b ds1 st1 with
      | nx ds' st' => rw [e2] at h1; exact ih (i + 1) ds' st' (by omega) hlt h1
      | ct ds' st' => rw [e2] at h1; exact ih (i + 1) ds' st' (by omega) hlt h1
      | bk ds' st' => rw [e2] at h1; exact h1
      | rt d st' => rw [e2] at h1; exact h1
      | exc _ _ _ => rw [e2] at h1; exact h1.elim
      | stuck => rw [e2] at h1; exact h1.elim
theorem wS_for {mi : M ItD} {g : D → M DSt} {b : MS} (h : wE mi ds st fun it st => ∃ Inv : Nat → DSt → Store → Prop, Inv 0 ds st ∧ (∀ i ds st, Inv i ds st → it.ok st) ∧
    (∀ i x ds st, it.items[i]? = some x → Inv i ds st → Ok (g x ds st) fun ds st => wS b ds st (Inv (i + 1)) T N (Inv (i + 1))) ∧ ∀ ds st, Inv it.items.length ds st → N ds st) : wS (sFor mi g b) ds st N T B C := by
  obtain ⟨it, st1, e, Inv, h0, hok, hstep, hend⟩ := Ok.ex h
  unfold wS sFor
  rw [e]
  exact for_go Inv hok hstep hend _ 0 ds st1 rfl (Nat.zero_le _) h0
theorem lc_go {it : ItD} {g : D → M DSt} {tt : M Bool} {te : M D} {ds : DSt} {Q : List D → Store → Prop} (Inv : Nat → List D → Store → Prop) (hok : ∀ i acc st, Inv i acc st → it.ok st ∧ acc.length ≤ i) (hz : it.items.length ≤ sizeLine)
    (hstep : ∀ i x acc st, it.items[i]? = some x → Inv i acc st → Ok (g x ds st) fun ds1 st => wE tt ds1 st fun k st => (k = true → wE te ds1 st fun y st => Inv (i + 1) (acc ++ [y]) st) ∧ (k = false → Inv (i + 1) acc st))
    (hend : ∀ acc st, Inv it.items.length acc st → Q acc st) :
    ∀ (k i : Nat) (acc : List D) (st : Store), it.items.length - i = k → i ≤ it.items.length → Inv i acc st → Ok (lcL it g tt te ds (it.items.drop i) acc st) Q := by
  intro k
  induction k with
  | zero =>
    intro i acc st hk hi h
    have : i = it.items.length := by omega
    subst this
    rw [List.drop_length, lcL, if_pos (hok _ _ _ h).1]
    exact hend acc st h
  | succ k ih =>
    intro i acc st hk hi h
    have hlt : i < it.items.length := by omega
    rw [List.drop_eq_getElem_cons hlt, lcL, if_pos (hok _ _ _ h).1]
    have h1 := hstep i _ acc st (List.getElem?_eq_getElem hlt) h
    have hal := (hok _ _ _ h).2
    cases e : g it.items[i] ds st with
    | exc _ _ _ => rw [e] at h1; exact h1.elim
    | stuck => rw [e] at h1; exact h1.elim
    | ok ds1 st1 =>
      rw [e] at h1
      simp only [Ok_ok] at h1
      simp only
      unfold wE at h1
      cases e2 : tt ds1 st1 with
      | exc _ _ _ => rw [e2] at h1; exact h1.elim
      | stuck => rw [e2] at h1; exact h1.elim
      | ok c st2 =>
        rw [e2] at h1
        simp only [Ok_ok] at h1
        cases c with
        | false => exact ih (i + 1) acc st2 (by omega) hlt (h1.2 rfl)
        | true =>
          have h2 := h1.1 rfl
          simp only
          cases e3 : te ds1 st2 with
          | exc _ _ _ => rw [e3] at h2; exact h2.elim
          | stuck => rw [e3] at h2; exact h2.elim
          | ok y st3 =>
            rw [e3] at h2
            simp only
            rw [if_pos (by omega)]
            exact ih (i + 1) (acc ++ [y]) st3 (by omega) hlt h2
theorem wE_lc {mi : M ItD} {g : D → M DSt} {tt : M Bool} {te : M D} {vs : List Nat} {Q : D → Store → Prop} (h : wE mi ds st fun it st => ∃ Inv : Nat → List D → Store → Prop, it.items.length ≤ sizeLine ∧ Inv 0 [] st ∧ (∀ i acc st, Inv i acc st → it.ok st ∧ acc.length ≤ i) ∧
    (∀ i x acc st, it.items[i]? = some x → Inv i acc st → Ok (g x (wipeD ds vs) st) fun ds1 st => wE tt ds1 st fun k st => (k = true → wE te ds1 st fun y st => Inv (i + 1) (acc ++ [y]) st) ∧ (k = false → Inv (i + 1) acc st)) ∧
    ∀ acc st, Inv it.items.length acc st → Q (.loc st.length) (st ++ [.lst acc])) : wE (mLc mi g tt te vs) ds st Q := by
  obtain ⟨it, st1, e, Inv, hz, h0, hok, hstep, hend⟩ := Ok.ex h
  unfold wE mLc
  rw [e]
  simp only [R.bind_ok]
  rw [Ok_bind]
  exact lc_go Inv hok hz hstep (fun acc st h => hend acc st h) _ 0 [] st1 rfl (Nat.zero_le _) h0
theorem wE_tyes {Q : Bool → Store → Prop} : wE tYes' ds st Q = Q true st := rfl
theorem wE_it {m : M D} {Q : ItD → Store → Prop} : wE (mIt m) ds st Q = wE m ds st fun d st => Ok (iterOf d st) Q := Ok_bind _ _
end
end Mp
end
section
set_option Elab.async false
set_option linter.all false
set_option maxRecDepth 100000
/-! Pen: the draws that the laws share. Printed by gen.py. -/
namespace Pen
open PySem PySem.Spec PyProof.Rows L2 Mp
/-! ### _law_open: 0=_law_script 1=_law_cells 2=_law_k 3=_law_cell -/
noncomputable def b__law_open : MS :=
 (sSeq (sAsg (mCall listD (mCons (mSl (mVar 0) pN (pS (mC (.int 12)))) mNil)) (gNm 1))
 (sSeq (sFor (mEnum (mSl (mVar 0) (pS (mC (.int 12))) (pS (mC (.int 63))))) (gTp 2 (gCons' (gNm 2) (gCons' (gNm 3) gNil')))
 (sAsg (m2 addD (m2 ixD (mVar 1) (m2 modD (mVar 2) (mC (.int 12)))) (mVar 3)) (gSb (mVar 1) (m2 modD (mVar 2) (mC (.int 12))))))
 (sRet (mLst (mCons (mVar 1) (mCons (mC (.int 0)) (mCons (mC (.int 0)) mNil)))))))
noncomputable def F__law_open : List D → Store → R D := fnD 4 1 b__law_open
/-! ### _law_spread: 0=_law_cell 1=_law_at 2=_law_primes 3=_law_one 4=_law_two 5=_law_three -/
noncomputable def b__law_spread : MS :=
 (sSeq (sIf (tB1 (m2 geD (mVar 0) (m2 powD (mC (.int 10)) (mC (.int 18)))))
 (sRet (mVar 0))
 sSkip)
 (sSeq (sAsg (mLst (mCons (mC (.int 2147483629)) (mCons (mC (.int 2147483587)) (mCons (mC (.int 2147483579)) (mCons (mC (.int 2147483563)) (mCons (mC (.int 2147483549)) (mCons (mC (.int 2147483543)) (mCons (mC (.int 2147483497)) (mCons (mC (.int 2147483489)) mNil))))))))) (gNm 2))
 (sSeq (sAsg (m2 addD (mVar 2) (mLst (mCons (mC (.int 2147483477)) (mCons (mC (.int 2147483423)) (mCons (mC (.int 2147483399)) (mCons (mC (.int 2147483353)) (mCons (mC (.int 2147483323)) mNil))))))) (gNm 2))
 (sSeq (sAsg (m2 modD (m2 powD (m2 addD (m2 addD (m2 mulD (m2 modD (mVar 0) (mC (.int 1000000007))) (m2 addD (m2 mulD (mC (.int 2)) (mVar 1)) (mC (.int 69069)))) (m2 mulD (mVar 1) (mC (.int 40503)))) (mC (.int 977))) (mC (.int 3))) (m2 ixD (mVar 2) (m2 modD (mVar 1) (mC (.int 13))))) (gNm 3))
 (sSeq (sAsg (m2 modD (m2 powD (m2 addD (m2 addD (m2 mulD (mVar 3) (m2 addD (mVar 1) (mC (.int 3)))) (m2 modD (mVar 0) (mC (.int 65537)))) (mC (.int 5))) (mC (.int 5))) (m2 ixD (mVar 2) (m2 modD (m2 addD (mVar 1) (mC (.int 5))) (mC (.int 13))))) (gNm 4))
 (sSeq (sAsg (m2 modD (m2 powD (m2 addD (m2 addD (mVar 4) (m2 modD (mVar 3) (mC (.int 1009)))) (mVar 1)) (mC (.int 3))) (m2 ixD (mVar 2) (m2 modD (m2 addD (mVar 1) (mC (.int 7))) (mC (.int 13))))) (gNm 5))
 (sRet (m2 addD (m2 mulD (m2 addD (m2 mulD (mVar 3) (mC (.int 2147483647))) (mVar 4)) (mC (.int 2147483647))) (mVar 5)))))))))
noncomputable def F__law_spread : List D → Store → R D := fnD 6 2 b__law_spread
/-! ### _law_take: 0=_law_pen 1=_law_amount 2=_law_at 3=_law_cell 4=_law_found -/
noncomputable def b__law_take : MS :=
 (sSeq (sIf (tB1 (m2 ltD (m2 ixD (mVar 0) (mC (.int 2))) (mVar 1)))
 (sSeq (sAsg (m2 ixD (mVar 0) (mC (.int 1))) (gNm 2))
 (sSeq (sAsg (mC (.int 0)) (gNm 3))
 (sSeq (sIf (tB1 (m2 ltD (mVar 2) (mCall lenD (mCons (m2 ixD (mVar 0) (mC (.int 0))) mNil))))
 (sAsg (m2 ixD (m2 ixD (mVar 0) (mC (.int 0))) (mVar 2)) (gNm 3))
 (sIf (tB1 (m2 gtD (mCall lenD (mCons (m2 ixD (mVar 0) (mC (.int 0))) mNil)) (mC (.int 0))))
 (sAsg (m2 modD (m2 ixD (m2 ixD (mVar 0) (mC (.int 0))) (m2 modD (m2 addD (m2 mulD (mVar 2) (mC (.int 5))) (mC (.int 3))) (mCall lenD (mCons (m2 ixD (mVar 0) (mC (.int 0))) mNil)))) (m2 addD (m2 powD (mC (.int 10)) (mC (.int 17))) (mVar 2))) (gNm 3))
 sSkip))
 (sSeq (sAsg (m2 addD (mVar 2) (mC (.int 1))) (gSb (mVar 0) (mC (.int 1))))
 (sAsg (mCall (callN 2 F__law_spread) (mCons (mVar 3) (mCons (mVar 2) mNil))) (gSb (mVar 0) (mC (.int 2))))))))
 sSkip)
 (sSeq (sAsg (m2 modD (m2 ixD (mVar 0) (mC (.int 2))) (mVar 1)) (gNm 4))
 (sSeq (sAsg (m2 fdivD (m2 ixD (mVar 0) (mC (.int 2))) (mVar 1)) (gSb (mVar 0) (mC (.int 2))))
 (sRet (mVar 4)))))
noncomputable def F__law_take : List D → Store → R D := fnD 5 2 b__law_take
end Pen
end
section
set_option Elab.async false
set_option linter.all false
set_option maxRecDepth 100000
set_option maxHeartbeats 2000000
/-! Pen: what the draws answer. -/
namespace Mp
open PySem PySem.Spec PyProof.Rows L2
/-- the store kept but at ms -/
structure Keep (ms : List Nat) (st st' : Store) : Prop where
  len : st.length ≤ st'.length
  at_ : ∀ m, m < st.length → m ∉ ms → st'[m]? = st[m]?
theorem Keep.refl {ms : List Nat} {st : Store} : Keep ms st st := ⟨Nat.le_refl _, fun _ _ _ => rfl⟩
theorem Keep.trans {ms : List Nat} {a b c : Store} (x : Keep ms a b) (y : Keep ms b c) : Keep ms a c :=
  ⟨Nat.le_trans x.len y.len, fun m h n => (y.at_ m (Nat.lt_of_lt_of_le h x.len) n).trans (x.at_ m h n)⟩
theorem Keep.mono {ms ns : List Nat} {a b : Store} (x : Keep ms a b) (h : ∀ m ∈ ms, m ∈ ns) : Keep ns a b := ⟨x.len, fun m l n => x.at_ m l fun q => n (h m q)⟩
theorem Keep.snoc {ms : List Nat} {st : Store} {o : MO} : Keep ms st (st ++ [o]) := ⟨by simp, fun m h _ => List.getElem?_append_left h⟩
theorem Keep.app {ms : List Nat} {st t : Store} : Keep ms st (st ++ t) := ⟨by simp, fun m h _ => List.getElem?_append_left h⟩
theorem Keep.set {ms : List Nat} {st : Store} {n : Nat} {o : MO} (h : n ∈ ms) : Keep ms st (st.set n o) := ⟨by simp, fun m _ q => List.getElem?_set_ne fun e => q (by rw [← e]; exact h)⟩
theorem Keep.get {ms : List Nat} {a b : Store} (x : Keep ms a b) {m : Nat} {o : MO} (h : a[m]? = some o) (n : m ∉ ms) : b[m]? = some o := by
  rw [x.at_ m (List.getElem?_eq_some_iff.mp h).1 n]; exact h
theorem snoc_at {st : Store} {o : MO} : (st ++ [o])[st.length]? = some o := by simp
end Mp
namespace Pen
open PySem PySem.Spec PyProof.Rows L2 Mp
theorem log2_le {n : Nat} (h : n < 1606938044258990275541962092341162602522202993782792835301376) : n.log2 < 200 := by
  by_cases h0 : n = 0
  · subst h0; decide
  · exact (Nat.log2_lt h0).mpr h
theorem mul_ok {i j : Int} (hi : i.natAbs < 1606938044258990275541962092341162602522202993782792835301376) (hj : j.natAbs < 1606938044258990275541962092341162602522202993782792835301376) : i.natAbs.log2 + j.natAbs.log2 < 1000000 := by
  have := log2_le hi
  have := log2_le hj
  omega
theorem add_int {i j : Int} {st : Store} {Q : D → Store → Prop} : Ok (addD (.int i) (.int j) st) Q = Q (.int (i + j)) st := rfl
theorem sub_int {i j : Int} {st : Store} {Q : D → Store → Prop} : Ok (subD (.int i) (.int j) st) Q = Q (.int (i - j)) st := rfl
theorem mul_int {i j : Int} {st : Store} {Q : D → Store → Prop} (h : i.natAbs.log2 + j.natAbs.log2 < 1000000) : Ok (mulD (.int i) (.int j) st) Q = Q (.int (i * j)) st := by
  unfold mulD; simp only; rw [if_pos h]; rfl
theorem mod_int {i j : Int} {st : Store} {Q : D → Store → Prop} (h : 0 < j) : Ok (modD (.int i) (.int j) st) Q = Q (.int (i % j)) st := by
  unfold modD; simp only; rw [if_pos h]; rfl
theorem fdiv_int {i j : Int} {st : Store} {Q : D → Store → Prop} (h : 0 < j ∧ j.natAbs.log2 < 9000) : Ok (fdivD (.int i) (.int j) st) Q = Q (.int (i / j)) st := by
  unfold fdivD; simp only; rw [if_pos h]; rfl
theorem pow_int {i j : Int} {st : Store} {Q : D → Store → Prop} (h : 0 ≤ j ∧ j ≤ 1000000 ∧ i.natAbs < 2 ^ 64) : Ok (powD (.int i) (.int j) st) Q = Q (.int (i ^ j.toNat)) st := by
  unfold powD; simp only; rw [if_pos h]; rfl
theorem lt_int {i j : Int} {st : Store} {Q : D → Store → Prop} : Ok (ltD (.int i) (.int j) st) Q = Q (.bl (decide (i < j))) st := rfl
theorem le_int {i j : Int} {st : Store} {Q : D → Store → Prop} : Ok (leD (.int i) (.int j) st) Q = Q (.bl (decide (i ≤ j))) st := rfl
theorem gt_int {i j : Int} {st : Store} {Q : D → Store → Prop} : Ok (gtD (.int i) (.int j) st) Q = Q (.bl (decide (j < i))) st := rfl
theorem ge_int {i j : Int} {st : Store} {Q : D → Store → Prop} : Ok (geD (.int i) (.int j) st) Q = Q (.bl (decide (j ≤ i))) st := rfl
/-- x[i] of a list -/
theorem ix_lst {n : Nat} {i : Int} {st : Store} {xs : List D} {d : D} {Q : D → Store → Prop} (h : st[n]? = some (.lst xs)) (e : atI xs i = some d) : Ok (ixD (.loc n) (.int i) st) Q = Q d st := by
  unfold ixD
  simp only [h, e]
  rfl


section
variable {i j : Int} {st : Store} {Q : D → Store → Prop}
theorem mod_b (h : 0 < j) (q : ∀ r : Int, 0 ≤ r → r < j → Q (.int r) st) : Ok (modD (.int i) (.int j) st) Q := by
  rw [mod_int h]
  exact q _ (Int.emod_nonneg _ (by omega)) (Int.emod_lt_of_pos _ h)
theorem mul_b {A B : Int} (i0 : 0 ≤ i) (iA : i ≤ A) (j0 : 0 ≤ j) (jB : j ≤ B) (hA : A < 1606938044258990275541962092341162602522202993782792835301376) (hB : B < 1606938044258990275541962092341162602522202993782792835301376) (q : ∀ r : Int, 0 ≤ r → r ≤ A * B → Q (.int r) st) : Ok (mulD (.int i) (.int j) st) Q := by
  have h1 : i.natAbs < 1606938044258990275541962092341162602522202993782792835301376 := by omega
  have h2 : j.natAbs < 1606938044258990275541962092341162602522202993782792835301376 := by omega
  rw [mul_int (mul_ok h1 h2)]
  exact q _ (Int.mul_nonneg i0 j0) (Int.mul_le_mul iA jB j0 (by omega))
theorem pow_b (h : 0 ≤ j ∧ j ≤ 1000000) (i0 : 0 ≤ i) (i1 : i < 18446744073709551616) (q : ∀ r : Int, Q (.int r) st) : Ok (powD (.int i) (.int j) st) Q := by
  rw [pow_int ⟨h.1, h.2, by show i.natAbs < 18446744073709551616; omega⟩]
  exact q _
theorem ix_b {n : Nat} {xs : List D} (h : st[n]? = some (.lst xs)) (i0 : 0 ≤ i) (i1 : i < xs.length) (q : ∀ d, xs[i.toNat]? = some d → Q d st) : Ok (ixD (.loc n) (.int i) st) Q := by
  have hl : i.toNat < xs.length := by omega
  have e : atI xs i = some xs[i.toNat] := by
    unfold atI ixN
    rw [if_pos i0, if_pos i1]
    exact List.getElem?_eq_getElem hl
  rw [ix_lst h e]
  exact q _ (List.getElem?_eq_getElem hl)
end
end Pen
end
section
set_option Elab.async false
set_option linter.all false
set_option maxRecDepth 100000
set_option maxHeartbeats 400000
/-! Pen: spread. -/
namespace Pen
open PySem PySem.Spec PyProof.Rows L2 Mp
theorem add_two {st : Store} {xs ys : List D} {Q : D → Store → Prop} (hz : xs.length + ys.length ≤ sizeLine) (q : ∀ n st', st'[n]? = some (.lst (xs ++ ys)) → Keep [] st st' → Q (.loc n) st') :
    Ok (addD (.loc st.length) (.loc (st ++ [MO.lst xs]).length) (st ++ [MO.lst xs] ++ [MO.lst ys])) Q := by
  have e1 : (st ++ [MO.lst xs] ++ [MO.lst ys])[st.length]? = some (.lst xs) := by
    rw [List.getElem?_append_left (by simp)]
    exact snoc_at
  have e2 : (st ++ [MO.lst xs] ++ [MO.lst ys])[(st ++ [MO.lst xs]).length]? = some (.lst ys) := snoc_at
  unfold addD
  simp only [e1, e2]
  rw [if_pos hz]
  exact q _ _ snoc_at (Keep.trans Keep.snoc (Keep.trans Keep.snoc Keep.snoc))
theorem ite_k {k : Bool} {P Q : Prop} (h1 : k = true → P) (h2 : k = false → Q) : (k = true → P) ∧ (k = false → Q) := ⟨h1, h2⟩
theorem prime_of {d : D} {i : Nat} (h : ([D.int 2147483629, D.int 2147483587, D.int 2147483579, D.int 2147483563, D.int 2147483549, D.int 2147483543, D.int 2147483497, D.int 2147483489] ++ [D.int 2147483477, D.int 2147483423, D.int 2147483399, D.int 2147483353, D.int 2147483323])[i]? = some d) : ∃ p : Int, d = .int p ∧ 0 < p ∧ p < 2147483648 := by
  have m := List.mem_of_getElem? h
  simp only [List.cons_append, List.nil_append, List.mem_cons, List.not_mem_nil, or_false] at m
  rcases m with h | h | h | h | h | h | h | h | h | h | h | h | h <;> subst h <;> exact ⟨_, rfl, by omega, by omega⟩
theorem spread_ok (c : Int) (t : Int) (h0 : 0 ≤ t) (h1 : t < 2 ^ 20) (st : Store) : Ok (F__law_spread [.int c, .int t] st) fun d st' => ∃ r, d = .int r ∧ Keep [] st st' := by
  unfold F__law_spread
  rw [Ok_fn]
  refine ⟨rfl, ?_⟩
  unfold b__law_spread
  simp only [wS_seq, wS_if, wS_asg, wS_ret, wS_expr, wS_skip, wS_par, wS_retN, wS_brk, wS_cnt, wE_C, wE_v, slot_zero, slot_succ, wE_1, wE_2, wE_nil, wE_cons, wE_tup, wE_lst, wE_call, Ok_callN, wE_if, wE_tval, wE_tb1, wE_tand, wE_tor, wE_tnot, wE_and, wE_or, wE_not, wE_chain, wE_bm, wE_repr, wE_sl, wE_pN, wE_tyes, wE_it, wE_dict0, Ok_gNm, Ok_gTp, Ok_gNil, Ok_gCons, Ok_gSb, Ok_ok, isB_bl, truth_bl, List.set_cons_zero, List.set_cons_succ, List.map_cons, List.map_nil, List.cons_append, List.nil_append, List.replicate_succ, List.replicate_zero, List.length_cons, List.length_nil]
  rw [pow_int ⟨by omega, by omega, by show (10 : Nat) < 18446744073709551616; omega⟩]
  rw [ge_int]
  simp only [isB_bl, Ok_ok]
  refine ite_k (fun _ => ⟨c, rfl, .refl⟩) fun _ => ?_
  refine ⟨?_, ?_, ?_⟩
  · rw [sizeLine_eq]; omega
  · rw [sizeLine_eq]; omega
  refine add_two (by rw [sizeLine_eq]; simp) fun n st2 e3 k2 => ?_
  have hl : ([D.int 2147483629, D.int 2147483587, D.int 2147483579, D.int 2147483563, D.int 2147483549, D.int 2147483543, D.int 2147483497, D.int 2147483489] ++ [D.int 2147483477, D.int 2147483423, D.int 2147483399, D.int 2147483353, D.int 2147483323]).length = 13 := rfl
  have hp := fun i d => @prime_of d i
  revert e3 hl hp
  generalize ([D.int 2147483629, D.int 2147483587, D.int 2147483579, D.int 2147483563, D.int 2147483549, D.int 2147483543, D.int 2147483497, D.int 2147483489] ++ [D.int 2147483477, D.int 2147483423, D.int 2147483399, D.int 2147483353, D.int 2147483323]) = ps
  intro e3 hl hp
  refine mod_b (by omega) fun r1 a1 b1 => ?_
  refine mul_b (A := 2) (B := 1048576) (by omega) (by omega) h0 (by omega) (by omega) (by omega) fun r2 a2 b2 => ?_
  rw [add_int]
  refine mul_b (A := 1000000007) (B := 2200000) (by omega) (by omega) (by omega) (by omega) (by omega) (by omega) fun r3 a3 b3 => ?_
  refine mul_b (A := 1048576) (B := 40503) h0 (by omega) (by omega) (by omega) (by omega) (by omega) fun r4 a4 b4 => ?_
  rw [add_int, add_int]
  refine pow_b ⟨by omega, by omega⟩ (by omega) (by omega) fun r5 => ?_
  refine mod_b (by omega) fun r6 a6 b6 => ?_
  refine ix_b e3 a6 (by rw [hl]; omega) fun d1 q1 => ?_
  obtain ⟨p1, rfl, u1, v1⟩ := hp _ _ q1
  refine mod_b u1 fun one a7 b7 => ?_
  rw [add_int]
  refine mul_b (A := 2147483648) (B := 1048580) (by omega) (by omega) (by omega) (by omega) (by omega) (by omega) fun r8 a8 b8 => ?_
  refine mod_b (by omega) fun r9 a9 b9 => ?_
  rw [add_int, add_int]
  refine pow_b ⟨by omega, by omega⟩ (by omega) (by omega) fun r10 => ?_
  rw [add_int]
  refine mod_b (by omega) fun r11 a11 b11 => ?_
  refine ix_b e3 a11 (by rw [hl]; omega) fun d2 q2 => ?_
  obtain ⟨p2, rfl, u2, v2⟩ := hp _ _ q2
  refine mod_b u2 fun two a12 b12 => ?_
  refine mod_b (by omega) fun r13 a13 b13 => ?_
  rw [add_int, add_int]
  refine pow_b ⟨by omega, by omega⟩ (by omega) (by omega) fun r14 => ?_
  rw [add_int]
  refine mod_b (by omega) fun r15 a15 b15 => ?_
  refine ix_b e3 a15 (by rw [hl]; omega) fun d3 q3 => ?_
  obtain ⟨p3, rfl, u3, v3⟩ := hp _ _ q3
  refine mod_b u3 fun three a16 b16 => ?_
  refine mul_b (A := 2147483648) (B := 2147483647) (by omega) (by omega) (by omega) (by omega) (by omega) (by omega) fun r17 a17 b17 => ?_
  rw [add_int]
  refine mul_b (A := 9223372036854775808) (B := 2147483647) (by omega) (by omega) (by omega) (by omega) (by omega) (by omega) fun r18 a18 b18 => ?_
  rw [add_int]
  exact ⟨_, rfl, k2⟩
end Pen
end
section
set_option Elab.async false
set_option linter.all false
set_option maxRecDepth 100000
set_option maxHeartbeats 400000
/-! Pen: take. -/
namespace Pen
open PySem PySem.Spec PyProof.Rows L2 Mp
/-- the pen at its place: at most B cells were read -/
def PenAt (st : Store) (pen : Nat) (B : Int) : Prop := ∃ (c : Nat) (cells : List Int) (t bits : Int), st[pen]? = some (.lst [.loc c, .int t, .int bits]) ∧ st[c]? = some (.lst (cells.map .int)) ∧ c < pen ∧ 0 ≤ t ∧ t ≤ B
theorem PenAt.mono {st : Store} {pen : Nat} {B B' : Int} (h : PenAt st pen B) (l : B ≤ B') : PenAt st pen B' := by
  obtain ⟨c, cells, t, bits, h1, h2, h3, h4, h5⟩ := h
  exact ⟨c, cells, t, bits, h1, h2, h3, h4, Int.le_trans h5 l⟩
theorem PenAt.set {st : Store} {pen L : Nat} {o : MO} {B : Int} (h : PenAt st pen B) (l : pen < L) : PenAt (st.set L o) pen B := by
  obtain ⟨c, cells, t, bits, h1, h2, h3, h4, h5⟩ := h
  exact ⟨c, cells, t, bits, by rw [List.getElem?_set_ne (by omega)]; exact h1, by rw [List.getElem?_set_ne (by omega)]; exact h2, h3, h4, h5⟩
theorem PenAt.lt {st : Store} {pen : Nat} {B : Int} (h : PenAt st pen B) : pen < st.length := by
  obtain ⟨_, _, _, _, h, _⟩ := h
  exact (List.getElem?_eq_some_iff.mp h).1
theorem PenAt.keep {st st' : Store} {pen : Nat} {B : Int} (h : PenAt st pen B) (k : Keep [] st st') : PenAt st' pen B := by
  obtain ⟨c, cells, t, bits, h1, h2, h3, h4, h5⟩ := h
  exact ⟨c, cells, t, bits, k.get h1 (by simp), k.get h2 (by simp), h3, h4, h5⟩
section
variable {st : Store} {n : Nat} {Q : D → Store → Prop}
theorem ix0 {xs : List D} {d : D} (h : st[n]? = some (.lst (d :: xs))) : Ok (ixD (.loc n) (.int 0) st) Q = Q d st := ix_lst h (by
  unfold atI ixN
  simp)
theorem ix1 {xs : List D} {d e : D} (h : st[n]? = some (.lst (e :: d :: xs))) : Ok (ixD (.loc n) (.int 1) st) Q = Q d st := ix_lst h (by
  unfold atI ixN
  rw [if_pos (by omega), if_pos (by simp; omega)]; rfl)
theorem ix2 {xs : List D} {d e f : D} (h : st[n]? = some (.lst (e :: f :: d :: xs))) : Ok (ixD (.loc n) (.int 2) st) Q = Q d st := ix_lst h (by
  unfold atI ixN
  rw [if_pos (by omega), if_pos (by simp; omega)]; rfl)
theorem len_lst {xs : List D} (h : st[n]? = some (.lst xs)) : Ok (lenD [.loc n] st) Q = Q (.int xs.length) st := by
  unfold lenD
  simp only [h]
  rfl
theorem set1 {xs : List D} {d e v : D} {Q : Unit → Store → Prop} (h : st[n]? = some (.lst (e :: d :: xs))) : Ok (setD (.loc n) (.int 1) v st) Q = Q () (st.set n (.lst (e :: v :: xs))) := by
  have : ixN (xs.length + 1 + 1) 1 = some 1 := by
    unfold ixN
    rw [if_pos (by omega), if_pos (by simp; omega)]; rfl
  unfold setD
  simp only [h, List.length_cons, this, List.set_cons_succ, List.set_cons_zero]
  rfl
theorem set2 {xs : List D} {d e f v : D} {Q : Unit → Store → Prop} (h : st[n]? = some (.lst (e :: f :: d :: xs))) : Ok (setD (.loc n) (.int 2) v st) Q = Q () (st.set n (.lst (e :: f :: v :: xs))) := by
  have : ixN (xs.length + 1 + 1 + 1) 2 = some 2 := by
    unfold ixN
    rw [if_pos (by omega), if_pos (by simp; omega)]; rfl
  unfold setD
  simp only [h, List.length_cons, this, List.set_cons_succ, List.set_cons_zero]
  rfl
end
theorem set_at {st : Store} {n : Nat} {o o' : MO} (h : st[n]? = some o) : (st.set n o')[n]? = some o' := List.getElem?_set_self (List.getElem?_eq_some_iff.mp h).1
theorem set_other {st : Store} {n m : Nat} {o o' : MO} (h : st[m]? = some o) (hne : m ≠ n) : (st.set n o')[m]? = some o := by rw [List.getElem?_set_ne hne.symm]; exact h
theorem take_fin {st0 st : Store} {pen c : Nat} {cells : List Int} {t bits B a : Int} (e1 : st[pen]? = some (.lst [.loc c, .int t, .int bits])) (e2 : st[c]? = some (.lst (cells.map .int))) (nl : c < pen) (t0 : 0 ≤ t) (tB : t ≤ B) (k : Keep [pen] st0 st) (ha : 0 < a) (ha2 : a < 1099511627776) :
    Ok (ixD (.loc pen) (.int 2) st) fun x st => Ok (modD x (.int a) st) fun d st => Ok (ixD (.loc pen) (.int 2) st) fun x st => Ok (fdivD x (.int a) st) fun d1 st => Ok (setD (.loc pen) (.int 2) d1 st) fun _ st' => ∃ i, d = .int i ∧ 0 ≤ i ∧ i < a ∧ Keep [pen] st0 st' ∧ PenAt st' pen B := by
  have ne : c ≠ pen := Nat.ne_of_lt nl
  rw [ix2 e1]
  refine mod_b ha fun i a0 a1 => ?_
  rw [ix2 e1, fdiv_int ⟨ha, Nat.lt_trans (log2_le (by omega)) (by omega)⟩, set2 e1]
  exact ⟨i, rfl, a0, a1, k.trans (Keep.set (by simp)), c, cells, t, _, set_at e1, set_other e2 ne, nl, t0, tB⟩
theorem take_mid {st : Store} {pen c : Nat} {cells : List Int} {t bits B a z : Int} (e1 : st[pen]? = some (.lst [.loc c, .int t, .int bits])) (e2 : st[c]? = some (.lst (cells.map .int))) (nl : c < pen) (t0 : 0 ≤ t) (tB : t ≤ B) (hB : B < 1048576) (ha : 0 < a) (ha2 : a < 1099511627776) {st0 : Store} (k : Keep [pen] st0 st) :
    Ok (addD (.int t) (.int 1) st) fun d st => Ok (setD (.loc pen) (.int 1) d st) fun _ st => True ∧ Ok (F__law_spread [.int z, .int t] st) fun d st => Ok (setD (.loc pen) (.int 2) d st) fun _ st =>
      Ok (ixD (.loc pen) (.int 2) st) fun x st => Ok (modD x (.int a) st) fun d st => Ok (ixD (.loc pen) (.int 2) st) fun x st => Ok (fdivD x (.int a) st) fun d1 st => Ok (setD (.loc pen) (.int 2) d1 st) fun _ st' => ∃ i, d = .int i ∧ 0 ≤ i ∧ i < a ∧ Keep [pen] st0 st' ∧ PenAt st' pen (B + 1) := by
  have ne : c ≠ pen := Nat.ne_of_lt nl
  rw [add_int, set1 e1]
  refine ⟨trivial, ?_⟩
  have f1 := set_at (o' := MO.lst [.loc c, .int (t + 1), .int bits]) e1
  have f2 := set_other (o' := MO.lst [.loc c, .int (t + 1), .int bits]) e2 ne
  have k1 : Keep [pen] st0 (st.set pen (.lst [.loc c, .int (t + 1), .int bits])) := k.trans (Keep.set (by simp))
  generalize st.set pen (.lst [.loc c, .int (t + 1), .int bits]) = st1 at f1 f2 k1 ⊢
  refine (spread_ok z t t0 (by omega) st1).mono ?_
  rintro d st2 ⟨r, rfl, k2⟩
  have g1 := k2.get f1 (by simp)
  have g2 := k2.get f2 (by simp)
  rw [set2 g1]
  exact take_fin (set_at g1) (set_other g2 ne) nl (by omega) (by omega) ((k1.trans (k2.mono (by simp))).trans (Keep.set (by simp))) ha ha2
theorem int_of {cells : List Int} {i : Nat} {d : D} (h : (cells.map D.int)[i]? = some d) : ∃ z, d = .int z := by
  rw [List.getElem?_map] at h
  obtain ⟨z, _, rfl⟩ := Option.map_eq_some_iff.mp h
  exact ⟨z, rfl⟩
theorem take_ok {st : Store} {pen : Nat} {B : Int} (hP : PenAt st pen B) (hB : B < 1048576) (a : Int) (ha : 0 < a) (ha2 : a < 1099511627776) :
    Ok (F__law_take [.loc pen, .int a] st) fun d st' => ∃ i, d = .int i ∧ 0 ≤ i ∧ i < a ∧ Keep [pen] st st' ∧ PenAt st' pen (B + 1) := by
  obtain ⟨c, cells, t, bits, e1, e2, ne, t0, tB⟩ := hP
  unfold F__law_take
  rw [Ok_fn]
  refine ⟨rfl, ?_⟩
  unfold b__law_take
  simp only [wS_seq, wS_if, wS_asg, wS_ret, wS_expr, wS_skip, wS_par, wS_retN, wS_brk, wS_cnt, wE_C, wE_v, slot_zero, slot_succ, wE_1, wE_2, wE_nil, wE_cons, wE_tup, wE_lst, wE_call, Ok_callN, wE_if, wE_tval, wE_tb1, wE_tand, wE_tor, wE_tnot, wE_and, wE_or, wE_not, wE_chain, wE_bm, wE_repr, wE_sl, wE_pN, wE_tyes, wE_it, wE_dict0, Ok_gNm, Ok_gTp, Ok_gNil, Ok_gCons, Ok_gSb, Ok_ok, isB_bl, truth_bl, List.set_cons_zero, List.set_cons_succ, List.map_cons, List.map_nil, List.cons_append, List.nil_append, List.replicate_succ, List.replicate_zero, List.length_cons, List.length_nil]
  rw [ix2 e1, lt_int]
  simp only [isB_bl, Ok_ok]
  refine ite_k (fun _ => ?_) fun _ => ?_
  · rw [ix1 e1, ix0 e1, len_lst e2, lt_int]
    simp only [isB_bl, Ok_ok]
    refine ite_k (fun h => ?_) fun h => ?_
    · have h := of_decide_eq_true h
      rw [ix0 e1]
      refine ix_b e2 t0 h fun d hd => ?_
      obtain ⟨z, rfl⟩ := int_of hd
      exact take_mid e1 e2 ne t0 tB hB ha ha2 .refl
    · rw [ix0 e1, len_lst e2, gt_int]
      simp only [isB_bl, Ok_ok]
      refine ite_k (fun h2 => ?_) fun _ => ?_
      · have h2 := of_decide_eq_true h2
        rw [ix0 e1]
        refine mul_b (A := 1048576) (B := 5) t0 (by omega) (by omega) (by omega) (by omega) (by omega) fun r a0 a1 => ?_
        rw [add_int, ix0 e1, len_lst e2]
        refine mod_b h2 fun r2 c0 c1 => ?_
        refine ix_b e2 c0 c1 fun d hd => ?_
        obtain ⟨z, rfl⟩ := int_of hd
        rw [pow_int ⟨by omega, by omega, by show (10 : Nat) < 18446744073709551616; omega⟩, add_int]
        refine mod_b (by have : (0 : Int) ≤ 10 ^ (Int.toNat 17) := Int.pow_nonneg (by omega); have e : (10 : Int) ^ (Int.toNat 17) = 100000000000000000 := by decide
                         omega) fun r3 _ _ => ?_
        exact take_mid e1 e2 ne t0 tB hB ha ha2 .refl
      · exact take_mid e1 e2 ne t0 tB hB ha ha2 .refl
  · exact take_fin e1 e2 ne t0 (by omega) .refl ha ha2
end Pen
end
section
set_option Elab.async false
set_option linter.all false
set_option maxRecDepth 100000
set_option maxHeartbeats 400000
/-! Pen: open. -/
namespace Pen
open PySem PySem.Spec PyProof.Rows L2 Mp
theorem wE_enum {m : M D} {ds : DSt} {st : Store} {Q : ItD → Store → Prop} : Mp.wE (mEnum m) ds st Q = Mp.wE m ds st fun d st => Ok (match d with
  | .kl xs => .ok ⟨enumItems 0 xs, []⟩ st
  | .loc n => match st[n]? with
    | some (.lst xs) => .ok ⟨enumItems 0 xs, [(n, xs)]⟩ st
    | _ => .stuck
  | _ => .stuck) Q := Ok_bind _ _
theorem wE_pS {a : M D} {ds : DSt} {st : Store} {Q : Option Int → Store → Prop} : Mp.wE (pS a) ds st Q = Mp.wE a ds st fun d st => Mp.intOf d fun i => Q (some i) st := by
  unfold Mp.wE pS
  rw [Ok_bind]
  congr 1; funext d st
  cases d <;> rfl
theorem intOf_int {i : Int} {k : Int → Prop} : Mp.intOf (.int i) k = k i := rfl
theorem cut_int (ns : List Int) (lo hi : Option Int) : Mp.cutD (ns.map D.int) lo hi = ((ns.drop (HT.sIx ns.length 0 lo)).take (HT.sIx ns.length ns.length hi - HT.sIx ns.length 0 lo)).map D.int := by
  unfold Mp.cutD
  rw [List.length_map, List.map_take, List.map_drop]
theorem set_b {st : Store} {n : Nat} {xs : List D} {i : Int} {v : D} {Q : Unit → Store → Prop} (h : st[n]? = some (.lst xs)) (i0 : 0 ≤ i) (i1 : i < xs.length) (q : Q () (st.set n (.lst (xs.set i.toNat v)))) : Ok (setD (.loc n) (.int i) v st) Q := by
  have e : ixN xs.length i = some i.toNat := by
    unfold ixN
    rw [if_pos i0, if_pos i1]
  unfold setD
  simp only [h, e]
  exact q
theorem open_ok (ns : List Int) : Ok (F__law_open [.kl (ns.map .int)] []) fun d st' => ∃ pen, d = .loc pen ∧ PenAt st' pen 0 := by
  unfold F__law_open
  rw [Ok_fn]
  refine ⟨rfl, ?_⟩
  unfold b__law_open
  simp only [wS_seq, wS_if, wS_asg, wS_ret, wS_expr, wS_skip, wS_par, wS_retN, wS_brk, wS_cnt, wE_C, wE_v, slot_zero, slot_succ, wE_1, wE_2, wE_nil, wE_cons, wE_tup, wE_lst, wE_call, Ok_callN, wE_if, wE_tval, wE_tb1, wE_tand, wE_tor, wE_tnot, wE_and, wE_or, wE_not, wE_chain, wE_bm, wE_repr, wE_sl, wE_pN, wE_tyes, wE_it, wE_dict0, Ok_gNm, Ok_gTp, Ok_gNil, Ok_gCons, Ok_gSb, Ok_ok, isB_bl, truth_bl, List.set_cons_zero, List.set_cons_succ, List.map_cons, List.map_nil, List.cons_append, List.nil_append, List.replicate_succ, List.replicate_zero, List.length_cons, List.length_nil, wE_pS, intOf_int]
  have s1 : ∀ (lo hi : Option Int) (st : Store) (Q : D → Store → Prop), Ok (slD (.kl (ns.map .int)) lo hi st) Q = Q (.loc st.length) (st ++ [.lst (((ns.drop (HT.sIx ns.length 0 lo)).take (HT.sIx ns.length ns.length hi - HT.sIx ns.length 0 lo)).map D.int)]) := fun lo hi st Q => by
    show Q (.loc st.length) (st ++ [.lst (Mp.cutD (ns.map .int) lo hi)]) = _
    rw [cut_int]
  rw [s1]
  have l1 : ∀ (xs : List D) (Q : D → Store → Prop), Ok (listD [.loc ([] : Store).length] ([] ++ [.lst xs])) Q = Q (.loc 1) [.lst xs, .lst xs] := fun xs Q => rfl
  rw [l1]
  refine wS_for ?_
  simp only [wS_seq, wS_if, wS_asg, wS_ret, wS_expr, wS_skip, wS_par, wS_retN, wS_brk, wS_cnt, wE_C, wE_v, slot_zero, slot_succ, wE_1, wE_2, wE_nil, wE_cons, wE_tup, wE_lst, wE_call, Ok_callN, wE_if, wE_tval, wE_tb1, wE_tand, wE_tor, wE_tnot, wE_and, wE_or, wE_not, wE_chain, wE_bm, wE_repr, wE_sl, wE_pN, wE_tyes, wE_it, wE_dict0, Ok_gNm, Ok_gTp, Ok_gNil, Ok_gCons, Ok_gSb, Ok_ok, isB_bl, truth_bl, List.set_cons_zero, List.set_cons_succ, List.map_cons, List.map_nil, List.cons_append, List.nil_append, List.replicate_succ, List.replicate_zero, List.length_cons, List.length_nil, wE_enum, wE_pS, intOf_int, s1]
  have hL : ((ns.drop (HT.sIx ns.length 0 (some 12))).take (HT.sIx ns.length ns.length (some 63) - HT.sIx ns.length 0 (some 12))) ≠ [] → ((ns.drop (HT.sIx ns.length 0 none)).take (HT.sIx ns.length ns.length (some 12) - HT.sIx ns.length 0 none)).length = 12 := by
    intro h
    have e1 : HT.sIx ns.length 0 (some 12) = min 12 ns.length := HT.sIx_nat _ _ 12
    have e2 : HT.sIx ns.length ns.length (some 12) = min 12 ns.length := HT.sIx_nat _ _ 12
    rw [HT.sIx_none, e2]
    rw [e1] at h
    have : 12 < ns.length := by
      apply Classical.byContradiction
      intro c
      apply h
      rw [List.drop_of_length_le (by omega), List.take_nil]
    simp
    omega
  generalize ((ns.drop (HT.sIx ns.length 0 (some 12))).take (HT.sIx ns.length ns.length (some 63) - HT.sIx ns.length 0 (some 12))) = sl at hL ⊢
  generalize ((ns.drop (HT.sIx ns.length 0 none)).take (HT.sIx ns.length ns.length (some 12) - HT.sIx ns.length 0 none)) = c0 at hL ⊢
  show Ok (R.ok (⟨enumItems 0 (sl.map D.int), [(2, sl.map D.int)]⟩ : ItD) _) _
  simp only [Ok_ok]
  refine ⟨fun i ds st => ∃ (cells : List Int) (o2 o3 : Option D), ds = [some (.kl (ns.map .int)), some (.loc 1), o2, o3] ∧ st = [.lst (c0.map D.int), .lst (cells.map D.int), .lst (sl.map D.int)] ∧ cells.length = c0.length, ⟨c0, none, none, rfl, rfl, rfl⟩, ?_, ?_, ?_⟩
  · rintro i ds st ⟨cells, o2, o3, rfl, rfl, hc⟩ p hp
    rw [List.mem_singleton.mp hp]
    rfl
  · rintro i x ds st hx ⟨cells, o2, o3, rfl, rfl, hc⟩
    rw [enumItems_get] at hx
    obtain ⟨y, hy, rfl⟩ := Option.map_eq_some_iff.mp hx
    obtain ⟨z, rfl⟩ := int_of hy
    have h12 : cells.length = 12 := by
      rw [hc]
      refine hL fun e => ?_
      rw [e] at hy
      simp at hy
    simp only [wS_seq, wS_if, wS_asg, wS_ret, wS_expr, wS_skip, wS_par, wS_retN, wS_brk, wS_cnt, wE_C, wE_v, slot_zero, slot_succ, wE_1, wE_2, wE_nil, wE_cons, wE_tup, wE_lst, wE_call, Ok_callN, wE_if, wE_tval, wE_tb1, wE_tand, wE_tor, wE_tnot, wE_and, wE_or, wE_not, wE_chain, wE_bm, wE_repr, wE_sl, wE_pN, wE_tyes, wE_it, wE_dict0, Ok_gNm, Ok_gTp, Ok_gNil, Ok_gCons, Ok_gSb, Ok_ok, isB_bl, truth_bl, List.set_cons_zero, List.set_cons_succ, List.map_cons, List.map_nil, List.cons_append, List.nil_append, List.replicate_succ, List.replicate_zero, List.length_cons, List.length_nil]
    refine ⟨trivial, ?_⟩
    rw [mod_int (by omega)]
    have m0 : 0 ≤ ((0 + i : Nat) : Int) % 12 := Int.emod_nonneg _ (by omega)
    have m1 : ((0 + i : Nat) : Int) % 12 < 12 := Int.emod_lt_of_pos _ (by omega)
    generalize ((0 + i : Nat) : Int) % 12 = k at m0 m1 ⊢
    refine ix_b (xs := cells.map D.int) (n := 1) rfl m0 (by rw [List.length_map, h12]; omega) fun d hd => ?_
    obtain ⟨w, rfl⟩ := int_of hd
    rw [add_int]
    refine mod_b (by omega) fun k2 n0 n1 => ?_
    refine set_b (xs := cells.map D.int) (n := 1) rfl n0 (by rw [List.length_map, h12]; omega) ?_
    exact ⟨cells.set k2.toNat (w + z), _, _, rfl, by rw [List.map_set]; rfl, by rw [List.length_set]; exact hc⟩
  · rintro ds st ⟨cells, o2, o3, rfl, rfl, hc⟩
    simp only [wS_seq, wS_if, wS_asg, wS_ret, wS_expr, wS_skip, wS_par, wS_retN, wS_brk, wS_cnt, wE_C, wE_v, slot_zero, slot_succ, wE_1, wE_2, wE_nil, wE_cons, wE_tup, wE_lst, wE_call, Ok_callN, wE_if, wE_tval, wE_tb1, wE_tand, wE_tor, wE_tnot, wE_and, wE_or, wE_not, wE_chain, wE_bm, wE_repr, wE_sl, wE_pN, wE_tyes, wE_it, wE_dict0, Ok_gNm, Ok_gTp, Ok_gNil, Ok_gCons, Ok_gSb, Ok_ok, isB_bl, truth_bl, List.set_cons_zero, List.set_cons_succ, List.map_cons, List.map_nil, List.cons_append, List.nil_append, List.replicate_succ, List.replicate_zero, List.length_cons, List.length_nil]
    refine ⟨by rw [sizeLine_eq]; omega, _, rfl, 1, cells, 0, 0, rfl, rfl, by simp, by omega, by omega⟩
end Pen
end
section
set_option Elab.async false
set_option linter.all false
set_option maxRecDepth 100000
/-! Pen: the draws of machines and texts. Printed by gen.py. -/
namespace Pen
open PySem PySem.Spec PyProof.Rows L2 Mp
/-! ### _law_draw_alphabet: 0=_law_pen 1=_law_size 2=_law_pool 3=_law_first 4=_law_stride 5=_law_k -/
noncomputable def b__law_draw_alphabet : MS :=
 (sSeq (sIf (tB1 (m2 eqD (mCall (callN 2 F__law_take) (mCons (mVar 0) (mCons (mC (.int 8)) mNil))) (mC (.int 0))))
 (sRet (m2 ixD (mLst (mCons (mC (.str "A")) (mCons (mC (.str "Aa")) (mCons (mC (.str "AZa")) mNil)))) (m2 subD (mVar 1) (mC (.int 1)))))
 sSkip)
 (sSeq (sAsg (mC (.str "!\"#$&'()*+,-./0123456789:;<=>?@ABCDEFGHIJKLMNOPQRSTUVWXYZ[\\]^_`abcdefghijklmnopqrstuvwxyz{|}~")) (gNm 2))
 (sSeq (sAsg (mTup (mCons (mCall (callN 2 F__law_take) (mCons (mVar 0) (mCons (mCall lenD (mCons (mVar 2) mNil)) mNil))) (mCons (m2 addD (mC (.int 1)) (m2 mulD (mC (.int 2)) (mCall (callN 2 F__law_take) (mCons (mVar 0) (mCons (mC (.int 9)) mNil))))) mNil))) (gTp 2 (gCons' (gNm 3) (gCons' (gNm 4) gNil'))))
 (sRet (mBM "str" joinD (mC (.str "")) (mCons (mSortSet (mLc (mRange1 (mVar 1)) (gNm 5) tYes' (m2 ixD (mVar 2) (m2 modD (m2 addD (mVar 3) (m2 mulD (mVar 4) (mVar 5))) (mCall lenD (mCons (mVar 2) mNil)))) [5])) mNil))))))
noncomputable def F__law_draw_alphabet : List D → Store → R D := fnD 6 2 b__law_draw_alphabet
/-! ### _law_draw_text: 0=_law_pen 1=_law_alphabet 2=_law_most 3=_law_k -/
noncomputable def b__law_draw_text : MS :=
 (sRet (mBM "str" joinD (mC (.str "")) (mCons (mLc (mRange1 (mCall (callN 2 F__law_take) (mCons (mVar 0) (mCons (m2 addD (mVar 2) (mC (.int 1))) mNil)))) (gNm 3) tYes' (m2 ixD (mVar 1) (mCall (callN 2 F__law_take) (mCons (mVar 0) (mCons (mCall lenD (mCons (mVar 1) mNil)) mNil)))) [3]) mNil)))
noncomputable def F__law_draw_text : List D → Store → R D := fnD 4 3 b__law_draw_text
/-! ### _law_draw_short: 0=_law_pen -/
noncomputable def b__law_draw_short : MS :=
 (sRet (m2 ixD (mLst (mCons (mC (.str "")) (mCons (mC (.str "")) (mCons (mC (.str "x")) (mCons (mC (.str "y")) (mCons (mC (.str "xx")) (mCons (mC (.str "xy")) (mCons (mC (.str "yx")) (mCons (mC (.str "xyyx")) (mCons (mC (.str "yyyyy")) (mCons (mC (.str "X")) (mCons (mC (.str "xX")) (mCons (mC (.str "x1,")) mNil))))))))))))) (mCall (callN 2 F__law_take) (mCons (mVar 0) (mCons (mC (.int 12)) mNil)))))
noncomputable def F__law_draw_short : List D → Store → R D := fnD 1 1 b__law_draw_short
/-! ### _law_draw_machine: 0=_law_pen 1=_law_alphabet 2=_law_size 3=_law_amount 4=_law_states 5=_law_index 6=_law_steps 7=_law_letter -/
noncomputable def b__law_draw_machine : MS :=
 (sSeq (sAsg (mTup (mCons (m2 addD (mC (.int 1)) (mCall (callN 2 F__law_take) (mCons (mVar 0) (mCons (mVar 2) mNil)))) (mCons (mLst mNil) mNil))) (gTp 2 (gCons' (gNm 3) (gCons' (gNm 4) gNil'))))
 (sSeq (sFor (mRange1 (mVar 3)) (gNm 5)
 (sSeq (sAsg (mCall tupD (mCons (mLc (mIt (mVar 1)) (gNm 7) tYes' (mTup (mCons (mCall (callN 1 F__law_draw_short) (mCons (mVar 0) mNil)) (mCons (mCall (callN 2 F__law_take) (mCons (mVar 0) (mCons (mVar 3) mNil))) mNil))) [7]) mNil)) (gNm 6))
 (sExpr (mBM "list" appendD (mVar 4) (mCons (mTup (mCons (mVar 6) (mCons (mTup (mCons (mCall (callN 1 F__law_draw_short) (mCons (mVar 0) mNil)) (mCons (m2 ixD (mLst (mCons (mC (.str "halt")) (mCons (mC (.str "halt")) (mCons (mC (.str "halt")) (mCons (mC (.str "fault")) mNil))))) (mCall (callN 2 F__law_take) (mCons (mVar 0) (mCons (mC (.int 4)) mNil)))) mNil))) mNil))) mNil)))))
 (sRet (mTup (mCons (mVar 1) (mCons (mCall (callN 1 F__law_draw_short) (mCons (mVar 0) mNil)) (mCons (mCall tupD (mCons (mVar 4) mNil)) mNil)))))))
noncomputable def F__law_draw_machine : List D → Store → R D := fnD 8 3 b__law_draw_machine
end Pen
end
section
set_option Elab.async false
set_option linter.all false
set_option maxRecDepth 100000
set_option maxHeartbeats 400000
/-! Pen: draws of texts and machines. -/
namespace Pen
open PySem PySem.Spec PyProof.Rows L2 Mp
def shorts : List Str := ["", "", "x", "y", "xx", "xy", "yx", "xyyx", "yyyyy", "X", "xX", "x1,"]
theorem Ok.both {α : Type} {r : R α} {Q : α → Store → Prop} {Q' : α → Store → Prop} (h : Ok r Q) (i : ∀ a st, Q a st → Q' a st) : Ok r Q' := Mp.Ok.mono h i
theorem draw_short_ok {st : Store} {pen : Nat} {B : Int} (hP : PenAt st pen B) (hB : B < 1048576) :
    Ok (F__law_draw_short [.loc pen] st) fun d st' => ∃ s, d = .str s ∧ s ∈ shorts ∧ Keep [pen] st st' ∧ PenAt st' pen (B + 1) := by
  unfold F__law_draw_short
  rw [Ok_fn]
  refine ⟨rfl, ?_⟩
  unfold b__law_draw_short
  simp only [wS_seq, wS_if, wS_asg, wS_ret, wS_expr, wS_skip, wS_par, wS_retN, wS_brk, wS_cnt, wE_C, wE_v, slot_zero, slot_succ, wE_1, wE_2, wE_nil, wE_cons, wE_tup, wE_lst, wE_call, Ok_callN, wE_if, wE_tval, wE_tb1, wE_tand, wE_tor, wE_tnot, wE_and, wE_or, wE_not, wE_chain, wE_bm, wE_repr, wE_sl, wE_pN, wE_tyes, wE_it, wE_dict0, Ok_gNm, Ok_gTp, Ok_gNil, Ok_gCons, Ok_gSb, Ok_ok, isB_bl, truth_bl, List.set_cons_zero, List.set_cons_succ, List.map_cons, List.map_nil, List.cons_append, List.nil_append, List.replicate_succ, List.replicate_zero, List.length_cons, List.length_nil]
  refine ⟨by rw [sizeLine_eq]; omega, trivial, ?_⟩
  have e1 := snoc_at (st := st) (o := MO.lst [.str "", .str "", .str "x", .str "y", .str "xx", .str "xy", .str "yx", .str "xyyx", .str "yyyyy", .str "X", .str "xX", .str "x1,"])
  refine (take_ok (hP.keep Keep.snoc) hB 12 (by omega) (by omega)).mono ?_
  rintro d st2 ⟨i, rfl, i0, i1, k, p⟩
  have hpen : pen < st.length := by
    obtain ⟨_, _, _, _, h, _⟩ := hP
    exact (List.getElem?_eq_some_iff.mp h).1
  have e2 := k.get e1 (by simp; omega)
  refine ix_b e2 i0 (by simpa using i1) fun d hd => ?_
  have hm : d ∈ shorts.map D.str := List.mem_of_getElem? hd
  obtain ⟨s, hs, rfl⟩ := List.mem_map.mp hm
  exact ⟨s, rfl, hs, (Keep.snoc).trans k, p⟩
end Pen
end
section
set_option Elab.async false
set_option linter.all false
set_option maxRecDepth 100000
set_option maxHeartbeats 400000
/-! Pen: draws of alphabets. -/
namespace Pen
open PySem PySem.Spec PyProof.Rows L2 Mp
def sg (c : Nat) : Str := ⟨#[c]⟩
theorem empty_cps : ("" : Str).cps = #[] := by decide +kernel
theorem append_cps (a b : Str) : (a ++ b).cps.toList = a.cps.toList ++ b.cps.toList := by
  show (a.cps ++ b.cps).toList = _
  simp
theorem join0 : ∀ xs : List Str, (Txt.join "" xs).cps.toList = (xs.map fun x => x.cps.toList).flatten := by
  intro xs
  show (Builtin.Str.glued "" xs).cps.toList = _
  rw [StrLaws.glued_eq_join]
  induction xs with
  | nil => rfl
  | cons x xs ih =>
    cases xs with
    | nil => show x.cps.toList = _; simp
    | cons y ys =>
      show (x ++ "" ++ Str.join "" (y :: ys)).cps.toList = _
      rw [append_cps, append_cps, ih, empty_cps]
      simp
theorem join0_sg (cs : List Nat) : (Txt.join "" (cs.map sg)).cps.toList = cs := by
  rw [join0]
  induction cs with
  | nil => rfl
  | cons c cs ih =>
    simp only [List.map_cons, List.flatten_cons, ih]
    rfl
/-- a good alphabet -/
def AlOk (al : Str) : Prop := 1 ≤ al.cps.toList.length ∧ al.cps.toList.length ≤ 3 ∧ (∀ c ∈ al.cps.toList, 33 ≤ c ∧ c ≤ 126) ∧ al.cps.toList.Pairwise (· < ·)
theorem wE_sort {a : M D} {ds : DSt} {st : Store} {Q : D → Store → Prop} : Mp.wE (mSortSet a) ds st Q = Mp.wE a ds st fun x st => Ok (match strsIn st x with
  | some ns => if ns.length < 64 then .ok (.loc st.length) (st ++ [.lst ((sortU ns).map .str)]) else .stuck
  | none => .stuck) Q := Ok_bind _ _
theorem wE_range1 {a : M D} {ds : DSt} {st : Store} {Q : ItD → Store → Prop} : Mp.wE (mRange1 a) ds st Q = Mp.wE a ds st fun d st => Mp.intOf d fun j => (-(2 ^ 62) ≤ j ∧ j < 2 ^ 62) ∧ Q ⟨rangeItems 0 j.toNat, []⟩ st := by
  unfold Mp.wE mRange1
  rw [Ok_bind]
  congr 1; funext d st
  cases d with
  | int j =>
    simp only [Mp.intOf]
    by_cases h : -(2 ^ 62) ≤ j ∧ j < 2 ^ 62
    · rw [if_pos h]; exact propext ⟨fun q => ⟨h, q⟩, fun q => q.2⟩
    · rw [if_neg h]; exact propext ⟨fun q => q.elim, fun q => absurd q.1 h⟩
  | _ => rfl
theorem eq_int {i j : Int} {st : Store} {Q : D → Store → Prop} : Ok (eqD (.int i) (.int j) st) Q = Q (.bl (i == j)) st := rfl
theorem strsD_map : ∀ xs : List Str, strsD (xs.map D.str) = some xs
  | [] => rfl
  | x :: xs => by
    rw [List.map_cons]
    unfold strsD
    rw [strsD_map xs]
    rfl
theorem sg_lt {a b : Nat} : ltS (sg a) (sg b) ↔ a < b := by
  show [a] < [b] ↔ _
  constructor
  · intro h
    rcases h with h | h
    · assumption
    · rename_i h; cases h
  · intro h
    exact List.Lex.rel h
theorem sortU_sg {cs : List Nat} : ∃ ds : List Nat, sortU (cs.map sg) = ds.map sg ∧ ds.Pairwise (· < ·) ∧ (∀ c, c ∈ ds ↔ c ∈ cs) ∧ ds.length ≤ cs.length := by
  have h1 := sortU_pw (cs.map sg)
  have h2 : ∀ z, z ∈ sortU (cs.map sg) ↔ z ∈ cs.map sg := fun z => mem_sortU
  have h3 := sortU_length (cs.map sg)
  rw [List.length_map] at h3
  have ex : ∀ l : List Str, (∀ z ∈ l, z ∈ cs.map sg) → ∃ ds : List Nat, l = ds.map sg := by
    intro l
    induction l with
    | nil => exact fun _ => ⟨[], rfl⟩
    | cons x l ih =>
      intro h
      obtain ⟨ds, rfl⟩ := ih fun z hz => h z (List.mem_cons_of_mem _ hz)
      obtain ⟨c, _, rfl⟩ := List.mem_map.mp (h x List.mem_cons_self)
      exact ⟨c :: ds, rfl⟩
  obtain ⟨ds, e⟩ := ex _ fun z hz => (h2 z).mp hz
  have inj : ∀ {a b : Nat}, sg a = sg b → a = b := fun {a b} h => by
    have : [a] = [b] := congrArg (fun y : Str => y.cps.toList) h
    exact (List.cons.inj this).1
  refine ⟨ds, e, ?_, fun c => ?_, by rw [e, List.length_map] at h3; exact h3⟩
  · rw [e, List.pairwise_map] at h1
    exact h1.imp fun {a b} h => sg_lt.mp h
  · have := h2 (sg c)
    rw [e] at this
    constructor
    · intro h
      obtain ⟨c', hc', q⟩ := List.mem_map.mp (this.mp (List.mem_map.mpr ⟨c, h, rfl⟩))
      exact inj q ▸ hc'
    · intro h
      obtain ⟨c', hc', q⟩ := List.mem_map.mp (this.mpr (List.mem_map.mpr ⟨c, h, rfl⟩))
      exact inj q ▸ hc'

theorem ix_strlit {x : Str} {i : Int} {st : Store} {Q : D → Store → Prop} (hz : x.length ≤ sizeLine) (i0 : 0 ≤ i) (i1 : i < x.cps.toList.length) (q : ∀ c, x.cps.toList[i.toNat]? = some c → Q (.str (sg c)) st) : Ok (ixD (.str x) (.int i) st) Q := by
  have hl : i.toNat < x.cps.toList.length := by omega
  have e : atI x.cps.toList i = some x.cps.toList[i.toNat] := by
    unfold atI ixN
    rw [if_pos i0, if_pos i1]
    exact List.getElem?_eq_getElem hl
  unfold ixD
  simp only
  rw [if_pos hz, e]
  exact q _ (List.getElem?_eq_getElem hl)
theorem len_str {x : Str} {st : Store} {Q : D → Store → Prop} (hz : x.length ≤ sizeLine) : Ok (lenD [.str x] st) Q = Q (.int x.length) st := by
  unfold lenD
  simp only
  rw [if_pos hz]
  rfl
def pool : Str := "!\"#$&'()*+,-./0123456789:;<=>?@ABCDEFGHIJKLMNOPQRSTUVWXYZ[\\]^_`abcdefghijklmnopqrstuvwxyz{|}~"
theorem pool_len : pool.length = 93 := by decide +kernel
theorem pool_in : ∀ c ∈ pool.cps.toList, 33 ≤ c ∧ c ≤ 126 := by decide +kernel
theorem draw_alphabet_ok {st : Store} {pen : Nat} {B : Int} (hP : PenAt st pen B) (hB : B < 1000000) (n : Int) (n0 : 1 ≤ n) (n3 : n ≤ 3) :
    Ok (F__law_draw_alphabet [.loc pen, .int n] st) fun d st' => ∃ al, d = .str al ∧ AlOk al ∧ Keep [pen] st st' ∧ PenAt st' pen (B + 3) := by
  unfold F__law_draw_alphabet
  rw [Ok_fn]
  refine ⟨rfl, ?_⟩
  unfold b__law_draw_alphabet
  simp only [wS_seq, wS_if, wS_asg, wS_ret, wS_expr, wS_skip, wS_par, wS_retN, wS_brk, wS_cnt, wE_C, wE_v, slot_zero, slot_succ, wE_1, wE_2, wE_nil, wE_cons, wE_tup, wE_lst, wE_call, Ok_callN, wE_if, wE_tval, wE_tb1, wE_tand, wE_tor, wE_tnot, wE_and, wE_or, wE_not, wE_chain, wE_bm, wE_repr, wE_sl, wE_pN, wE_tyes, wE_it, wE_dict0, Ok_gNm, Ok_gTp, Ok_gNil, Ok_gCons, Ok_gSb, Ok_ok, isB_bl, truth_bl, List.set_cons_zero, List.set_cons_succ, List.map_cons, List.map_nil, List.cons_append, List.nil_append, List.replicate_succ, List.replicate_zero, List.length_cons, List.length_nil]
  refine ⟨trivial, ?_⟩
  refine (take_ok hP (by omega) 8 (by omega) (by omega)).mono ?_
  rintro d st1 ⟨i, rfl, i0, i1, k1, p1⟩
  rw [eq_int]
  simp only [isB_bl, Ok_ok]
  refine ite_k (fun _ => ?_) fun _ => ?_
  · refine ⟨by rw [sizeLine_eq]; omega, ?_⟩
    rw [sub_int]
    refine ix_b snoc_at (by omega) (by simp; omega) fun d hd => ?_
    have hm : d ∈ [D.str "A", D.str "Aa", D.str "AZa"] := List.mem_of_getElem? hd
    have k2 : Keep [pen] st (st1 ++ [MO.lst [D.str "A", D.str "Aa", D.str "AZa"]]) := k1.trans Keep.snoc
    have p2 : PenAt (st1 ++ [MO.lst [D.str "A", D.str "Aa", D.str "AZa"]]) pen (B + 3) := (p1.keep Keep.snoc).mono (by omega)
    simp only [List.mem_cons, List.not_mem_nil, or_false] at hm
    rcases hm with rfl | rfl | rfl
    · exact ⟨_, rfl, by unfold AlOk; decide +kernel, k2, p2⟩
    · exact ⟨_, rfl, by unfold AlOk; decide +kernel, k2, p2⟩
    · exact ⟨_, rfl, by unfold AlOk; decide +kernel, k2, p2⟩
  · show Ok (lenD [.str pool] st1) _
    have hz : pool.length ≤ sizeLine := by rw [pool_len, sizeLine_eq]; omega
    rw [len_str hz, pool_len]
    refine ⟨trivial, ?_⟩
    refine (take_ok p1 (by omega) 93 (by omega) (by omega)).mono ?_
    rintro d st2 ⟨f, rfl, f0, f1, k2, p2⟩
    refine ⟨trivial, ?_⟩
    refine (take_ok p2 (by omega) 9 (by omega) (by omega)).mono ?_
    rintro d st3 ⟨s, rfl, s0, s1, k3, p3⟩
    refine mul_b (A := 2) (B := 9) (by omega) (by omega) s0 (by omega) (by omega) (by omega) fun r r0 r1 => ?_
    rw [add_int]
    refine ⟨by rw [sizeLine_eq]; omega, trivial, ?_⟩
    refine ⟨rfl, ?_⟩
    rw [wE_sort]
    refine wE_lc ?_
    simp only [wE_range1, wS_seq, wS_if, wS_asg, wS_ret, wS_expr, wS_skip, wS_par, wS_retN, wS_brk, wS_cnt, wE_C, wE_v, slot_zero, slot_succ, wE_1, wE_2, wE_nil, wE_cons, wE_tup, wE_lst, wE_call, Ok_callN, wE_if, wE_tval, wE_tb1, wE_tand, wE_tor, wE_tnot, wE_and, wE_or, wE_not, wE_chain, wE_bm, wE_repr, wE_sl, wE_pN, wE_tyes, wE_it, wE_dict0, Ok_gNm, Ok_gTp, Ok_gNil, Ok_gCons, Ok_gSb, Ok_ok, isB_bl, truth_bl, List.set_cons_zero, List.set_cons_succ, List.map_cons, List.map_nil, List.cons_append, List.nil_append, List.replicate_succ, List.replicate_zero, List.length_cons, List.length_nil, intOf_int]
    refine ⟨⟨by omega, by omega⟩, fun i acc st => ∃ cs : List Nat, acc = (cs.map sg).map D.str ∧ cs.length = i ∧ (∀ c ∈ cs, 33 ≤ c ∧ c ≤ 126) ∧ st = st3, ?_, ⟨[], rfl, rfl, (fun _ h => nomatch h), rfl⟩, ?_, ?_, ?_⟩
    · unfold rangeItems
      rw [List.length_map, List.length_range, sizeLine_eq]
      omega
    · rintro i acc st ⟨cs, rfl, hl, _, rfl⟩
      refine ⟨fun p hp => (nomatch hp), ?_⟩
      rw [List.length_map, List.length_map]
      omega
    · rintro i x acc st hx ⟨cs, rfl, hl, hc, rfl⟩
      unfold rangeItems at hx
      rw [List.getElem?_map] at hx
      obtain ⟨y, hy, rfl⟩ := Option.map_eq_some_iff.mp hx
      have hy' := (List.getElem?_eq_some_iff.mp hy).2
      have hyl := (List.getElem?_eq_some_iff.mp hy).1
      rw [List.getElem_range] at hy'
      rw [List.length_range] at hyl
      subst hy'
      simp only [wipeD, wS_seq, wS_if, wS_asg, wS_ret, wS_expr, wS_skip, wS_par, wS_retN, wS_brk, wS_cnt, wE_C, wE_v, slot_zero, slot_succ, wE_1, wE_2, wE_nil, wE_cons, wE_tup, wE_lst, wE_call, Ok_callN, wE_if, wE_tval, wE_tb1, wE_tand, wE_tor, wE_tnot, wE_and, wE_or, wE_not, wE_chain, wE_bm, wE_repr, wE_sl, wE_pN, wE_tyes, wE_it, wE_dict0, Ok_gNm, Ok_gTp, Ok_gNil, Ok_gCons, Ok_gSb, Ok_ok, isB_bl, truth_bl, List.set_cons_zero, List.set_cons_succ, List.map_cons, List.map_nil, List.cons_append, List.nil_append, List.replicate_succ, List.replicate_zero, List.length_cons, List.length_nil]
      refine ⟨fun _ => ?_, fun h => nomatch h⟩
      refine mul_b (A := 19) (B := 3) (by omega) (by omega) (by omega) (by omega) (by omega) (by omega) fun r3 c0 c1 => ?_
      rw [add_int]
      show Ok (lenD [.str pool] _) _
      rw [len_str hz, pool_len]
      refine mod_b (by omega) fun r4 d0 d1 => ?_
      refine ix_strlit (x := pool) hz d0 (by show r4 < (pool.cps.toList.length : Nat); have := pool_len; unfold Str.length at this; rw [Array.length_toList, this]; exact d1) fun c hc' => ?_
      refine ⟨cs ++ [c], ?_, ?_, ?_, rfl⟩
      · simp
      · simp [hl]
      · intro c2 hc2
        rcases List.mem_append.mp hc2 with h | h
        · exact hc c2 h
        · rw [List.mem_singleton.mp h]
          exact pool_in _ (List.mem_of_getElem? hc')
    · rintro acc st ⟨cs, rfl, hl, hc, rfl⟩
      have hl3 : cs.length = n.toNat := by
        rw [hl]; unfold rangeItems; simp
      have e1 : strsIn (st ++ [MO.lst ((cs.map sg).map D.str)]) (.loc st.length) = some (cs.map sg) := by
        unfold strsIn
        simp only [snoc_at]
        exact strsD_map _
      rw [e1]
      simp only
      rw [if_pos (by rw [List.length_map, hl3]; omega)]
      simp only [Ok_ok]
      obtain ⟨ds, e2, pw, mem, lds⟩ := sortU_sg (cs := cs)
      rw [e2]
      have e3 : (seqD (st ++ [MO.lst ((cs.map sg).map D.str)] ++ [MO.lst ((ds.map sg).map D.str)]) (.loc (st ++ [MO.lst ((cs.map sg).map D.str)]).length)).bind strsD = some (ds.map sg) := by
        unfold seqD
        simp only [snoc_at]
        exact strsD_map _
      unfold joinD
      simp only [e3]
      have hsum : ((ds.map sg).map (·.length)).sum = ds.length := by
        rw [List.map_map]
        clear e3 e2 pw mem lds
        induction ds with
        | nil => rfl
        | cons d ds ih =>
          rw [List.map_cons, List.sum_cons, ih]
          show 1 + ds.length = ds.length + 1
          omega
      have hem : ("" : Str).length = 0 := by decide +kernel
      rw [if_pos (by rw [hsum, hem]; omega)]
      simp only [Ok_ok]
      refine ⟨_, rfl, ?_, ((k1.trans k2).trans k3).trans (Keep.trans Keep.snoc Keep.snoc), ((p3.keep Keep.snoc).keep Keep.snoc).mono (by omega)⟩
      unfold AlOk
      rw [join0_sg]
      refine ⟨?_, by omega, fun c h => hc c ((mem c).mp h), pw⟩
      cases ds with
      | nil =>
        cases cs with
        | nil => simp at hl3; omega
        | cons c cs => exact absurd ((mem c).mpr List.mem_cons_self) (by simp)
      | cons d ds => simp
end Pen
end
section
set_option Elab.async false
set_option linter.all false
set_option maxRecDepth 100000
set_option maxHeartbeats 400000
/-! Pen: draws of machines. -/
namespace Pen
open PySem PySem.Spec PyProof.Rows L2 Mp
abbrev SD := List (Str × Int) × Str × Str
def stepD (p : Str × Int) : D := .tup [.str p.1, .int p.2]
def stD (s : SD) : D := .tup [.tup (s.1.map stepD), .tup [.str s.2.1, .str s.2.2]]
def machD (al p : Str) (sts : List SD) : D := .tup [.str al, .str p, .tup (sts.map stD)]
def StepOk (a : Int) (p : Str × Int) : Prop := p.1 ∈ shorts ∧ 0 ≤ p.2 ∧ p.2 < a
def StOk (k : Nat) (a : Int) (s : SD) : Prop := s.1.length = k ∧ (∀ p ∈ s.1, StepOk a p) ∧ s.2.1 ∈ shorts ∧ (s.2.2 = "halt" ∨ s.2.2 = "fault")
theorem keep_set {st st' : Store} {ms : List Nat} {L : Nat} {o : MO} (k : Keep ms st st') (l : st.length ≤ L) : Keep ms st (st'.set L o) :=
  ⟨by rw [List.length_set]; exact k.len, fun m h n => by rw [List.getElem?_set_ne (by omega)]; exact k.at_ m h n⟩
theorem range_item {i : Nat} {n : Nat} {x : D} (h : (rangeItems 0 n)[i]? = some x) : x = .int (0 + (i : Nat)) ∧ i < n := by
  unfold rangeItems at h
  rw [List.getElem?_map] at h
  obtain ⟨y, hy, rfl⟩ := Option.map_eq_some_iff.mp h
  have hy' := (List.getElem?_eq_some_iff.mp hy).2
  have hyl := (List.getElem?_eq_some_iff.mp hy).1
  rw [List.getElem_range] at hy'
  rw [List.length_range] at hyl
  subst hy'
  exact ⟨rfl, hyl⟩
theorem app_lst {st : Store} {n : Nat} {xs : List D} {d : D} {Q : D → Store → Prop} (h : st[n]? = some (.lst xs)) (hz : xs.length < sizeLine) (q : Q .non (st.set n (.lst (xs ++ [d])))) : Ok (appendD (.loc n) [d] st) Q := by
  unfold appendD
  simp only [h]
  rw [if_pos hz]
  exact q
theorem tup_lst {st : Store} {n : Nat} {xs : List D} {Q : D → Store → Prop} (h : st[n]? = some (.lst xs)) (q : Q (.tup xs) st) : Ok (tupD [.loc n] st) Q := by
  unfold tupD seqD
  simp only [h]
  exact q
theorem draw_machine_ok {st : Store} {pen : Nat} {B : Int} (hP : PenAt st pen B) (hB : B < 900000) (al : Str) (hal : al.length ≤ 4) (n : Int) (n0 : 1 ≤ n) (n6 : n ≤ 6) :
    Ok (F__law_draw_machine [.loc pen, .str al, .int n] st) fun d st' => ∃ p sts, d = machD al p sts ∧ p ∈ shorts ∧ 1 ≤ sts.length ∧ (sts.length : Int) ≤ n ∧ (∀ s ∈ sts, StOk al.cps.toList.length sts.length s) ∧ Keep [pen] st st' ∧ PenAt st' pen (B + 100) := by
  unfold F__law_draw_machine
  rw [Ok_fn]
  refine ⟨rfl, ?_⟩
  unfold b__law_draw_machine
  simp only [wS_seq, wS_if, wS_asg, wS_ret, wS_expr, wS_skip, wS_par, wS_retN, wS_brk, wS_cnt, wE_C, wE_v, slot_zero, slot_succ, wE_1, wE_2, wE_nil, wE_cons, wE_tup, wE_lst, wE_call, Ok_callN, wE_if, wE_tval, wE_tb1, wE_tand, wE_tor, wE_tnot, wE_and, wE_or, wE_not, wE_chain, wE_bm, wE_repr, wE_sl, wE_pN, wE_tyes, wE_it, wE_dict0, Ok_gNm, Ok_gTp, Ok_gNil, Ok_gCons, Ok_gSb, Ok_ok, isB_bl, truth_bl, List.set_cons_zero, List.set_cons_succ, List.map_cons, List.map_nil, List.cons_append, List.nil_append, List.replicate_succ, List.replicate_zero, List.length_cons, List.length_nil, wipeD, wE_pS, intOf_int, wE_enum, wE_sort, wE_range1]
  refine ⟨trivial, ?_⟩
  refine (take_ok hP (by omega) n (by omega) (by omega)).mono ?_
  rintro d st1 ⟨a, rfl, a0, a1, k1, p1⟩
  rw [add_int]
  have hl1 := p1.lt
  refine ⟨Nat.zero_le _, by rw [sizeLine_eq]; omega, trivial, ?_⟩
  refine wS_for ?_
  simp only [wS_seq, wS_if, wS_asg, wS_ret, wS_expr, wS_skip, wS_par, wS_retN, wS_brk, wS_cnt, wE_C, wE_v, slot_zero, slot_succ, wE_1, wE_2, wE_nil, wE_cons, wE_tup, wE_lst, wE_call, Ok_callN, wE_if, wE_tval, wE_tb1, wE_tand, wE_tor, wE_tnot, wE_and, wE_or, wE_not, wE_chain, wE_bm, wE_repr, wE_sl, wE_pN, wE_tyes, wE_it, wE_dict0, Ok_gNm, Ok_gTp, Ok_gNil, Ok_gCons, Ok_gSb, Ok_ok, isB_bl, truth_bl, List.set_cons_zero, List.set_cons_succ, List.map_cons, List.map_nil, List.cons_append, List.nil_append, List.replicate_succ, List.replicate_zero, List.length_cons, List.length_nil, wipeD, wE_pS, intOf_int, wE_enum, wE_sort, wE_range1]
  refine ⟨⟨by omega, by omega⟩, ?_⟩
  have hal' : al.cps.toList.length ≤ 4 := by
    have := hal; unfold Str.length at this; rw [Array.length_toList]; exact this
  refine ⟨fun i ds s => ∃ (sts : List SD) (o5 o6 o7 : Option D), ds = [some (.loc pen), some (.str al), some (.int n), some (.int (1 + a)), some (.loc st1.length), o5, o6, o7] ∧ sts.length = i ∧ (∀ z ∈ sts, StOk al.cps.toList.length (1 + a) z) ∧ s[st1.length]? = some (.lst (sts.map stD)) ∧ Keep [pen] st s ∧ PenAt s pen (B + 1 + 12 * i) ∧ st1.length < s.length, ?_, ?_, ?_, ?_⟩
  · exact ⟨[], none, none, none, rfl, rfl, (fun _ h => nomatch h), snoc_at, k1.trans Keep.snoc, by simpa using p1.keep Keep.snoc, by simp⟩
  · exact fun i ds s _ p hp => nomatch hp
  · rintro i x ds s hx ⟨sts, o5, o6, o7, rfl, hl, hst, hs, hk, hp, hlen⟩
    obtain ⟨rfl, hi⟩ := range_item hx
    simp only [wS_seq, wS_if, wS_asg, wS_ret, wS_expr, wS_skip, wS_par, wS_retN, wS_brk, wS_cnt, wE_C, wE_v, slot_zero, slot_succ, wE_1, wE_2, wE_nil, wE_cons, wE_tup, wE_lst, wE_call, Ok_callN, wE_if, wE_tval, wE_tb1, wE_tand, wE_tor, wE_tnot, wE_and, wE_or, wE_not, wE_chain, wE_bm, wE_repr, wE_sl, wE_pN, wE_tyes, wE_it, wE_dict0, Ok_gNm, Ok_gTp, Ok_gNil, Ok_gCons, Ok_gSb, Ok_ok, isB_bl, truth_bl, List.set_cons_zero, List.set_cons_succ, List.map_cons, List.map_nil, List.cons_append, List.nil_append, List.replicate_succ, List.replicate_zero, List.length_cons, List.length_nil, wipeD, wE_pS, intOf_int, wE_enum, wE_sort, wE_range1]
    refine wE_lc ?_
    simp only [wS_seq, wS_if, wS_asg, wS_ret, wS_expr, wS_skip, wS_par, wS_retN, wS_brk, wS_cnt, wE_C, wE_v, slot_zero, slot_succ, wE_1, wE_2, wE_nil, wE_cons, wE_tup, wE_lst, wE_call, Ok_callN, wE_if, wE_tval, wE_tb1, wE_tand, wE_tor, wE_tnot, wE_and, wE_or, wE_not, wE_chain, wE_bm, wE_repr, wE_sl, wE_pN, wE_tyes, wE_it, wE_dict0, Ok_gNm, Ok_gTp, Ok_gNil, Ok_gCons, Ok_gSb, Ok_ok, isB_bl, truth_bl, List.set_cons_zero, List.set_cons_succ, List.map_cons, List.map_nil, List.cons_append, List.nil_append, List.replicate_succ, List.replicate_zero, List.length_cons, List.length_nil, wipeD, wE_pS, intOf_int, wE_enum, wE_sort, wE_range1]
    have hLp : st1.length ∉ [pen] := by simp; omega
    show Ok (R.ok (⟨strItems al, []⟩ : ItD) s) _
    simp only [Ok_ok]
    have hlenal : (strItems al).length = al.cps.toList.length := by unfold strItems; rw [List.length_map]
    refine ⟨fun j acc s2 => ∃ ps : List (Str × Int), acc = ps.map stepD ∧ ps.length = j ∧ (∀ p ∈ ps, StepOk (1 + a) p) ∧ Keep [pen] s s2 ∧ PenAt s2 pen (B + 1 + 12 * i + 2 * j) ∧ j ≤ 4, ?_, ?_, ?_, ?_, ?_⟩
    · rw [hlenal, sizeLine_eq]; omega
    · exact ⟨[], rfl, rfl, (fun _ h => nomatch h), .refl, by simpa using hp, by omega⟩
    · rintro j acc s2 ⟨ps, rfl, hl2, _⟩
      exact ⟨fun p hp => (nomatch hp), by rw [List.length_map]; omega⟩
    · rintro j x acc s2 hx2 ⟨ps, rfl, hl2, hps, k2, p2, hj⟩
      have hj4 : j < 4 := by
        have := (List.getElem?_eq_some_iff.mp hx2).1
        rw [hlenal] at this
        omega
      refine ⟨fun _ => ⟨trivial, ?_⟩, fun h => nomatch h⟩
      refine (draw_short_ok p2 (by omega)).mono ?_
      rintro d s3 ⟨t, rfl, ht, k3, p3⟩
      refine ⟨trivial, ?_⟩
      refine (take_ok p3 (by omega) (1 + a) (by omega) (by omega)).mono ?_
      rintro d s4 ⟨v, rfl, v0, v1, k4, p4⟩
      refine ⟨by rw [sizeLine_eq]; omega, ps ++ [(t, v)], by simp [stepD], by simp [hl2], ?_, (k2.trans k3).trans k4, p4.mono (by omega), by omega⟩
      intro p hp
      rcases List.mem_append.mp hp with h | h
      · exact hps p h
      · rw [List.mem_singleton.mp h]; exact ⟨ht, v0, v1⟩
    · rintro acc s2 ⟨ps, rfl, hl2, hps, k2, p2, hj⟩
      rw [hlenal] at hl2 p2
      refine tup_lst snoc_at ?_
      have k3 : Keep [pen] s (s2 ++ [MO.lst (ps.map stepD)]) := k2.trans Keep.snoc
      have p3 := p2.keep (Keep.snoc (o := MO.lst (ps.map stepD)))
      generalize s2 ++ [MO.lst (ps.map stepD)] = s3 at k3 p3 ⊢
      have hL3 := k3.get hs hLp
      refine ⟨by unfold tyD; simp only [hL3], trivial, ?_⟩
      refine (draw_short_ok p3 (by omega)).mono ?_
      rintro d s4 ⟨t, rfl, ht, k4, p4⟩
      refine ⟨by rw [sizeLine_eq]; omega, trivial, ?_⟩
      refine (take_ok (p4.keep Keep.snoc) (by omega) 4 (by omega) (by omega)).mono ?_
      rintro d s5 ⟨v, rfl, v0, v1, k5, p5⟩
      have e5 := k5.get (snoc_at (st := s4) (o := MO.lst [D.str "halt", D.str "halt", D.str "halt", D.str "fault"])) (by have := p4.lt; simp; omega)
      refine ix_b e5 v0 (by simpa using v1) fun d hd => ?_
      have hm : d ∈ [D.str "halt", D.str "halt", D.str "halt", D.str "fault"] := List.mem_of_getElem? hd
      have hw : ∃ w : Str, d = .str w ∧ (w = "halt" ∨ w = "fault") := by
        simp only [List.mem_cons, List.not_mem_nil, or_false] at hm
        rcases hm with h | h | h | h
        · exact ⟨_, h, .inl rfl⟩
        · exact ⟨_, h, .inl rfl⟩
        · exact ⟨_, h, .inl rfl⟩
        · exact ⟨_, h, .inr rfl⟩
      obtain ⟨w, rfl, hw⟩ := hw
      have k6 : Keep [pen] s s5 := (k3.trans k4).trans (Keep.trans Keep.snoc k5)
      have hL5 := k6.get hs hLp
      refine ⟨by rw [sizeLine_eq]; omega, by rw [sizeLine_eq]; omega, ?_⟩
      refine app_lst hL5 (by rw [List.length_map, hl, sizeLine_eq]; omega) ?_
      refine ⟨sts ++ [(ps, t, w)], _, _, _, rfl, by simp [hl], ?_, ?_, ?_, ?_, ?_⟩
      · intro z hz
        rcases List.mem_append.mp hz with h | h
        · exact hst z h
        · rw [List.mem_singleton.mp h]
          exact ⟨hl2, hps, ht, hw⟩
      · rw [set_at hL5]; simp [stD, stepD]
      · exact keep_set (hk.trans k6) (by have := k1.len; omega)
      · exact (p5.set hl1).mono (by omega)
      · rw [List.length_set]; have := k6.len; omega
  · rintro ds s ⟨sts, o5, o6, o7, rfl, hl, hst, hs, hk, hp, hlen⟩
    have hn : (rangeItems 0 (1 + a).toNat).length = (1 + a).toNat := by unfold rangeItems; simp
    rw [hn] at hl hp
    simp only [wS_seq, wS_if, wS_asg, wS_ret, wS_expr, wS_skip, wS_par, wS_retN, wS_brk, wS_cnt, wE_C, wE_v, slot_zero, slot_succ, wE_1, wE_2, wE_nil, wE_cons, wE_tup, wE_lst, wE_call, Ok_callN, wE_if, wE_tval, wE_tb1, wE_tand, wE_tor, wE_tnot, wE_and, wE_or, wE_not, wE_chain, wE_bm, wE_repr, wE_sl, wE_pN, wE_tyes, wE_it, wE_dict0, Ok_gNm, Ok_gTp, Ok_gNil, Ok_gCons, Ok_gSb, Ok_ok, isB_bl, truth_bl, List.set_cons_zero, List.set_cons_succ, List.map_cons, List.map_nil, List.cons_append, List.nil_append, List.replicate_succ, List.replicate_zero, List.length_cons, List.length_nil, wipeD, wE_pS, intOf_int, wE_enum, wE_sort, wE_range1]
    refine ⟨trivial, ?_⟩
    refine (draw_short_ok hp (by omega)).mono ?_
    rintro d s2 ⟨t, rfl, ht, k2, p2⟩
    have hs2 := k2.get hs (by simp; omega)
    refine tup_lst hs2 ?_
    refine ⟨by rw [sizeLine_eq]; omega, t, sts, rfl, ht, by omega, by omega, ?_, hk.trans k2, p2.mono (by omega)⟩
    intro z hz
    have := hst z hz
    rw [show ((sts.length : Nat) : Int) = 1 + a by omega]
    exact this
end Pen
end
section
set_option Elab.async false
set_option linter.all false
set_option maxRecDepth 100000
set_option maxHeartbeats 400000
/-! Pen: draws of texts over an alphabet. -/
namespace Pen
open PySem PySem.Spec PyProof.Rows L2 Mp
theorem cps_len (x : Str) : x.length = x.cps.toList.length := by unfold Str.length; rw [Array.length_toList]
theorem sum_sg (ds : List Nat) : ((ds.map sg).map (·.length)).sum = ds.length := by
  rw [List.map_map]
  induction ds with
  | nil => rfl
  | cons d ds ih =>
    rw [List.map_cons, List.sum_cons, ih]
    show 1 + ds.length = ds.length + 1
    omega
theorem join_lst {st : Store} {n : Nat} {cs : List Nat} {Q : D → Store → Prop} (h : st[n]? = some (.lst ((cs.map sg).map D.str))) (hz : cs.length ≤ 16777216) (q : Q (.str (Txt.join "" (cs.map sg))) st) : Ok (joinD (.str "") [.loc n] st) Q := by
  have e3 : (seqD st (.loc n)).bind strsD = some (cs.map sg) := by
    unfold seqD
    simp only [h]
    exact strsD_map _
  unfold joinD
  simp only [e3]
  have hem : ("" : Str).length = 0 := by decide +kernel
  rw [if_pos (by rw [sum_sg, hem]; omega)]
  exact q
theorem draw_text_ok {st : Store} {pen : Nat} {B : Int} (hP : PenAt st pen B) (hB : B < 900000) (al : Str) (hal0 : 1 ≤ al.cps.toList.length) (hal : al.cps.toList.length ≤ 4) (n : Int) (n0 : 0 ≤ n) (n6 : n ≤ 100) :
    Ok (F__law_draw_text [.loc pen, .str al, .int n] st) fun d st' => ∃ tx, d = .str tx ∧ (tx.cps.toList.length : Int) ≤ n ∧ (∀ c ∈ tx.cps.toList, c ∈ al.cps.toList) ∧ Keep [pen] st st' ∧ PenAt st' pen (B + 200) := by
  unfold F__law_draw_text
  rw [Ok_fn]
  refine ⟨rfl, ?_⟩
  unfold b__law_draw_text
  simp only [wS_seq, wS_if, wS_asg, wS_ret, wS_expr, wS_skip, wS_par, wS_retN, wS_brk, wS_cnt, wE_C, wE_v, slot_zero, slot_succ, wE_1, wE_2, wE_nil, wE_cons, wE_tup, wE_lst, wE_call, Ok_callN, wE_if, wE_tval, wE_tb1, wE_tand, wE_tor, wE_tnot, wE_and, wE_or, wE_not, wE_chain, wE_bm, wE_repr, wE_sl, wE_pN, wE_tyes, wE_it, wE_dict0, Ok_gNm, Ok_gTp, Ok_gNil, Ok_gCons, Ok_gSb, Ok_ok, isB_bl, truth_bl, List.set_cons_zero, List.set_cons_succ, List.map_cons, List.map_nil, List.cons_append, List.nil_append, List.replicate_succ, List.replicate_zero, List.length_cons, List.length_nil, wipeD, wE_pS, intOf_int, wE_enum, wE_sort, wE_range1]
  refine ⟨rfl, ?_⟩
  refine wE_lc ?_
  simp only [wS_seq, wS_if, wS_asg, wS_ret, wS_expr, wS_skip, wS_par, wS_retN, wS_brk, wS_cnt, wE_C, wE_v, slot_zero, slot_succ, wE_1, wE_2, wE_nil, wE_cons, wE_tup, wE_lst, wE_call, Ok_callN, wE_if, wE_tval, wE_tb1, wE_tand, wE_tor, wE_tnot, wE_and, wE_or, wE_not, wE_chain, wE_bm, wE_repr, wE_sl, wE_pN, wE_tyes, wE_it, wE_dict0, Ok_gNm, Ok_gTp, Ok_gNil, Ok_gCons, Ok_gSb, Ok_ok, isB_bl, truth_bl, List.set_cons_zero, List.set_cons_succ, List.map_cons, List.map_nil, List.cons_append, List.nil_append, List.replicate_succ, List.replicate_zero, List.length_cons, List.length_nil, wipeD, wE_pS, intOf_int, wE_enum, wE_sort, wE_range1]
  rw [add_int]
  refine ⟨trivial, ?_⟩
  refine (take_ok hP (by omega) (n + 1) (by omega) (by omega)).mono ?_
  rintro d st1 ⟨a, rfl, a0, a1, k1, p1⟩
  have hz : al.length ≤ sizeLine := by rw [cps_len, sizeLine_eq]; omega
  refine ⟨⟨by omega, by omega⟩, fun j acc s2 => ∃ cs : List Nat, acc = (cs.map sg).map D.str ∧ cs.length = j ∧ (∀ c ∈ cs, c ∈ al.cps.toList) ∧ Keep [pen] st s2 ∧ PenAt s2 pen (B + 1 + j), ?_, ?_, ?_, ?_, ?_⟩
  · unfold rangeItems
    rw [List.length_map, List.length_range, sizeLine_eq]
    omega
  · exact ⟨[], rfl, rfl, (fun _ h => nomatch h), k1, by simpa using p1⟩
  · rintro j acc s2 ⟨cs, rfl, hl2, _⟩
    exact ⟨fun p hp => (nomatch hp), by rw [List.length_map, List.length_map]; omega⟩
  · rintro j x acc s2 hx ⟨cs, rfl, hl, hcs, k2, p2⟩
    obtain ⟨rfl, hj⟩ := range_item hx
    refine ⟨fun _ => ?_, fun h => nomatch h⟩
    rw [len_str hz]
    refine ⟨trivial, ?_⟩
    have hl4 : ((al.length : Nat) : Int) ≤ 4 ∧ 1 ≤ ((al.length : Nat) : Int) := by rw [cps_len]; omega
    refine (take_ok p2 (by omega) _ (by omega) (by omega)).mono ?_
    rintro d s3 ⟨v, rfl, v0, v1, k3, p3⟩
    refine ix_strlit hz v0 (by rw [← cps_len]; exact v1) fun c hc => ?_
    refine ⟨cs ++ [c], by simp, by simp [hl], ?_, k2.trans k3, p3.mono (by omega)⟩
    intro c2 h2
    rcases List.mem_append.mp h2 with h | h
    · exact hcs c2 h
    · rw [List.mem_singleton.mp h]; exact List.mem_of_getElem? hc
  · rintro acc s2 ⟨cs, rfl, hl, hcs, k2, p2⟩
    have hn : (rangeItems 0 a.toNat).length = a.toNat := by unfold rangeItems; simp
    rw [hn] at hl p2
    refine join_lst snoc_at (by omega) ?_
    refine ⟨_, rfl, ?_, ?_, k2.trans Keep.snoc, (p2.keep Keep.snoc).mono (by omega)⟩
    · rw [join0_sg]; omega
    · rw [join0_sg]; exact hcs
end Pen
end
section
set_option Elab.async false
set_option linter.all false
set_option maxRecDepth 100000
set_option maxHeartbeats 4000000
/-! K50: what the defs compute. Printed by gen.py. -/
namespace K50
open PySem PySem.Spec PyProof.Rows L2 Mp
/-! ### is_integer: 0=value -/
noncomputable def b_is_integer : MS :=
 (sRet (mAnd (m1 (isiD "int") (mVar 0)) (mNotV (m1 (isiD "bool") (mVar 0)))))
noncomputable def F_is_integer : List D → Store → R D := fnD 1 1 b_is_integer
/-! ### is_index: 0=value 1=size -/
noncomputable def b_is_index : MS :=
 (sRet (mAnd (mCall (callN 1 F_is_integer) (mCons (mVar 0) mNil)) (mChain leD ltD (mC (.int 0)) (mVar 0) (mVar 1))))
noncomputable def F_is_index : List D → Store → R D := fnD 2 2 b_is_index
/-! ### is_character: 0=value -/
noncomputable def b_is_character : MS :=
 (sRet (mAnd (m1 (isiD "str") (mVar 0)) (mAnd (m2 eqD (mCall lenD (mCons (mVar 0) mNil)) (mC (.int 1))) (mChain leD leD (mC (.str "!")) (mVar 0) (mC (.str "~"))))))
noncomputable def F_is_character : List D → Store → R D := fnD 1 1 b_is_character
/-! ### is_alphabet: 0=value 1=letter -/
noncomputable def b_is_alphabet : MS :=
 (sSeq (sIf (tOr (tNot (tVal (m1 (isiD "str") (mVar 0)))) (tNot (tB1 (mChain leD leD (mC (.int 1)) (mCall lenD (mCons (mVar 0) mNil)) (mC (.int 3))))))
 (sRet (mC (.bl false)))
 sSkip)
 (sRet (mAnd (mCall allD (mCons (mLc (mIt (mVar 0)) (gNm 1) tYes' (mCall (callN 1 F_is_character) (mCons (mVar 1) mNil)) [1]) mNil)) (m2 eqD (mCall listD (mCons (mVar 0) mNil)) (mSortSet (mVar 0))))))
noncomputable def F_is_alphabet : List D → Store → R D := fnD 2 1 b_is_alphabet
/-! ### is_text: 0=value 1=character -/
noncomputable def b_is_text : MS :=
 (sSeq (sIf (tNot (tVal (m1 (isiD "str") (mVar 0))))
 (sRet (mC (.bl false)))
 sSkip)
 (sRet (mCall allD (mCons (mLc (mIt (mVar 0)) (gNm 1) tYes' (mChain leD leD (mC (.str "!")) (mVar 1) (mC (.str "~"))) [1]) mNil))))
noncomputable def F_is_text : List D → Store → R D := fnD 2 1 b_is_text
/-! ### is_step: 0=value 1=size -/
noncomputable def b_is_step : MS :=
 (sRet (mAnd (m1 (isiD "tuple") (mVar 0)) (mAnd (m2 eqD (mCall lenD (mCons (mVar 0) mNil)) (mC (.int 2))) (mAnd (mCall (callN 1 F_is_text) (mCons (m2 ixD (mVar 0) (mC (.int 0))) mNil)) (mCall (callN 2 F_is_index) (mCons (m2 ixD (mVar 0) (mC (.int 1))) (mCons (mVar 1) mNil)))))))
noncomputable def F_is_step : List D → Store → R D := fnD 2 2 b_is_step
/-! ### is_end: 0=value -/
noncomputable def b_is_end : MS :=
 (sRet (mAnd (m1 (isiD "tuple") (mVar 0)) (mAnd (m2 eqD (mCall lenD (mCons (mVar 0) mNil)) (mC (.int 2))) (mAnd (mCall (callN 1 F_is_text) (mCons (m2 ixD (mVar 0) (mC (.int 0))) mNil)) (m2 inD (m2 ixD (mVar 0) (mC (.int 1))) (mC (.tup (List.map D.str ["halt", "fault"]))))))))
noncomputable def F_is_end : List D → Store → R D := fnD 1 1 b_is_end
/-! ### is_state: 0=value 1=letters 2=size 3=step -/
noncomputable def b_is_state : MS :=
 (sSeq (sIf (tOr (tNot (tVal (m1 (isiD "tuple") (mVar 0)))) (tOr (tB1 (m2 neD (mCall lenD (mCons (mVar 0) mNil)) (mC (.int 2)))) (tNot (tVal (m1 (isiD "tuple") (m2 ixD (mVar 0) (mC (.int 0))))))))
 (sRet (mC (.bl false)))
 sSkip)
 (sSeq (sIf (tOr (tB1 (m2 neD (mCall lenD (mCons (m2 ixD (mVar 0) (mC (.int 0))) mNil)) (mVar 1))) (tNot (tVal (mCall allD (mCons (mLc (mIt (m2 ixD (mVar 0) (mC (.int 0)))) (gNm 3) tYes' (mCall (callN 2 F_is_step) (mCons (mVar 3) (mCons (mVar 2) mNil))) [3]) mNil)))))
 (sRet (mC (.bl false)))
 sSkip)
 (sRet (mCall (callN 1 F_is_end) (mCons (m2 ixD (mVar 0) (mC (.int 1))) mNil)))))
noncomputable def F_is_state : List D → Store → R D := fnD 4 3 b_is_state
/-! ### is_machine: 0=value 1=alphabet 2=prefix 3=states 4=state -/
noncomputable def b_is_machine : MS :=
 (sSeq (sIf (tOr (tNot (tVal (m1 (isiD "tuple") (mVar 0)))) (tOr (tB1 (m2 neD (mCall lenD (mCons (mVar 0) mNil)) (mC (.int 3)))) (tOr (tNot (tVal (mCall (callN 1 F_is_alphabet) (mCons (m2 ixD (mVar 0) (mC (.int 0))) mNil)))) (tNot (tVal (mCall (callN 1 F_is_text) (mCons (m2 ixD (mVar 0) (mC (.int 1))) mNil)))))))
 (sRet (mC (.bl false)))
 sSkip)
 (sSeq (sAsg (mVar 0) (gTp 3 (gCons' (gNm 1) (gCons' (gNm 2) (gCons' (gNm 3) gNil')))))
 (sSeq (sIf (tOr (tNot (tVal (m1 (isiD "tuple") (mVar 3)))) (tB1 (m2 eqD (mVar 3) (mTup mNil))))
 (sRet (mC (.bl false)))
 sSkip)
 (sRet (mCall allD (mCons (mLc (mIt (mVar 3)) (gNm 4) tYes' (mCall (callN 3 F_is_state) (mCons (mVar 4) (mCons (mCall lenD (mCons (mVar 1) mNil)) (mCons (mCall lenD (mCons (mVar 3) mNil)) mNil)))) [4]) mNil))))))
noncomputable def F_is_machine : List D → Store → R D := fnD 5 1 b_is_machine
/-! ### run_machine: 0=machine 1=text 2=alphabet 3=output 4=states 5=index 6=letter 7=emitted 8=last 9=ending -/
noncomputable def b_run_machine : MS :=
 (sSeq (sAsg (mVar 0) (gTp 3 (gCons' (gNm 2) (gCons' (gNm 3) (gCons' (gNm 4) gNil')))))
 (sSeq (sAsg (mC (.int 0)) (gNm 5))
 (sSeq (sFor (mIt (mVar 1)) (gNm 6)
 (sSeq (sAsg (m2 ixD (m2 ixD (m2 ixD (mVar 4) (mVar 5)) (mC (.int 0))) (mBM "str" sindexD (mVar 2) (mCons (mVar 6) mNil))) (gTp 2 (gCons' (gNm 7) (gCons' (gNm 5) gNil'))))
 (sAug 3 iaddD (mVar 7))))
 (sSeq (sAsg (m2 ixD (m2 ixD (mVar 4) (mVar 5)) (mC (.int 1))) (gTp 2 (gCons' (gNm 8) (gCons' (gNm 9) gNil'))))
 (sRet (mTup (mCons (m2 addD (mVar 3) (mVar 8)) (mCons (mVar 9) mNil))))))))
noncomputable def F_run_machine : List D → Store → R D := fnD 10 2 b_run_machine
/-! ### _law_open: 0=_law_script 1=_law_cells 2=_law_k 3=_law_cell -/
noncomputable def b__law_open : MS :=
 (sSeq (sAsg (mCall listD (mCons (mSl (mVar 0) pN (pS (mC (.int 12)))) mNil)) (gNm 1))
 (sSeq (sFor (mEnum (mSl (mVar 0) (pS (mC (.int 12))) (pS (mC (.int 63))))) (gTp 2 (gCons' (gNm 2) (gCons' (gNm 3) gNil')))
 (sAsg (m2 addD (m2 ixD (mVar 1) (m2 modD (mVar 2) (mC (.int 12)))) (mVar 3)) (gSb (mVar 1) (m2 modD (mVar 2) (mC (.int 12))))))
 (sRet (mLst (mCons (mVar 1) (mCons (mC (.int 0)) (mCons (mC (.int 0)) mNil)))))))
noncomputable def F__law_open : List D → Store → R D := fnD 4 1 b__law_open
/-! ### _law_spread: 0=_law_cell 1=_law_at 2=_law_primes 3=_law_one 4=_law_two 5=_law_three -/
noncomputable def b__law_spread : MS :=
 (sSeq (sIf (tB1 (m2 geD (mVar 0) (m2 powD (mC (.int 10)) (mC (.int 18)))))
 (sRet (mVar 0))
 sSkip)
 (sSeq (sAsg (mLst (mCons (mC (.int 2147483629)) (mCons (mC (.int 2147483587)) (mCons (mC (.int 2147483579)) (mCons (mC (.int 2147483563)) (mCons (mC (.int 2147483549)) (mCons (mC (.int 2147483543)) (mCons (mC (.int 2147483497)) (mCons (mC (.int 2147483489)) mNil))))))))) (gNm 2))
 (sSeq (sAsg (m2 addD (mVar 2) (mLst (mCons (mC (.int 2147483477)) (mCons (mC (.int 2147483423)) (mCons (mC (.int 2147483399)) (mCons (mC (.int 2147483353)) (mCons (mC (.int 2147483323)) mNil))))))) (gNm 2))
 (sSeq (sAsg (m2 modD (m2 powD (m2 addD (m2 addD (m2 mulD (m2 modD (mVar 0) (mC (.int 1000000007))) (m2 addD (m2 mulD (mC (.int 2)) (mVar 1)) (mC (.int 69069)))) (m2 mulD (mVar 1) (mC (.int 40503)))) (mC (.int 977))) (mC (.int 3))) (m2 ixD (mVar 2) (m2 modD (mVar 1) (mC (.int 13))))) (gNm 3))
 (sSeq (sAsg (m2 modD (m2 powD (m2 addD (m2 addD (m2 mulD (mVar 3) (m2 addD (mVar 1) (mC (.int 3)))) (m2 modD (mVar 0) (mC (.int 65537)))) (mC (.int 5))) (mC (.int 5))) (m2 ixD (mVar 2) (m2 modD (m2 addD (mVar 1) (mC (.int 5))) (mC (.int 13))))) (gNm 4))
 (sSeq (sAsg (m2 modD (m2 powD (m2 addD (m2 addD (mVar 4) (m2 modD (mVar 3) (mC (.int 1009)))) (mVar 1)) (mC (.int 3))) (m2 ixD (mVar 2) (m2 modD (m2 addD (mVar 1) (mC (.int 7))) (mC (.int 13))))) (gNm 5))
 (sRet (m2 addD (m2 mulD (m2 addD (m2 mulD (mVar 3) (mC (.int 2147483647))) (mVar 4)) (mC (.int 2147483647))) (mVar 5)))))))))
noncomputable def F__law_spread : List D → Store → R D := fnD 6 2 b__law_spread
/-! ### _law_take: 0=_law_pen 1=_law_amount 2=_law_at 3=_law_cell 4=_law_found -/
noncomputable def b__law_take : MS :=
 (sSeq (sIf (tB1 (m2 ltD (m2 ixD (mVar 0) (mC (.int 2))) (mVar 1)))
 (sSeq (sAsg (m2 ixD (mVar 0) (mC (.int 1))) (gNm 2))
 (sSeq (sAsg (mC (.int 0)) (gNm 3))
 (sSeq (sIf (tB1 (m2 ltD (mVar 2) (mCall lenD (mCons (m2 ixD (mVar 0) (mC (.int 0))) mNil))))
 (sAsg (m2 ixD (m2 ixD (mVar 0) (mC (.int 0))) (mVar 2)) (gNm 3))
 (sIf (tB1 (m2 gtD (mCall lenD (mCons (m2 ixD (mVar 0) (mC (.int 0))) mNil)) (mC (.int 0))))
 (sAsg (m2 modD (m2 ixD (m2 ixD (mVar 0) (mC (.int 0))) (m2 modD (m2 addD (m2 mulD (mVar 2) (mC (.int 5))) (mC (.int 3))) (mCall lenD (mCons (m2 ixD (mVar 0) (mC (.int 0))) mNil)))) (m2 addD (m2 powD (mC (.int 10)) (mC (.int 17))) (mVar 2))) (gNm 3))
 sSkip))
 (sSeq (sAsg (m2 addD (mVar 2) (mC (.int 1))) (gSb (mVar 0) (mC (.int 1))))
 (sAsg (mCall (callN 2 F__law_spread) (mCons (mVar 3) (mCons (mVar 2) mNil))) (gSb (mVar 0) (mC (.int 2))))))))
 sSkip)
 (sSeq (sAsg (m2 modD (m2 ixD (mVar 0) (mC (.int 2))) (mVar 1)) (gNm 4))
 (sSeq (sAsg (m2 fdivD (m2 ixD (mVar 0) (mC (.int 2))) (mVar 1)) (gSb (mVar 0) (mC (.int 2))))
 (sRet (mVar 4)))))
noncomputable def F__law_take : List D → Store → R D := fnD 5 2 b__law_take
/-! ### _law_same: 0=_law_found 1=_law_due 2=_law_one 3=_law_other -/
noncomputable def b__law_same (R : List D → Store → R D) : MS :=
 (sSeq (sIf (tOr (tB1 (m2 (isD false) (mVar 1) (mC .non))) (tB1 (m2 (isD false) (mVar 0) (mC .non))))
 (sRet (mAnd (m2 (isD false) (mVar 1) (mC .non)) (m2 (isD false) (mVar 0) (mC .non))))
 sSkip)
 (sSeq (sIf (tOr (tVal (m1 (isiD "bool") (mVar 1))) (tVal (m1 (isiD "bool") (mVar 0))))
 (sRet (mAnd (m1 (isiD "bool") (mVar 1)) (mAnd (m1 (isiD "bool") (mVar 0)) (m2 eqD (mVar 0) (mVar 1)))))
 sSkip)
 (sSeq (sIf (tVal (m1 (isi2D "int" "str") (mVar 1)))
 (sSeq (sIf (tB1 (m2 neD (m1 (isiD "int") (mVar 0)) (m1 (isiD "int") (mVar 1))))
 (sRet (mC (.bl false)))
 sSkip)
 (sRet (mAnd (m1 (isi2D "int" "str") (mVar 0)) (m2 eqD (mVar 0) (mVar 1)))))
 sSkip)
 (sSeq (sIf (tOr (tB1 (m2 neD (m1 (isiD "tuple") (mVar 1)) (m1 (isiD "tuple") (mVar 0)))) (tB1 (m2 neD (m1 (isiD "list") (mVar 1)) (m1 (isiD "list") (mVar 0)))))
 (sRet (mC (.bl false)))
 sSkip)
 (sSeq (sIf (tB1 (m2 neD (mCall lenD (mCons (mVar 0) mNil)) (mCall lenD (mCons (mVar 1) mNil))))
 (sRet (mC (.bl false)))
 sSkip)
 (sRet (m2 ninD (mC (.bl false)) (mLc (mZip (mVar 0) (mVar 1)) (gTp 2 (gCons' (gNm 2) (gCons' (gNm 3) gNil'))) tYes' (mCall (callN 2 R) (mCons (mVar 2) (mCons (mVar 3) mNil))) [2, 3]))))))))
noncomputable def F__law_sameR : Nat → List D → Store → R D
  | 0 => fun _ _ => .stuck
  | k + 1 => fnD 4 2 (b__law_same (F__law_sameR k))
noncomputable def F__law_same : List D → Store → R D := F__law_sameR 12
/-! ### _law_draw_alphabet: 0=_law_pen 1=_law_size 2=_law_pool 3=_law_first 4=_law_stride 5=_law_k -/
noncomputable def b__law_draw_alphabet : MS :=
 (sSeq (sIf (tB1 (m2 eqD (mCall (callN 2 F__law_take) (mCons (mVar 0) (mCons (mC (.int 8)) mNil))) (mC (.int 0))))
 (sRet (m2 ixD (mLst (mCons (mC (.str "A")) (mCons (mC (.str "Aa")) (mCons (mC (.str "AZa")) mNil)))) (m2 subD (mVar 1) (mC (.int 1)))))
 sSkip)
 (sSeq (sAsg (mC (.str "!\"#$&'()*+,-./0123456789:;<=>?@ABCDEFGHIJKLMNOPQRSTUVWXYZ[\\]^_`abcdefghijklmnopqrstuvwxyz{|}~")) (gNm 2))
 (sSeq (sAsg (mTup (mCons (mCall (callN 2 F__law_take) (mCons (mVar 0) (mCons (mCall lenD (mCons (mVar 2) mNil)) mNil))) (mCons (m2 addD (mC (.int 1)) (m2 mulD (mC (.int 2)) (mCall (callN 2 F__law_take) (mCons (mVar 0) (mCons (mC (.int 9)) mNil))))) mNil))) (gTp 2 (gCons' (gNm 3) (gCons' (gNm 4) gNil'))))
 (sRet (mBM "str" joinD (mC (.str "")) (mCons (mSortSet (mLc (mRange1 (mVar 1)) (gNm 5) tYes' (m2 ixD (mVar 2) (m2 modD (m2 addD (mVar 3) (m2 mulD (mVar 4) (mVar 5))) (mCall lenD (mCons (mVar 2) mNil)))) [5])) mNil))))))
noncomputable def F__law_draw_alphabet : List D → Store → R D := fnD 6 2 b__law_draw_alphabet
/-! ### _law_draw_text: 0=_law_pen 1=_law_alphabet 2=_law_most 3=_law_k -/
noncomputable def b__law_draw_text : MS :=
 (sRet (mBM "str" joinD (mC (.str "")) (mCons (mLc (mRange1 (mCall (callN 2 F__law_take) (mCons (mVar 0) (mCons (m2 addD (mVar 2) (mC (.int 1))) mNil)))) (gNm 3) tYes' (m2 ixD (mVar 1) (mCall (callN 2 F__law_take) (mCons (mVar 0) (mCons (mCall lenD (mCons (mVar 1) mNil)) mNil)))) [3]) mNil)))
noncomputable def F__law_draw_text : List D → Store → R D := fnD 4 3 b__law_draw_text
/-! ### _law_draw_short: 0=_law_pen -/
noncomputable def b__law_draw_short : MS :=
 (sRet (m2 ixD (mLst (mCons (mC (.str "")) (mCons (mC (.str "")) (mCons (mC (.str "x")) (mCons (mC (.str "y")) (mCons (mC (.str "xx")) (mCons (mC (.str "xy")) (mCons (mC (.str "yx")) (mCons (mC (.str "xyyx")) (mCons (mC (.str "yyyyy")) (mCons (mC (.str "X")) (mCons (mC (.str "xX")) (mCons (mC (.str "x1,")) mNil))))))))))))) (mCall (callN 2 F__law_take) (mCons (mVar 0) (mCons (mC (.int 12)) mNil)))))
noncomputable def F__law_draw_short : List D → Store → R D := fnD 1 1 b__law_draw_short
/-! ### _law_draw_machine: 0=_law_pen 1=_law_alphabet 2=_law_size 3=_law_amount 4=_law_states 5=_law_index 6=_law_steps 7=_law_letter -/
noncomputable def b__law_draw_machine : MS :=
 (sSeq (sAsg (mTup (mCons (m2 addD (mC (.int 1)) (mCall (callN 2 F__law_take) (mCons (mVar 0) (mCons (mVar 2) mNil)))) (mCons (mLst mNil) mNil))) (gTp 2 (gCons' (gNm 3) (gCons' (gNm 4) gNil'))))
 (sSeq (sFor (mRange1 (mVar 3)) (gNm 5)
 (sSeq (sAsg (mCall tupD (mCons (mLc (mIt (mVar 1)) (gNm 7) tYes' (mTup (mCons (mCall (callN 1 F__law_draw_short) (mCons (mVar 0) mNil)) (mCons (mCall (callN 2 F__law_take) (mCons (mVar 0) (mCons (mVar 3) mNil))) mNil))) [7]) mNil)) (gNm 6))
 (sExpr (mBM "list" appendD (mVar 4) (mCons (mTup (mCons (mVar 6) (mCons (mTup (mCons (mCall (callN 1 F__law_draw_short) (mCons (mVar 0) mNil)) (mCons (m2 ixD (mLst (mCons (mC (.str "halt")) (mCons (mC (.str "halt")) (mCons (mC (.str "halt")) (mCons (mC (.str "fault")) mNil))))) (mCall (callN 2 F__law_take) (mCons (mVar 0) (mCons (mC (.int 4)) mNil)))) mNil))) mNil))) mNil)))))
 (sRet (mTup (mCons (mVar 1) (mCons (mCall (callN 1 F__law_draw_short) (mCons (mVar 0) mNil)) (mCons (mCall tupD (mCons (mVar 4) mNil)) mNil)))))))
noncomputable def F__law_draw_machine : List D → Store → R D := fnD 8 3 b__law_draw_machine
/-! ### _law_outcome: 0=_law_machine 1=_law_text 2=_law_output 3=_law_index 4=_law_letter 5=_law_emitted 6=_law_last 7=_law_ending -/
noncomputable def b__law_outcome : MS :=
 (sSeq (sPar 2 3 (mCons (m2 ixD (mVar 0) (mC (.int 1))) (mCons (mC (.int 0)) mNil)))
 (sSeq (sFor (mIt (mVar 1)) (gNm 4)
 (sSeq (sAsg (m2 ixD (m2 ixD (m2 ixD (m2 ixD (mVar 0) (mC (.int 2))) (mVar 3)) (mC (.int 0))) (mBM "str" sindexD (m2 ixD (mVar 0) (mC (.int 0))) (mCons (mVar 4) mNil))) (gTp 2 (gCons' (gNm 5) (gCons' (gNm 3) gNil'))))
 (sAsg (m2 addD (mVar 2) (mVar 5)) (gNm 2))))
 (sSeq (sAsg (m2 ixD (m2 ixD (m2 ixD (mVar 0) (mC (.int 2))) (mVar 3)) (mC (.int 1))) (gTp 2 (gCons' (gNm 6) (gCons' (gNm 7) gNil'))))
 (sRet (mTup (mCons (m2 addD (mVar 2) (mVar 6)) (mCons (mVar 7) mNil)))))))
noncomputable def F__law_outcome : List D → Store → R D := fnD 8 2 b__law_outcome
/-! ### _law_is_index: 0=_law_value 1=_law_size -/
noncomputable def b__law_is_index : MS :=
 (sRet (mAnd (m1 (isiD "int") (mVar 0)) (mAnd (mNotV (m1 (isiD "bool") (mVar 0))) (mChain leD ltD (mC (.int 0)) (mVar 0) (mVar 1)))))
noncomputable def F__law_is_index : List D → Store → R D := fnD 2 2 b__law_is_index
/-! ### _law_is_text: 0=_law_value 1=_law_sign -/
noncomputable def b__law_is_text : MS :=
 (sRet (mAnd (m1 (isiD "str") (mVar 0)) (m2 eqD (mLc (mIt (mVar 0)) (gNm 1) (tNot (tB1 (mChain leD leD (mC (.str "!")) (mVar 1) (mC (.str "~"))))) (mVar 1) [1]) (mLst mNil))))
noncomputable def F__law_is_text : List D → Store → R D := fnD 2 1 b__law_is_text
/-! ### _law_is_pair: 0=_law_value -/
noncomputable def b__law_is_pair : MS :=
 (sRet (mAnd (m1 (isiD "tuple") (mVar 0)) (m2 eqD (mCall lenD (mCons (mVar 0) mNil)) (mC (.int 2)))))
noncomputable def F__law_is_pair : List D → Store → R D := fnD 1 1 b__law_is_pair
/-! ### _law_is_state: 0=_law_value 1=_law_letters 2=_law_size 3=_law_step -/
noncomputable def b__law_is_state : MS :=
 (sSeq (sIf (tOr (tNot (tVal (mCall (callN 1 F__law_is_pair) (mCons (mVar 0) mNil)))) (tOr (tNot (tVal (m1 (isiD "tuple") (m2 ixD (mVar 0) (mC (.int 0)))))) (tB1 (m2 neD (mCall lenD (mCons (m2 ixD (mVar 0) (mC (.int 0))) mNil)) (mVar 1)))))
 (sRet (mC (.bl false)))
 sSkip)
 (sSeq (sFor (mIt (m2 ixD (mVar 0) (mC (.int 0)))) (gNm 3)
 (sIf (tOr (tNot (tVal (mCall (callN 1 F__law_is_pair) (mCons (mVar 3) mNil)))) (tOr (tNot (tVal (mCall (callN 1 F__law_is_text) (mCons (m2 ixD (mVar 3) (mC (.int 0))) mNil)))) (tNot (tVal (mCall (callN 2 F__law_is_index) (mCons (m2 ixD (mVar 3) (mC (.int 1))) (mCons (mVar 2) mNil)))))))
 (sRet (mC (.bl false)))
 sSkip))
 (sRet (mAnd (mCall (callN 1 F__law_is_pair) (mCons (m2 ixD (mVar 0) (mC (.int 1))) mNil)) (mAnd (mCall (callN 1 F__law_is_text) (mCons (m2 ixD (m2 ixD (mVar 0) (mC (.int 1))) (mC (.int 0))) mNil)) (m2 inD (mRepr (m2 ixD (m2 ixD (mVar 0) (mC (.int 1))) (mC (.int 1)))) (mLst (mCons (mC (.str "'halt'")) (mCons (mC (.str "'fault'")) mNil)))))))))
noncomputable def F__law_is_state : List D → Store → R D := fnD 4 3 b__law_is_state
/-! ### _law_is_machine: 0=_law_value 1=_law_one -/
noncomputable def b__law_is_machine : MS :=
 (sSeq (sIf (tOr (tNot (tVal (m1 (isiD "tuple") (mVar 0)))) (tOr (tB1 (m2 neD (mCall lenD (mCons (mVar 0) mNil)) (mC (.int 3)))) (tOr (tNot (tVal (mCall (callN 1 F__law_is_text) (mCons (m2 ixD (mVar 0) (mC (.int 0))) mNil)))) (tNot (tVal (mCall (callN 1 F__law_is_text) (mCons (m2 ixD (mVar 0) (mC (.int 1))) mNil)))))))
 (sRet (mC (.bl false)))
 sSkip)
 (sSeq (sIf (tOr (tNot (tB1 (mChain leD leD (mC (.int 1)) (mCall lenD (mCons (m2 ixD (mVar 0) (mC (.int 0))) mNil)) (mC (.int 3))))) (tB1 (m2 neD (mCall listD (mCons (m2 ixD (mVar 0) (mC (.int 0))) mNil)) (mSortSet (m2 ixD (mVar 0) (mC (.int 0)))))))
 (sRet (mC (.bl false)))
 sSkip)
 (sSeq (sIf (tOr (tNot (tVal (m1 (isiD "tuple") (m2 ixD (mVar 0) (mC (.int 2)))))) (tB1 (m2 eqD (m2 ixD (mVar 0) (mC (.int 2))) (mTup mNil))))
 (sRet (mC (.bl false)))
 sSkip)
 (sRet (m2 ninD (mC (.bl false)) (mLc (mIt (m2 ixD (mVar 0) (mC (.int 2)))) (gNm 1) tYes' (mCall (callN 3 F__law_is_state) (mCons (mVar 1) (mCons (mCall lenD (mCons (m2 ixD (mVar 0) (mC (.int 0))) mNil)) (mCons (mCall lenD (mCons (m2 ixD (mVar 0) (mC (.int 2))) mNil)) mNil)))) [1]))))))
noncomputable def F__law_is_machine : List D → Store → R D := fnD 2 1 b__law_is_machine
/-! ### _law_bend: 0=_law_pen 1=_law_value 2=_law_some 3=_law_k 4=_law_way -/
noncomputable def b__law_bend (R : List D → Store → R D) : MS :=
 (sSeq (sIf (tOr (tNot (tVal (m1 (isiD "tuple") (mVar 1)))) (tOr (tB1 (m2 eqD (mVar 1) (mTup mNil))) (tB1 (m2 eqD (mCall (callN 2 F__law_take) (mCons (mVar 0) (mCons (mC (.int 7)) mNil))) (mC (.int 0))))))
 (sSeq (sAsg (mLst (mCons (mC .non) (mCons (mC (.bl true)) (mCons (mC (.bl false)) (mCons (mC (.int 0)) (mCons (mC (.int 1)) (mCons (mC (.int 5)) (mCons (mC (.int 6)) (mCons (m1 negD (mC (.int 1))) (mCons (mC (.str "")) (mCons (mC (.str "a")) (mCons (mC (.str "ba")) (mCons (mC (.str "a b")) (mCons (mC (.str "~!")) (mCons (mC (.str "halt")) (mCons (mC (.str "fault")) (mCons (mC (.str "stop")) (mCons (mTup mNil) (mCons (mLst mNil) (mCons mDict0 mNil)))))))))))))))))))) (gNm 2))
 (sRet (m2 ixD (m2 addD (mVar 2) (mLst (mCons (mC (.str "\n")) (mCons (mC (.str "x\n")) (mCons (mC (.str "\t")) mNil))))) (mCall (callN 2 F__law_take) (mCons (mVar 0) (mCons (mC (.int 22)) mNil))))))
 sSkip)
 (sSeq (sPar 3 4 (mCons (mCall (callN 2 F__law_take) (mCons (mVar 0) (mCons (mCall lenD (mCons (mVar 1) mNil)) mNil))) (mCons (mCall (callN 2 F__law_take) (mCons (mVar 0) (mCons (mC (.int 11)) mNil))) mNil)))
 (sSeq (sIf (tB1 (m2 ltD (mVar 4) (mC (.int 8))))
 (sRet (m2 addD (m2 addD (mSl (mVar 1) pN (pS (mVar 3))) (mTup (mCons (mCall (callN 2 R) (mCons (mVar 0) (mCons (m2 ixD (mVar 1) (mVar 3)) mNil))) mNil))) (mSl (mVar 1) (pS (m2 addD (mVar 3) (mC (.int 1)))) pN)))
 sSkip)
 (sRet (m2 ixD (mLst (mCons (m2 addD (mSl (mVar 1) pN (pS (mVar 3))) (mSl (mVar 1) (pS (m2 addD (mVar 3) (mC (.int 1)))) pN)) (mCons (m2 addD (mSl (mVar 1) pN (pS (m2 addD (mVar 3) (mC (.int 1))))) (mSl (mVar 1) (pS (mVar 3)) pN)) (mCons (mCall listD (mCons (mVar 1) mNil)) mNil)))) (m2 subD (mVar 4) (mC (.int 8))))))))
noncomputable def F__law_bendR : Nat → List D → Store → R D
  | 0 => fun _ _ => .stuck
  | k + 1 => fnD 5 2 (b__law_bend (F__law_bendR k))
noncomputable def F__law_bend : List D → Store → R D := F__law_bendR 12
/-! ### law: 0=_law_script 1=_law_pen 2=_law_turn 3=_law_machine 4=_law_again 5=_law_values 6=_law_wrong 7=_law_value 8=_law_seen 9=_law_text -/
noncomputable def b_law : MS :=
 (sSeq (sAsg (mCall (callN 1 F__law_open) (mCons (mVar 0) mNil)) (gNm 1))
 (sSeq (sFor (mRange1 (mC (.int 5))) (gNm 2)
 (sSeq (sAsg (mCall (callN 3 F__law_draw_machine) (mCons (mVar 1) (mCons (mCall (callN 2 F__law_draw_alphabet) (mCons (mVar 1) (mCons (m2 addD (mC (.int 1)) (mCall (callN 2 F__law_take) (mCons (mVar 1) (mCons (mC (.int 3)) mNil)))) mNil))) (mCons (mC (.int 6)) mNil)))) (gNm 3))
 (sSeq (sIf (tB1 (m2 (isD true) (mCall (callN 1 F_is_machine) (mCons (mVar 3) mNil)) (mC (.bl true))))
 (sRet (mC (.bl false)))
 sSkip)
 (sSeq (sAsg (m2 addD (mLst (mCons (mVar 3) mNil)) (mLc (mRange1 (mC (.int 9))) (gNm 4) tYes' (mCall (callN 2 F__law_bend) (mCons (mVar 1) (mCons (mVar 3) mNil))) [4])) (gNm 5))
 (sSeq (sExpr (mBM "list" appendD (mVar 5) (mCons (mCall (callN 2 F__law_bend) (mCons (mVar 1) (mCons (m2 ixD (mVar 5) (m1 negD (mC (.int 1)))) mNil))) mNil)))
 (sSeq (sExpr (mBM "list" appendD (mVar 5) (mCons (mTup (mCons (m2 ixD (mVar 3) (mC (.int 0))) (mCons (m2 mulD (mC (.str "xy")) (mC (.int 40))) (mCons (m2 mulD (m2 ixD (mVar 3) (mC (.int 2))) (mC (.int 60))) mNil)))) mNil)))
 (sSeq (sExpr (mBM "list" appendD (mVar 5) (mCons (mTup (mCons (mC (.str "a")) (mCons (mC (.str "")) (mCons (m2 mulD (mTup (mCons (mTup (mCons (mTup (mCons (mTup (mCons (m2 mulD (mC (.str "x")) (mC (.int 80))) (mCons (mC (.int 0)) mNil))) mNil)) (mCons (mTup (mCons (m2 mulD (mC (.str "y")) (mC (.int 80))) (mCons (mC (.str "halt")) mNil))) mNil))) mNil)) (mC (.int 301))) mNil)))) mNil)))
 (sSeq (sAsg (m2 addD (mVar 5) (mLst (mCons (mCall (callN 3 F__law_draw_machine) (mCons (mVar 1) (mCons (mC (.str "abcd")) (mCons (mC (.int 2)) mNil)))) (mCons (mTup (mCons (mTup (mCons (m2 ixD (mVar 3) (mC (.int 0))) mNil)) (mCons (m2 ixD (mVar 3) (mC (.int 1))) (mCons (m2 ixD (mVar 3) (mC (.int 2))) mNil)))) mNil)))) (gNm 5))
 (sSeq (sAsg (m2 ixD (mLst (mCons (mC (.str "acb")) (mCons (mC (.str "aab")) (mCons (mC (.str " a")) (mCons (mC (.str "ba")) (mCons (mC (.str "aa")) (mCons (mC (.str "a ")) mNil))))))) (mCall (callN 2 F__law_take) (mCons (mVar 1) (mCons (mC (.int 6)) mNil)))) (gNm 6))
 (sSeq (sAsg (m2 addD (mVar 5) (mLst (mCons (mCall (callN 3 F__law_draw_machine) (mCons (mVar 1) (mCons (mVar 6) (mCons (mC (.int 2)) mNil)))) (mCons (mTup (mCons (mCall listD (mCons (m2 ixD (mVar 3) (mC (.int 0))) mNil)) (mCons (m2 ixD (mVar 3) (mC (.int 1))) (mCons (m2 ixD (mVar 3) (mC (.int 2))) mNil)))) mNil)))) (gNm 5))
 (sSeq (sFor (mIt (mVar 5)) (gNm 7)
 (sSeq (sAsg (mRepr (mVar 7)) (gNm 8))
 (sIf (tOr (tNot (tVal (mCall (callN 2 F__law_same) (mCons (mCall (callN 1 F_is_machine) (mCons (mVar 7) mNil)) (mCons (mCall (callN 1 F__law_is_machine) (mCons (mVar 7) mNil)) mNil))))) (tB1 (m2 neD (mRepr (mVar 7)) (mVar 8))))
 (sRet (mC (.bl false)))
 sSkip)))
 (sFor (mRange1 (mC (.int 3))) (gNm 4)
 (sSeq (sAsg (m2 mulD (mCall (callN 3 F__law_draw_text) (mCons (mVar 1) (mCons (m2 ixD (mVar 3) (mC (.int 0))) (mCons (mC (.int 6)) mNil)))) (m2 ixD (mLst (mCons (mC (.int 1)) (mCons (mC (.int 1)) (mCons (mC (.int 300)) mNil)))) (mCall (callN 2 F__law_take) (mCons (mVar 1) (mCons (mC (.int 3)) mNil))))) (gNm 9))
 (sIf (tNot (tVal (mCall (callN 2 F__law_same) (mCons (mCall (callN 2 F_run_machine) (mCons (mVar 3) (mCons (mVar 9) mNil))) (mCons (mCall (callN 2 F__law_outcome) (mCons (mVar 3) (mCons (mVar 9) mNil))) mNil)))))
 (sRet (mC (.bl false)))
 sSkip))))))))))))))
 (sRet (mC (.bl true)))))
noncomputable def F_law : List D → Store → R D := fnD 10 1 b_law
end K50
end
section
set_option Elab.async false
set_option linter.all false
set_option maxRecDepth 100000
set_option maxHeartbeats 400000
/-! K50: run_machine and _law_outcome answer alike. -/
namespace K50
open PySem PySem.Spec PyProof.Rows L2 Mp Pen
def posOf (al : Str) (c : Nat) : Nat := (Builtin.Str.occurrences al (sg c) 0 al.length 1).headD 0
theorem idx_ok {al : Str} {c : Nat} {st : Store} {Q : D → Store → Prop} (h : c ∈ al.cps.toList) (q : posOf al c < al.cps.toList.length → Q (.int (posOf al c : Nat)) st) : Ok (sindexD (.str al) [.str (sg c)] st) Q := by
  have h1 := StrLaws.found_one al c
  rw [decide_eq_true h] at h1
  have h2 : ∀ i ∈ Builtin.Str.occurrences al (sg c) 0 al.length 1, i + 1 ≤ al.length := fun i hi => (StrLaws.occ_spec al (sg c) 0 al.length 1 i hi).1
  unfold sindexD
  unfold posOf at q
  show Ok (match Builtin.Str.occurrences al (sg c) 0 al.length 1 with
    | i :: _ => .ok (.int (i : Nat)) st
    | [] => .stuck) Q
  have h1 : (!(Builtin.Str.occurrences al (sg c) 0 al.length 1).isEmpty) = true := h1
  cases e : Builtin.Str.occurrences al (sg c) 0 al.length 1 with
  | nil => rw [e] at h1; cases h1
  | cons i r =>
    rw [e] at q h2
    have := h2 i List.mem_cons_self
    rw [cps_len] at this
    exact q (by simpa using Nat.lt_of_succ_le this)
def nth (sts : List Pen.SD) (k : Int) : Pen.SD := sts[k.toNat]?.getD ([], "", "")
def stepAt (sts : List Pen.SD) (k : Int) (j : Nat) : Str × Int := (nth sts k).1[j]?.getD ("", 0)
def runF (al : Str) (sts : List Pen.SD) : List Nat → Str × Int → Str × Int
  | [], x => x
  | c :: cs, x => runF al sts cs (x.1 ++ (stepAt sts x.2 (posOf al c)).1, (stepAt sts x.2 (posOf al c)).2)
def outc (al p : Str) (sts : List Pen.SD) (tx : Str) : D :=
  .tup [.str ((runF al sts tx.cps.toList (p, 0)).1 ++ (nth sts (runF al sts tx.cps.toList (p, 0)).2).2.1), .str (nth sts (runF al sts tx.cps.toList (p, 0)).2).2.2]
theorem runF_snoc (al : Str) (sts : List Pen.SD) : ∀ (cs : List Nat) (c : Nat) (x : Str × Int), runF al sts (cs ++ [c]) x = ((runF al sts cs x).1 ++ (stepAt sts (runF al sts cs x).2 (posOf al c)).1, (stepAt sts (runF al sts cs x).2 (posOf al c)).2)
  | [], _, _ => rfl
  | c0 :: cs, c, x => by
    show runF al sts (cs ++ [c]) _ = _
    rw [runF_snoc al sts cs c]
    rfl
theorem short_len {s : Str} (h : s ∈ shorts) : s.length ≤ 5 := by
  revert s
  decide +kernel
theorem ix_tup {xs : List D} {i : Int} {st : Store} {Q : D → Store → Prop} (i0 : 0 ≤ i) (i1 : i < xs.length) (q : ∀ d, xs[i.toNat]? = some d → Q d st) : Ok (ixD (.tup xs) (.int i) st) Q := by
  have hl : i.toNat < xs.length := by omega
  have e : atI xs i = some xs[i.toNat] := by
    unfold atI ixN
    rw [if_pos i0, if_pos i1]
    exact List.getElem?_eq_getElem hl
  unfold ixD
  simp only [e]
  exact q _ (List.getElem?_eq_getElem hl)
theorem ixt0 {a : D} {xs : List D} {st : Store} {Q : D → Store → Prop} : Ok (ixD (.tup (a :: xs)) (.int 0) st) Q = Q a st := by
  unfold ixD atI ixN
  simp [optR]
theorem ixt1 {a b : D} {xs : List D} {st : Store} {Q : D → Store → Prop} : Ok (ixD (.tup (a :: b :: xs)) (.int 1) st) Q = Q b st := by
  have : atI (a :: b :: xs) 1 = some b := by
    unfold atI ixN
    rw [if_pos (by omega), if_pos (by simp; omega)]; rfl
  unfold ixD
  simp only [this]
  rfl
theorem ixt2 {a b c : D} {xs : List D} {st : Store} {Q : D → Store → Prop} : Ok (ixD (.tup (a :: b :: c :: xs)) (.int 2) st) Q = Q c st := by
  have : atI (a :: b :: c :: xs) 2 = some c := by
    unfold atI ixN
    rw [if_pos (by omega), if_pos (by simp; omega)]; rfl
  unfold ixD
  simp only [this]
  rfl
/-- a state by its index -/
theorem ix_st {sts : List Pen.SD} {k : Int} {st : Store} {Q : D → Store → Prop} (k0 : 0 ≤ k) (k1 : k < sts.length) (q : nth sts k ∈ sts → Q (stD (nth sts k)) st) : Ok (ixD (.tup (sts.map stD)) (.int k) st) Q := by
  refine ix_tup k0 (by rw [List.length_map]; exact k1) fun d hd => ?_
  rw [List.getElem?_map] at hd
  obtain ⟨s, hs, rfl⟩ := Option.map_eq_some_iff.mp hd
  have e : nth sts k = s := by unfold nth; rw [hs]; rfl
  rw [e] at q
  exact q (List.mem_of_getElem? hs)
theorem ix_step {sts : List Pen.SD} {k : Int} {j : Nat} {st : Store} {Q : D → Store → Prop} (hj : j < (nth sts k).1.length) (q : stepAt sts k j ∈ (nth sts k).1 → Q (stepD (stepAt sts k j)) st) : Ok (ixD (.tup ((nth sts k).1.map stepD)) (.int (j : Nat)) st) Q := by
  refine ix_tup (by omega) (by rw [List.length_map]; omega) fun d hd => ?_
  rw [List.getElem?_map] at hd
  obtain ⟨s, hs, rfl⟩ := Option.map_eq_some_iff.mp hd
  have e : stepAt sts k j = s := by
    unfold stepAt
    rw [show ((j : Nat) : Int).toNat = j by omega] at hs
    rw [hs]; rfl
  rw [e] at q
  exact q (List.mem_of_getElem? hs)

theorem add_str {a b : Str} {st : Store} {Q : D → Store → Prop} (h : a.length + b.length ≤ sizeLine) (q : Q (.str (a ++ b)) st) : Ok (addD (.str a) (.str b) st) Q := by
  unfold addD
  simp only
  rw [if_pos h]
  exact q
theorem iadd_str {a b : Str} {st : Store} {Q : D → Store → Prop} (h : a.length + b.length ≤ sizeLine) (q : Q (.str (a ++ b)) st) : Ok (iaddD (.str a) (.str b) st) Q := by
  unfold iaddD
  simp only
  rw [if_pos h]
  exact q
theorem app_len (a b : Str) : (a ++ b).length = a.length + b.length := by
  rw [cps_len, cps_len, cps_len, append_cps, List.length_append]
/-- what a run keeps -/
def RunOk (al : Str) (sts : List Pen.SD) (n : Nat) (x : Str × Int) : Prop := x.1.length ≤ 5 + 5 * n ∧ 0 ≤ x.2 ∧ x.2 < sts.length
theorem run_step {al : Str} {sts : List Pen.SD} {n c : Nat} {x : Str × Int} (hst : ∀ s ∈ sts, StOk al.cps.toList.length sts.length s) (h : RunOk al sts n x) (hn : nth sts x.2 ∈ sts) (hm : stepAt sts x.2 (posOf al c) ∈ (nth sts x.2).1) :
    RunOk al sts (n + 1) (x.1 ++ (stepAt sts x.2 (posOf al c)).1, (stepAt sts x.2 (posOf al c)).2) := by
  obtain ⟨h1, h2, h3⟩ := hst _ hn
  obtain ⟨s1, s2, s3⟩ := h2 _ hm
  have := short_len s1
  refine ⟨?_, s2, s3⟩
  simp only
  rw [app_len]
  have := h.1
  omega
section
variable {al p : Str} {sts : List Pen.SD} {tx : Str} {st : Store}
theorem run_ok (hp : p ∈ shorts) (h1 : 1 ≤ sts.length) (hst : ∀ s ∈ sts, StOk al.cps.toList.length sts.length s) (htx : ∀ c ∈ tx.cps.toList, c ∈ al.cps.toList) (hz : tx.cps.toList.length ≤ 100000) :
    Ok (F_run_machine [machD al p sts, .str tx] st) fun d st' => d = outc al p sts tx ∧ st' = st := by
  unfold F_run_machine
  rw [Ok_fn]
  refine ⟨rfl, ?_⟩
  unfold b_run_machine machD
  simp only [wS_seq, wS_if, wS_asg, wS_ret, wS_expr, wS_skip, wS_par, wS_retN, wS_brk, wS_cnt, wE_C, wE_v, slot_zero, slot_succ, wE_1, wE_2, wE_nil, wE_cons, wE_tup, wE_lst, wE_call, Ok_callN, wE_if, wE_tval, wE_tb1, wE_tand, wE_tor, wE_tnot, wE_and, wE_or, wE_not, wE_chain, wE_bm, wE_repr, wE_sl, wE_pN, wE_tyes, wE_it, wE_dict0, Ok_gNm, Ok_gTp, Ok_gNil, Ok_gCons, Ok_gSb, Ok_ok, isB_bl, truth_bl, List.set_cons_zero, List.set_cons_succ, List.map_cons, List.map_nil, List.cons_append, List.nil_append, List.replicate_succ, List.replicate_zero, List.length_cons, List.length_nil, wipeD, wE_pS, intOf_int, wE_enum, wE_sort, wE_range1]
  refine ⟨trivial, ?_⟩
  refine wS_for ?_
  simp only [wS_seq, wS_if, wS_asg, wS_ret, wS_expr, wS_skip, wS_par, wS_retN, wS_brk, wS_cnt, wE_C, wE_v, slot_zero, slot_succ, wE_1, wE_2, wE_nil, wE_cons, wE_tup, wE_lst, wE_call, Ok_callN, wE_if, wE_tval, wE_tb1, wE_tand, wE_tor, wE_tnot, wE_and, wE_or, wE_not, wE_chain, wE_bm, wE_repr, wE_sl, wE_pN, wE_tyes, wE_it, wE_dict0, Ok_gNm, Ok_gTp, Ok_gNil, Ok_gCons, Ok_gSb, Ok_ok, isB_bl, truth_bl, List.set_cons_zero, List.set_cons_succ, List.map_cons, List.map_nil, List.cons_append, List.nil_append, List.replicate_succ, List.replicate_zero, List.length_cons, List.length_nil, wipeD, wE_pS, intOf_int, wE_enum, wE_sort, wE_range1]
  show Ok (R.ok (⟨strItems tx, []⟩ : ItD) st) _
  simp only [Ok_ok]
  have hl : (strItems tx).length = tx.cps.toList.length := by unfold strItems; rw [List.length_map]
  have hpl := short_len hp
  refine ⟨fun i ds s => ∃ (o6 o7 o8 o9 : Option D), ds = [some (machD al p sts), some (.str tx), some (.str al), some (.str (runF al sts (tx.cps.toList.take i) (p, 0)).1), some (.tup (sts.map stD)), some (.int (runF al sts (tx.cps.toList.take i) (p, 0)).2), o6, o7, o8, o9] ∧ s = st ∧ RunOk al sts i (runF al sts (tx.cps.toList.take i) (p, 0)), ?_, ?_, ?_, ?_⟩
  · exact ⟨none, none, none, none, rfl, rfl, by show p.length ≤ 5 + 5 * 0; omega, by show (0 : Int) ≤ 0; omega, by show (0 : Int) < sts.length; omega⟩
  · exact fun i ds s _ p hp => nomatch hp
  · rintro i x ds s hx ⟨o6, o7, o8, o9, rfl, rfl, hr⟩
    unfold strItems at hx
    rw [List.getElem?_map] at hx
    obtain ⟨c, hc, rfl⟩ := Option.map_eq_some_iff.mp hx
    have hi := (List.getElem?_eq_some_iff.mp hc).1
    have etk : tx.cps.toList.take (i + 1) = tx.cps.toList.take i ++ [c] := by
      rw [List.take_add_one, hc]; rfl
    simp only [wS_seq, wS_if, wS_asg, wS_ret, wS_expr, wS_skip, wS_par, wS_retN, wS_brk, wS_cnt, wE_C, wE_v, slot_zero, slot_succ, wE_1, wE_2, wE_nil, wE_cons, wE_tup, wE_lst, wE_call, Ok_callN, wE_if, wE_tval, wE_tb1, wE_tand, wE_tor, wE_tnot, wE_and, wE_or, wE_not, wE_chain, wE_bm, wE_repr, wE_sl, wE_pN, wE_tyes, wE_it, wE_dict0, Ok_gNm, Ok_gTp, Ok_gNil, Ok_gCons, Ok_gSb, Ok_ok, isB_bl, truth_bl, List.set_cons_zero, List.set_cons_succ, List.map_cons, List.map_nil, List.cons_append, List.nil_append, List.replicate_succ, List.replicate_zero, List.length_cons, List.length_nil, wipeD, wE_pS, intOf_int, wE_enum, wE_sort, wE_range1, wS_aug]
    refine ix_st hr.2.1 hr.2.2 fun hm => ?_
    have hso := hst _ hm
    unfold stD
    rw [ixt0]
    refine ⟨rfl, ?_⟩
    refine idx_ok (htx c (List.mem_of_getElem? hc)) fun hj => ?_
    refine ix_step (by rw [hso.1]; exact hj) fun hm2 => ?_
    have hr2 := run_step (c := c) hst hr hm hm2
    unfold stepD
    simp only [wS_seq, wS_if, wS_asg, wS_ret, wS_expr, wS_skip, wS_par, wS_retN, wS_brk, wS_cnt, wE_C, wE_v, slot_zero, slot_succ, wE_1, wE_2, wE_nil, wE_cons, wE_tup, wE_lst, wE_call, Ok_callN, wE_if, wE_tval, wE_tb1, wE_tand, wE_tor, wE_tnot, wE_and, wE_or, wE_not, wE_chain, wE_bm, wE_repr, wE_sl, wE_pN, wE_tyes, wE_it, wE_dict0, Ok_gNm, Ok_gTp, Ok_gNil, Ok_gCons, Ok_gSb, Ok_ok, isB_bl, truth_bl, List.set_cons_zero, List.set_cons_succ, List.map_cons, List.map_nil, List.cons_append, List.nil_append, List.replicate_succ, List.replicate_zero, List.length_cons, List.length_nil, wipeD, wE_pS, intOf_int, wE_enum, wE_sort, wE_range1]
    refine ⟨trivial, ?_⟩
    refine iadd_str ?_ ?_
    · have := hr2.1
      simp only [app_len] at this
      rw [sizeLine_eq]; omega
    · rw [etk, runF_snoc]
      exact ⟨_, _, _, _, rfl, rfl, hr2⟩
  · rintro ds s ⟨o6, o7, o8, o9, rfl, rfl, hr⟩
    rw [hl] at hr ⊢
    rw [List.take_length] at hr ⊢
    simp only [wS_seq, wS_if, wS_asg, wS_ret, wS_expr, wS_skip, wS_par, wS_retN, wS_brk, wS_cnt, wE_C, wE_v, slot_zero, slot_succ, wE_1, wE_2, wE_nil, wE_cons, wE_tup, wE_lst, wE_call, Ok_callN, wE_if, wE_tval, wE_tb1, wE_tand, wE_tor, wE_tnot, wE_and, wE_or, wE_not, wE_chain, wE_bm, wE_repr, wE_sl, wE_pN, wE_tyes, wE_it, wE_dict0, Ok_gNm, Ok_gTp, Ok_gNil, Ok_gCons, Ok_gSb, Ok_ok, isB_bl, truth_bl, List.set_cons_zero, List.set_cons_succ, List.map_cons, List.map_nil, List.cons_append, List.nil_append, List.replicate_succ, List.replicate_zero, List.length_cons, List.length_nil, wipeD, wE_pS, intOf_int, wE_enum, wE_sort, wE_range1]
    refine ix_st hr.2.1 hr.2.2 fun hm => ?_
    have hso := hst _ hm
    unfold stD
    rw [ixt1]
    simp only [wS_seq, wS_if, wS_asg, wS_ret, wS_expr, wS_skip, wS_par, wS_retN, wS_brk, wS_cnt, wE_C, wE_v, slot_zero, slot_succ, wE_1, wE_2, wE_nil, wE_cons, wE_tup, wE_lst, wE_call, Ok_callN, wE_if, wE_tval, wE_tb1, wE_tand, wE_tor, wE_tnot, wE_and, wE_or, wE_not, wE_chain, wE_bm, wE_repr, wE_sl, wE_pN, wE_tyes, wE_it, wE_dict0, Ok_gNm, Ok_gTp, Ok_gNil, Ok_gCons, Ok_gSb, Ok_ok, isB_bl, truth_bl, List.set_cons_zero, List.set_cons_succ, List.map_cons, List.map_nil, List.cons_append, List.nil_append, List.replicate_succ, List.replicate_zero, List.length_cons, List.length_nil, wipeD, wE_pS, intOf_int, wE_enum, wE_sort, wE_range1]
    refine ⟨trivial, ?_⟩
    refine add_str ?_ ?_
    · have := short_len hso.2.2.1
      have := hr.1
      rw [sizeLine_eq]; omega
    · exact ⟨by rw [sizeLine_eq]; omega, rfl, rfl⟩
theorem outcome_ok (hp : p ∈ shorts) (h1 : 1 ≤ sts.length) (hst : ∀ s ∈ sts, StOk al.cps.toList.length sts.length s) (htx : ∀ c ∈ tx.cps.toList, c ∈ al.cps.toList) (hz : tx.cps.toList.length ≤ 100000) :
    Ok (F__law_outcome [machD al p sts, .str tx] st) fun d st' => d = outc al p sts tx ∧ st' = st := by
  unfold F__law_outcome
  rw [Ok_fn]
  refine ⟨rfl, ?_⟩
  unfold b__law_outcome machD
  simp only [wS_seq, wS_if, wS_asg, wS_ret, wS_expr, wS_skip, wS_par, wS_retN, wS_brk, wS_cnt, wE_C, wE_v, slot_zero, slot_succ, wE_1, wE_2, wE_nil, wE_cons, wE_tup, wE_lst, wE_call, Ok_callN, wE_if, wE_tval, wE_tb1, wE_tand, wE_tor, wE_tnot, wE_and, wE_or, wE_not, wE_chain, wE_bm, wE_repr, wE_sl, wE_pN, wE_tyes, wE_it, wE_dict0, Ok_gNm, Ok_gTp, Ok_gNil, Ok_gCons, Ok_gSb, Ok_ok, isB_bl, truth_bl, List.set_cons_zero, List.set_cons_succ, List.map_cons, List.map_nil, List.cons_append, List.nil_append, List.replicate_succ, List.replicate_zero, List.length_cons, List.length_nil, wipeD, wE_pS, intOf_int, wE_enum, wE_sort, wE_range1]
  rw [ixt1]
  refine wS_for ?_
  simp only [wS_seq, wS_if, wS_asg, wS_ret, wS_expr, wS_skip, wS_par, wS_retN, wS_brk, wS_cnt, wE_C, wE_v, slot_zero, slot_succ, wE_1, wE_2, wE_nil, wE_cons, wE_tup, wE_lst, wE_call, Ok_callN, wE_if, wE_tval, wE_tb1, wE_tand, wE_tor, wE_tnot, wE_and, wE_or, wE_not, wE_chain, wE_bm, wE_repr, wE_sl, wE_pN, wE_tyes, wE_it, wE_dict0, Ok_gNm, Ok_gTp, Ok_gNil, Ok_gCons, Ok_gSb, Ok_ok, isB_bl, truth_bl, List.set_cons_zero, List.set_cons_succ, List.map_cons, List.map_nil, List.cons_append, List.nil_append, List.replicate_succ, List.replicate_zero, List.length_cons, List.length_nil, wipeD, wE_pS, intOf_int, wE_enum, wE_sort, wE_range1]
  show Ok (R.ok (⟨strItems tx, []⟩ : ItD) st) _
  simp only [Ok_ok]
  have hl : (strItems tx).length = tx.cps.toList.length := by unfold strItems; rw [List.length_map]
  have hpl := short_len hp
  refine ⟨fun i ds s => ∃ (o4 o5 o6 o7 : Option D), ds = [some (machD al p sts), some (.str tx), some (.str (runF al sts (tx.cps.toList.take i) (p, 0)).1), some (.int (runF al sts (tx.cps.toList.take i) (p, 0)).2), o4, o5, o6, o7] ∧ s = st ∧ RunOk al sts i (runF al sts (tx.cps.toList.take i) (p, 0)), ?_, ?_, ?_, ?_⟩
  · exact ⟨none, none, none, none, rfl, rfl, by show p.length ≤ 5 + 5 * 0; omega, by show (0 : Int) ≤ 0; omega, by show (0 : Int) < sts.length; omega⟩
  · exact fun i ds s _ p hp => nomatch hp
  · rintro i x ds s hx ⟨o4, o5, o6, o7, rfl, rfl, hr⟩
    unfold strItems at hx
    rw [List.getElem?_map] at hx
    obtain ⟨c, hc, rfl⟩ := Option.map_eq_some_iff.mp hx
    have hi := (List.getElem?_eq_some_iff.mp hc).1
    have etk : tx.cps.toList.take (i + 1) = tx.cps.toList.take i ++ [c] := by
      rw [List.take_add_one, hc]; rfl
    unfold machD
    simp only [wS_seq, wS_if, wS_asg, wS_ret, wS_expr, wS_skip, wS_par, wS_retN, wS_brk, wS_cnt, wE_C, wE_v, slot_zero, slot_succ, wE_1, wE_2, wE_nil, wE_cons, wE_tup, wE_lst, wE_call, Ok_callN, wE_if, wE_tval, wE_tb1, wE_tand, wE_tor, wE_tnot, wE_and, wE_or, wE_not, wE_chain, wE_bm, wE_repr, wE_sl, wE_pN, wE_tyes, wE_it, wE_dict0, Ok_gNm, Ok_gTp, Ok_gNil, Ok_gCons, Ok_gSb, Ok_ok, isB_bl, truth_bl, List.set_cons_zero, List.set_cons_succ, List.map_cons, List.map_nil, List.cons_append, List.nil_append, List.replicate_succ, List.replicate_zero, List.length_cons, List.length_nil, wipeD, wE_pS, intOf_int, wE_enum, wE_sort, wE_range1]
    rw [ixt2]
    refine ix_st hr.2.1 hr.2.2 fun hm => ?_
    have hso := hst _ hm
    unfold stD
    rw [ixt0, ixt0]
    refine ⟨rfl, ?_⟩
    refine idx_ok (htx c (List.mem_of_getElem? hc)) fun hj => ?_
    refine ix_step (by rw [hso.1]; exact hj) fun hm2 => ?_
    have hr2 := run_step (c := c) hst hr hm hm2
    unfold stepD
    simp only [wS_seq, wS_if, wS_asg, wS_ret, wS_expr, wS_skip, wS_par, wS_retN, wS_brk, wS_cnt, wE_C, wE_v, slot_zero, slot_succ, wE_1, wE_2, wE_nil, wE_cons, wE_tup, wE_lst, wE_call, Ok_callN, wE_if, wE_tval, wE_tb1, wE_tand, wE_tor, wE_tnot, wE_and, wE_or, wE_not, wE_chain, wE_bm, wE_repr, wE_sl, wE_pN, wE_tyes, wE_it, wE_dict0, Ok_gNm, Ok_gTp, Ok_gNil, Ok_gCons, Ok_gSb, Ok_ok, isB_bl, truth_bl, List.set_cons_zero, List.set_cons_succ, List.map_cons, List.map_nil, List.cons_append, List.nil_append, List.replicate_succ, List.replicate_zero, List.length_cons, List.length_nil, wipeD, wE_pS, intOf_int, wE_enum, wE_sort, wE_range1]
    refine ⟨trivial, ?_⟩
    refine add_str ?_ ?_
    · have := hr2.1
      simp only [app_len] at this
      rw [sizeLine_eq]; omega
    · rw [etk, runF_snoc]
      exact ⟨_, _, _, _, rfl, rfl, hr2⟩
  · rintro ds s ⟨o4, o5, o6, o7, rfl, rfl, hr⟩
    rw [hl] at hr ⊢
    rw [List.take_length] at hr ⊢
    unfold machD
    simp only [wS_seq, wS_if, wS_asg, wS_ret, wS_expr, wS_skip, wS_par, wS_retN, wS_brk, wS_cnt, wE_C, wE_v, slot_zero, slot_succ, wE_1, wE_2, wE_nil, wE_cons, wE_tup, wE_lst, wE_call, Ok_callN, wE_if, wE_tval, wE_tb1, wE_tand, wE_tor, wE_tnot, wE_and, wE_or, wE_not, wE_chain, wE_bm, wE_repr, wE_sl, wE_pN, wE_tyes, wE_it, wE_dict0, Ok_gNm, Ok_gTp, Ok_gNil, Ok_gCons, Ok_gSb, Ok_ok, isB_bl, truth_bl, List.set_cons_zero, List.set_cons_succ, List.map_cons, List.map_nil, List.cons_append, List.nil_append, List.replicate_succ, List.replicate_zero, List.length_cons, List.length_nil, wipeD, wE_pS, intOf_int, wE_enum, wE_sort, wE_range1]
    rw [ixt2]
    refine ix_st hr.2.1 hr.2.2 fun hm => ?_
    have hso := hst _ hm
    unfold stD
    rw [ixt1]
    simp only [wS_seq, wS_if, wS_asg, wS_ret, wS_expr, wS_skip, wS_par, wS_retN, wS_brk, wS_cnt, wE_C, wE_v, slot_zero, slot_succ, wE_1, wE_2, wE_nil, wE_cons, wE_tup, wE_lst, wE_call, Ok_callN, wE_if, wE_tval, wE_tb1, wE_tand, wE_tor, wE_tnot, wE_and, wE_or, wE_not, wE_chain, wE_bm, wE_repr, wE_sl, wE_pN, wE_tyes, wE_it, wE_dict0, Ok_gNm, Ok_gTp, Ok_gNil, Ok_gCons, Ok_gSb, Ok_ok, isB_bl, truth_bl, List.set_cons_zero, List.set_cons_succ, List.map_cons, List.map_nil, List.cons_append, List.nil_append, List.replicate_succ, List.replicate_zero, List.length_cons, List.length_nil, wipeD, wE_pS, intOf_int, wE_enum, wE_sort, wE_range1]
    refine ⟨trivial, ?_⟩
    refine add_str ?_ ?_
    · have := short_len hso.2.2.1
      have := hr.1
      rw [sizeLine_eq]; omega
    · exact ⟨by rw [sizeLine_eq]; omega, rfl, rfl⟩
end
end K50
end
section
set_option Elab.async false
set_option linter.all false
set_option maxRecDepth 100000
set_option maxHeartbeats 400000
/-! K50: what the checks of texts and indices answer, of any value. -/
namespace K50
open PySem PySem.Spec PyProof.Rows L2 Mp Pen
def isStr : D → Bool | .str _ => true | _ => false
def isTup : D → Bool | .tup _ => true | _ => false
def isBl : D → Bool | .bl _ => true | _ => false
def isInt : D → Bool | .int _ => true | .bl _ => true | _ => false
/-- a value that is there: its kind is known, its text is not too long -/
def There (st : Store) (d : D) : Prop := (∃ t, tyD st d = some t) ∧ (∀ x, d = .str x → x.length ≤ sizeLine) ∧ ∀ xs, d ≠ .kl xs
theorem ty_cases {st : Store} {d : D} {t : String} (h : tyD st d = some t) (P : D → String → Prop) (h0 : P .non "NoneType") (h1 : ∀ b, P (.bl b) "bool") (h2 : ∀ i, P (.int i) "int") (h3 : ∀ x, P (.str x) "str") (h4 : ∀ xs, P (.tup xs) "tuple") (h5 : ∀ xs, P (.kl xs) "list")
    (h6 : ∀ n, P (.loc n) "list") (h7 : ∀ n, P (.loc n) "dict") : P d t := by
  cases d with
  | non => cases h; exact h0
  | bl b => cases h; exact h1 b
  | int b => cases h; exact h2 b
  | str b => cases h; exact h3 b
  | tup b => cases h; exact h4 b
  | kl b => cases h; exact h5 b
  | loc n =>
    unfold tyD at h
    simp only at h
    split at h
    · cases h; exact h6 n
    · cases h; exact h7 n
    · cases h
theorem isi_of {T : String} {f : D → Bool} {st : Store} {d : D} {Q : D → Store → Prop} (hd : ∃ t, tyD st d = some t) (h : ∀ t, tyD st d = some t → kitB t T = some (f d)) : Ok (isiD T d st) Q = Q (.bl (f d)) st := by
  obtain ⟨t, ht⟩ := hd
  unfold isiD
  simp only [ht, h t ht]
  rfl
section
variable {st : Store} {d : D} {Q : D → Store → Prop}
theorem isi_str (hd : ∃ t, tyD st d = some t) : Ok (isiD "str" d st) Q = Q (.bl (isStr d)) st :=
  isi_of hd fun t ht => ty_cases ht (fun d t => kitB t "str" = some (isStr d)) (by decide +kernel) (fun _ => by show kitB "bool" "str" = some false; decide +kernel) (fun _ => by show kitB "int" "str" = some false; decide +kernel) (fun _ => by show kitB "str" "str" = some true; decide +kernel) (fun _ => by show kitB "tuple" "str" = some false; decide +kernel) (fun _ => by show kitB "list" "str" = some false; decide +kernel) (fun _ => by show kitB "list" "str" = some false; decide +kernel) (fun _ => by show kitB "dict" "str" = some false; decide +kernel)
theorem isi_tup (hd : ∃ t, tyD st d = some t) : Ok (isiD "tuple" d st) Q = Q (.bl (isTup d)) st :=
  isi_of hd fun t ht => ty_cases ht (fun d t => kitB t "tuple" = some (isTup d)) (by decide +kernel) (fun _ => by show kitB "bool" "tuple" = some false; decide +kernel) (fun _ => by show kitB "int" "tuple" = some false; decide +kernel) (fun _ => by show kitB "str" "tuple" = some false; decide +kernel) (fun _ => by show kitB "tuple" "tuple" = some true; decide +kernel) (fun _ => by show kitB "list" "tuple" = some false; decide +kernel) (fun _ => by show kitB "list" "tuple" = some false; decide +kernel) (fun _ => by show kitB "dict" "tuple" = some false; decide +kernel)
theorem isi_int (hd : ∃ t, tyD st d = some t) : Ok (isiD "int" d st) Q = Q (.bl (isInt d)) st :=
  isi_of hd fun t ht => ty_cases ht (fun d t => kitB t "int" = some (isInt d)) (by decide +kernel) (fun _ => by show kitB "bool" "int" = some true; decide +kernel) (fun _ => by show kitB "int" "int" = some true; decide +kernel) (fun _ => by show kitB "str" "int" = some false; decide +kernel) (fun _ => by show kitB "tuple" "int" = some false; decide +kernel) (fun _ => by show kitB "list" "int" = some false; decide +kernel) (fun _ => by show kitB "list" "int" = some false; decide +kernel) (fun _ => by show kitB "dict" "int" = some false; decide +kernel)
theorem isi_bl (hd : ∃ t, tyD st d = some t) : Ok (isiD "bool" d st) Q = Q (.bl (isBl d)) st :=
  isi_of hd fun t ht => ty_cases ht (fun d t => kitB t "bool" = some (isBl d)) (by decide +kernel) (fun _ => by show kitB "bool" "bool" = some true; decide +kernel) (fun _ => by show kitB "int" "bool" = some false; decide +kernel) (fun _ => by show kitB "str" "bool" = some false; decide +kernel) (fun _ => by show kitB "tuple" "bool" = some false; decide +kernel) (fun _ => by show kitB "list" "bool" = some false; decide +kernel) (fun _ => by show kitB "list" "bool" = some false; decide +kernel) (fun _ => by show kitB "dict" "bool" = some false; decide +kernel)
end
/-- a sign of a text -/
def okSign (c : Nat) : Bool := decide (33 ≤ c) && decide (c ≤ 126)
def isT : D → Bool
  | .str x => x.cps.toList.all okSign
  | _ => false
theorem le_low {c : Nat} {st : Store} {Q : D → Store → Prop} : Ok (leD (.str "!") (.str (sg c)) st) Q = Q (.bl (decide (33 ≤ c))) st := by
  have e : ("!" : Str).cps.toList = [33] := by decide +kernel
  show Q (.bl (!decide ((sg c).cps.toList < ("!" : Str).cps.toList))) st = _
  rw [e]
  have : ((sg c).cps.toList < [33]) ↔ c < 33 := sg_lt (a := c) (b := 33)
  congr 2
  by_cases h : 33 ≤ c
  · rw [decide_eq_true h, decide_eq_false (fun q => by have := this.mp q; omega)]; rfl
  · rw [decide_eq_false h, decide_eq_true (this.mpr (by omega))]; rfl
theorem le_high {c : Nat} {st : Store} {Q : D → Store → Prop} : Ok (leD (.str (sg c)) (.str "~") st) Q = Q (.bl (decide (c ≤ 126))) st := by
  have e : ("~" : Str).cps.toList = [126] := by decide +kernel
  show Q (.bl (!decide (("~" : Str).cps.toList < (sg c).cps.toList))) st = _
  rw [e]
  have : (([126] : List Nat) < (sg c).cps.toList) ↔ 126 < c := sg_lt (a := 126) (b := c)
  congr 2
  by_cases h : c ≤ 126
  · rw [decide_eq_true h, decide_eq_false (fun q => by have := this.mp q; omega)]; rfl
  · rw [decide_eq_false h, decide_eq_true (this.mpr (by omega))]; rfl
theorem blsD_map : ∀ bs : List Bool, blsD (bs.map D.bl) = some bs
  | [] => rfl
  | b :: bs => by
    rw [List.map_cons]
    unfold blsD
    rw [blsD_map bs]
    rfl
theorem all_lst {st : Store} {n : Nat} {bs : List Bool} {Q : D → Store → Prop} (h : st[n]? = some (.lst (bs.map D.bl))) : Ok (allD [.loc n] st) Q = Q (.bl (bs.all id)) st := by
  have e : (lstD st (.loc n)).bind blsD = some bs := by
    unfold lstD
    simp only [h]
    exact blsD_map bs
  unfold allD
  simp only [e]
  rfl
theorem sign_item {x : Str} {i : Nat} {d : D} (h : (strItems x)[i]? = some d) : ∃ c, d = .str (sg c) ∧ x.cps.toList[i]? = some c := by
  unfold strItems at h
  rw [List.getElem?_map] at h
  obtain ⟨c, hc, rfl⟩ := Option.map_eq_some_iff.mp h
  exact ⟨c, rfl, hc⟩
theorem items_len (x : Str) : (strItems x).length = x.cps.toList.length := by unfold strItems; rw [List.length_map]
theorem is_text_ok {st : Store} {d : D} (hd : There st d) : Ok (F_is_text [d] st) fun r st' => r = .bl (isT d) ∧ Keep [] st st' := by
  unfold F_is_text
  rw [Ok_fn]
  refine ⟨rfl, ?_⟩
  unfold b_is_text
  simp only [wS_seq, wS_if, wS_asg, wS_ret, wS_expr, wS_skip, wS_par, wS_retN, wS_brk, wS_cnt, wE_C, wE_v, slot_zero, slot_succ, wE_1, wE_2, wE_nil, wE_cons, wE_tup, wE_lst, wE_call, Ok_callN, wE_if, wE_tval, wE_tb1, wE_tand, wE_tor, wE_tnot, wE_and, wE_or, wE_not, wE_chain, wE_bm, wE_repr, wE_sl, wE_pN, wE_tyes, wE_it, wE_dict0, Ok_gNm, Ok_gTp, Ok_gNil, Ok_gCons, Ok_gSb, Ok_ok, isB_bl, truth_bl, List.set_cons_zero, List.set_cons_succ, List.map_cons, List.map_nil, List.cons_append, List.nil_append, List.replicate_succ, List.replicate_zero, List.length_cons, List.length_nil, wipeD, wE_pS, intOf_int, wE_enum, wE_sort, wE_range1]
  rw [isi_str hd.1]
  simp only [truth_bl, Ok_ok]
  cases d with
  | str x =>
    refine ⟨fun h => (nomatch h), fun _ => ?_⟩
    refine wE_lc ?_
    simp only [wS_seq, wS_if, wS_asg, wS_ret, wS_expr, wS_skip, wS_par, wS_retN, wS_brk, wS_cnt, wE_C, wE_v, slot_zero, slot_succ, wE_1, wE_2, wE_nil, wE_cons, wE_tup, wE_lst, wE_call, Ok_callN, wE_if, wE_tval, wE_tb1, wE_tand, wE_tor, wE_tnot, wE_and, wE_or, wE_not, wE_chain, wE_bm, wE_repr, wE_sl, wE_pN, wE_tyes, wE_it, wE_dict0, Ok_gNm, Ok_gTp, Ok_gNil, Ok_gCons, Ok_gSb, Ok_ok, isB_bl, truth_bl, List.set_cons_zero, List.set_cons_succ, List.map_cons, List.map_nil, List.cons_append, List.nil_append, List.replicate_succ, List.replicate_zero, List.length_cons, List.length_nil, wipeD, wE_pS, intOf_int, wE_enum, wE_sort, wE_range1]
    show Ok (R.ok (⟨strItems x, []⟩ : ItD) st) _
    simp only [Ok_ok]
    refine ⟨fun i acc s => acc = ((x.cps.toList.take i).map okSign).map D.bl ∧ s = st ∧ i ≤ x.cps.toList.length, ?_, ⟨rfl, rfl, Nat.zero_le _⟩, ?_, ?_, ?_⟩
    · rw [items_len, ← cps_len]; exact hd.2.1 x rfl
    · rintro i acc s ⟨rfl, rfl, hi⟩
      exact ⟨fun p hp => (nomatch hp), by rw [List.length_map, List.length_map, List.length_take]; omega⟩
    · rintro i y acc s hy ⟨rfl, rfl, hi⟩
      obtain ⟨c, rfl, hc⟩ := sign_item hy
      refine ⟨fun _ => ?_, fun h => nomatch h⟩
      rw [le_low]
      simp only [isB_bl, Ok_ok]
      have hlt := (List.getElem?_eq_some_iff.mp hc).1
      have etk : x.cps.toList.take (i + 1) = x.cps.toList.take i ++ [c] := by rw [List.take_add_one, hc]; rfl
      refine ⟨fun h => ?_, fun h => ?_⟩
      · rw [le_high, etk]
        refine ⟨?_, rfl, hlt⟩
        simp [okSign, h]
      · rw [etk]
        refine ⟨?_, by first | rfl | trivial, hlt⟩
        simp [okSign, h]
    · rintro acc s ⟨rfl, rfl, hi⟩
      rw [all_lst snoc_at]
      refine ⟨?_, Keep.snoc⟩
      rw [items_len, List.take_length, List.all_map]
      rfl
  | _ => exact ⟨fun _ => ⟨by first | trivial | rfl, .refl⟩, fun h => (nomatch h)⟩
end K50
end
section
set_option Elab.async false
set_option linter.all false
set_option maxRecDepth 100000
set_option maxHeartbeats 400000
/-! K50: the law's own checks of texts; indices. -/
namespace K50
open PySem PySem.Spec PyProof.Rows L2 Mp Pen
theorem eq_nil {st : Store} {n m : Nat} {xs : List D} {Q : D → Store → Prop} (h : st[n]? = some (.lst xs)) (h' : st[m]? = some (.lst [])) : Ok (eqD (.loc n) (.loc m) st) Q = Q (.bl xs.isEmpty) st := by
  have e : eqF st eqDeep (.loc n) (.loc m) = some xs.isEmpty := by
    show eq1 st (eqF st 39) (.loc n) (.loc m) = _
    unfold eq1
    simp only [h, h']
    cases xs with
    | nil => rfl
    | cons x xs => rfl
  unfold eqD
  rw [e]
  rfl
theorem law_is_text_ok {st : Store} {d : D} (hd : There st d) : Ok (F__law_is_text [d] st) fun r st' => r = .bl (isT d) ∧ Keep [] st st' := by
  unfold F__law_is_text
  rw [Ok_fn]
  refine ⟨rfl, ?_⟩
  unfold b__law_is_text
  simp only [wS_seq, wS_if, wS_asg, wS_ret, wS_expr, wS_skip, wS_par, wS_retN, wS_brk, wS_cnt, wE_C, wE_v, slot_zero, slot_succ, wE_1, wE_2, wE_nil, wE_cons, wE_tup, wE_lst, wE_call, Ok_callN, wE_if, wE_tval, wE_tb1, wE_tand, wE_tor, wE_tnot, wE_and, wE_or, wE_not, wE_chain, wE_bm, wE_repr, wE_sl, wE_pN, wE_tyes, wE_it, wE_dict0, Ok_gNm, Ok_gTp, Ok_gNil, Ok_gCons, Ok_gSb, Ok_ok, isB_bl, truth_bl, List.set_cons_zero, List.set_cons_succ, List.map_cons, List.map_nil, List.cons_append, List.nil_append, List.replicate_succ, List.replicate_zero, List.length_cons, List.length_nil, wipeD, wE_pS, intOf_int, wE_enum, wE_sort, wE_range1]
  rw [isi_str hd.1]
  simp only [isB_bl, Ok_ok]
  cases d with
  | str x =>
    refine ⟨fun _ => ?_, fun h => nomatch h⟩
    refine wE_lc ?_
    simp only [wS_seq, wS_if, wS_asg, wS_ret, wS_expr, wS_skip, wS_par, wS_retN, wS_brk, wS_cnt, wE_C, wE_v, slot_zero, slot_succ, wE_1, wE_2, wE_nil, wE_cons, wE_tup, wE_lst, wE_call, Ok_callN, wE_if, wE_tval, wE_tb1, wE_tand, wE_tor, wE_tnot, wE_and, wE_or, wE_not, wE_chain, wE_bm, wE_repr, wE_sl, wE_pN, wE_tyes, wE_it, wE_dict0, Ok_gNm, Ok_gTp, Ok_gNil, Ok_gCons, Ok_gSb, Ok_ok, isB_bl, truth_bl, List.set_cons_zero, List.set_cons_succ, List.map_cons, List.map_nil, List.cons_append, List.nil_append, List.replicate_succ, List.replicate_zero, List.length_cons, List.length_nil, wipeD, wE_pS, intOf_int, wE_enum, wE_sort, wE_range1]
    show Ok (R.ok (⟨strItems x, []⟩ : ItD) st) _
    simp only [Ok_ok]
    refine ⟨fun i acc s => acc = ((x.cps.toList.take i).filter fun c => !okSign c).map (fun c => D.str (sg c)) ∧ s = st ∧ i ≤ x.cps.toList.length, ?_, ⟨rfl, rfl, Nat.zero_le _⟩, ?_, ?_, ?_⟩
    · rw [items_len, ← cps_len]; exact hd.2.1 x rfl
    · rintro i acc s ⟨rfl, rfl, hi⟩
      refine ⟨fun p hp => (nomatch hp), ?_⟩
      rw [List.length_map]
      exact Nat.le_trans (List.length_filter_le _ _) (by rw [List.length_take]; omega)
    · rintro i y acc s hy ⟨rfl, rfl, hi⟩
      obtain ⟨c, rfl, hc⟩ := sign_item hy
      have hlt := (List.getElem?_eq_some_iff.mp hc).1
      have etk : x.cps.toList.take (i + 1) = x.cps.toList.take i ++ [c] := by rw [List.take_add_one, hc]; rfl
      rw [le_low]
      simp only [isB_bl, Ok_ok]
      have key : ∀ b : Bool, b = okSign c → ((!b) = true → ((x.cps.toList.take i).filter fun c => !okSign c).map (fun c => D.str (sg c)) ++ [D.str (sg c)] = ((x.cps.toList.take (i + 1)).filter fun c => !okSign c).map (fun c => D.str (sg c)) ∧ s = s ∧ i + 1 ≤ x.cps.toList.length) ∧
          ((!b) = false → ((x.cps.toList.take i).filter fun c => !okSign c).map (fun c => D.str (sg c)) = ((x.cps.toList.take (i + 1)).filter fun c => !okSign c).map (fun c => D.str (sg c)) ∧ s = s ∧ i + 1 ≤ x.cps.toList.length) := by
        intro b hb
        subst hb
        rw [etk]
        constructor
        · intro h
          refine ⟨?_, rfl, hlt⟩
          rw [List.filter_append, List.map_append]
          simp [h]
        · intro h
          refine ⟨?_, rfl, hlt⟩
          rw [List.filter_append, List.map_append]
          simp at h
          simp [h]
      refine ⟨fun h => ?_, fun h => ?_⟩
      · rw [le_high]
        simp only [isB_bl, Ok_ok]
        have := key (decide (c ≤ 126)) (by simp [okSign, h])
        simpa using this
      · have := key false (by simp [okSign, h])
        simpa using this
    · rintro acc s ⟨rfl, rfl, hi⟩
      refine ⟨Nat.zero_le _, ?_⟩
      rw [eq_nil (xs := ((x.cps.toList.take (strItems x).length).filter fun c => !okSign c).map (fun c => D.str (sg c))) ?_ snoc_at]
      · refine ⟨?_, Keep.trans Keep.snoc Keep.snoc⟩
        rw [items_len, List.take_length]
        show D.bl _ = D.bl (x.cps.toList.all okSign)
        congr 1
        induction x.cps.toList with
        | nil => rfl
        | cons c cs ih =>
          rw [List.all_cons, ← ih, List.filter_cons]
          cases okSign c <;> simp
      · rw [List.getElem?_append_left (by simp)]
        exact snoc_at
  | _ => exact ⟨fun h => (nomatch h), fun _ => ⟨by first | trivial | rfl, .refl⟩⟩
end K50
end
section
set_option Elab.async false
set_option linter.all false
set_option maxRecDepth 100000
set_option maxHeartbeats 400000
/-! K50: indices, steps, pairs. -/
namespace K50
open PySem PySem.Spec PyProof.Rows L2 Mp Pen
def isIx (n : Int) : D → Bool
  | .int i => decide (0 ≤ i) && decide (i < n)
  | _ => false
section
variable {st : Store} {d : D} {n : Int}
theorem is_integer_ok (hd : ∃ t, tyD st d = some t) : Ok (F_is_integer [d] st) fun r st' => r = .bl (isInt d && !isBl d) ∧ st' = st := by
  unfold F_is_integer
  rw [Ok_fn]
  refine ⟨rfl, ?_⟩
  unfold b_is_integer
  simp only [wS_seq, wS_if, wS_asg, wS_ret, wS_expr, wS_skip, wS_par, wS_retN, wS_brk, wS_cnt, wE_C, wE_v, slot_zero, slot_succ, wE_1, wE_2, wE_nil, wE_cons, wE_tup, wE_lst, wE_call, Ok_callN, wE_if, wE_tval, wE_tb1, wE_tand, wE_tor, wE_tnot, wE_and, wE_or, wE_not, wE_chain, wE_bm, wE_repr, wE_sl, wE_pN, wE_tyes, wE_it, wE_dict0, Ok_gNm, Ok_gTp, Ok_gNil, Ok_gCons, Ok_gSb, Ok_ok, isB_bl, truth_bl, List.set_cons_zero, List.set_cons_succ, List.map_cons, List.map_nil, List.cons_append, List.nil_append, List.replicate_succ, List.replicate_zero, List.length_cons, List.length_nil, wipeD, wE_pS, intOf_int, wE_enum, wE_sort, wE_range1]
  rw [isi_int hd]
  simp only [isB_bl, Ok_ok]
  refine ⟨fun h => ?_, fun h => ?_⟩
  · rw [isi_bl hd]
    simp [h]
  · simp [h]
theorem chain_ix (hd : isInt d = true) (hb : isBl d = false) {Q : D → Store → Prop} (q : Q (.bl (isIx n d)) st) : Ok (leD (.int 0) d st) fun z st => Ok (isB z st) fun k st => (k = true → Ok (ltD d (.int n) st) Q) ∧ (k = false → Q (.bl false) st) := by
  cases d with
  | int i =>
    rw [Pen.le_int]
    simp only [isB_bl, Ok_ok]
    refine ⟨fun h => ?_, fun h => ?_⟩
    · rw [Pen.lt_int]
      have q : Q (.bl (decide (0 ≤ i) && decide (i < n))) st := q
      rw [h, Bool.true_and] at q
      exact q
    · have q : Q (.bl (decide (0 ≤ i) && decide (i < n))) st := q
      rw [h, Bool.false_and] at q
      exact q
  | bl b => cases hb
  | _ => cases hd
theorem isIx_no (h : (isInt d && !isBl d) = false) : isIx n d = false := by
  cases d with
  | int i => cases h
  | _ => rfl
theorem is_index_ok (hd : ∃ t, tyD st d = some t) : Ok (F_is_index [d, .int n] st) fun r st' => r = .bl (isIx n d) ∧ Keep [] st st' := by
  unfold F_is_index
  rw [Ok_fn]
  refine ⟨rfl, ?_⟩
  unfold b_is_index
  simp only [wS_seq, wS_if, wS_asg, wS_ret, wS_expr, wS_skip, wS_par, wS_retN, wS_brk, wS_cnt, wE_C, wE_v, slot_zero, slot_succ, wE_1, wE_2, wE_nil, wE_cons, wE_tup, wE_lst, wE_call, Ok_callN, wE_if, wE_tval, wE_tb1, wE_tand, wE_tor, wE_tnot, wE_and, wE_or, wE_not, wE_chain, wE_bm, wE_repr, wE_sl, wE_pN, wE_tyes, wE_it, wE_dict0, Ok_gNm, Ok_gTp, Ok_gNil, Ok_gCons, Ok_gSb, Ok_ok, isB_bl, truth_bl, List.set_cons_zero, List.set_cons_succ, List.map_cons, List.map_nil, List.cons_append, List.nil_append, List.replicate_succ, List.replicate_zero, List.length_cons, List.length_nil, wipeD, wE_pS, intOf_int, wE_enum, wE_sort, wE_range1]
  refine ⟨trivial, ?_⟩
  refine (is_integer_ok hd).mono ?_
  rintro r s ⟨rfl, rfl⟩
  simp only [isB_bl, Ok_ok]
  refine ⟨fun h => ?_, fun h => ⟨by rw [isIx_no h], .refl⟩⟩
  rw [Bool.and_eq_true, Bool.not_eq_true'] at h
  exact chain_ix h.1 h.2 ⟨rfl, .refl⟩
theorem law_is_index_ok (hd : ∃ t, tyD st d = some t) : Ok (F__law_is_index [d, .int n] st) fun r st' => r = .bl (isIx n d) ∧ Keep [] st st' := by
  unfold F__law_is_index
  rw [Ok_fn]
  refine ⟨rfl, ?_⟩
  unfold b__law_is_index
  simp only [wS_seq, wS_if, wS_asg, wS_ret, wS_expr, wS_skip, wS_par, wS_retN, wS_brk, wS_cnt, wE_C, wE_v, slot_zero, slot_succ, wE_1, wE_2, wE_nil, wE_cons, wE_tup, wE_lst, wE_call, Ok_callN, wE_if, wE_tval, wE_tb1, wE_tand, wE_tor, wE_tnot, wE_and, wE_or, wE_not, wE_chain, wE_bm, wE_repr, wE_sl, wE_pN, wE_tyes, wE_it, wE_dict0, Ok_gNm, Ok_gTp, Ok_gNil, Ok_gCons, Ok_gSb, Ok_ok, isB_bl, truth_bl, List.set_cons_zero, List.set_cons_succ, List.map_cons, List.map_nil, List.cons_append, List.nil_append, List.replicate_succ, List.replicate_zero, List.length_cons, List.length_nil, wipeD, wE_pS, intOf_int, wE_enum, wE_sort, wE_range1]
  rw [isi_int hd]
  simp only [isB_bl, Ok_ok]
  refine ⟨fun h => ?_, fun h => ⟨by rw [isIx_no (by rw [h]; rfl)], .refl⟩⟩
  rw [isi_bl hd]
  simp only [isB_bl, Ok_ok]
  refine ⟨fun h2 => ?_, fun h2 => ⟨by rw [isIx_no (by rw [h2]; simp)], .refl⟩⟩
  exact chain_ix h (by simpa using h2) ⟨rfl, .refl⟩
end
/-- a tuple's items are there -/
def Items (st : Store) : D → Prop
  | .tup xs => xs.length ≤ sizeLine ∧ ∀ x ∈ xs, There st x
  | _ => True
theorem There.keep {st st' : Store} {d : D} (h : There st d) (k : Keep [] st st') : There st' d := by
  obtain ⟨⟨t, ht⟩, hx⟩ := h
  refine ⟨⟨t, ?_⟩, hx⟩
  cases d with
  | loc n =>
    unfold tyD at ht ⊢
    simp only at ht ⊢
    cases e : st[n]? with
    | none => rw [e] at ht; cases ht
    | some o => rw [e] at ht; rw [k.get e (by simp)]; exact ht
  | _ => exact ht
def isStep (n : Int) : D → Bool
  | .tup [a, b] => isT a && isIx n b
  | _ => false
theorem len_tup {xs : List D} {st : Store} {Q : D → Store → Prop} : Ok (lenD [.tup xs] st) Q = Q (.int xs.length) st := rfl
theorem is_step_ok {st : Store} {d : D} {n : Int} (hd : There st d) (hi : Items st d) : Ok (F_is_step [d, .int n] st) fun r st' => r = .bl (isStep n d) ∧ Keep [] st st' := by
  unfold F_is_step
  rw [Ok_fn]
  refine ⟨rfl, ?_⟩
  unfold b_is_step
  simp only [wS_seq, wS_if, wS_asg, wS_ret, wS_expr, wS_skip, wS_par, wS_retN, wS_brk, wS_cnt, wE_C, wE_v, slot_zero, slot_succ, wE_1, wE_2, wE_nil, wE_cons, wE_tup, wE_lst, wE_call, Ok_callN, wE_if, wE_tval, wE_tb1, wE_tand, wE_tor, wE_tnot, wE_and, wE_or, wE_not, wE_chain, wE_bm, wE_repr, wE_sl, wE_pN, wE_tyes, wE_it, wE_dict0, Ok_gNm, Ok_gTp, Ok_gNil, Ok_gCons, Ok_gSb, Ok_ok, isB_bl, truth_bl, List.set_cons_zero, List.set_cons_succ, List.map_cons, List.map_nil, List.cons_append, List.nil_append, List.replicate_succ, List.replicate_zero, List.length_cons, List.length_nil, wipeD, wE_pS, intOf_int, wE_enum, wE_sort, wE_range1]
  rw [isi_tup hd.1]
  simp only [isB_bl, Ok_ok]
  cases d with
  | tup xs =>
    refine ⟨fun _ => ?_, fun h => nomatch h⟩
    rw [len_tup, Pen.eq_int]
    simp only [isB_bl, Ok_ok]
    refine ⟨fun h => ?_, fun h => ?_⟩
    · have hl : xs.length = 2 := by have := eq_of_beq h; omega
      match xs, hl, hi with
      | [a, b], _, hi =>
        rw [ixt0]
        refine ⟨trivial, ?_⟩
        refine (is_text_ok (hi.2 a (by simp))).mono ?_
        rintro r s ⟨rfl, k⟩
        simp only [isB_bl, Ok_ok]
        refine ⟨fun h1 => ?_, fun h1 => ⟨by show D.bl false = D.bl (isT a && isIx n b); rw [h1]; rfl, k⟩⟩
        rw [ixt1]
        refine ⟨trivial, ?_⟩
        refine (is_index_ok ((hi.2 b (by simp)).keep k).1).mono ?_
        rintro r s2 ⟨rfl, k2⟩
        exact ⟨by show D.bl (isIx n b) = D.bl (isT a && isIx n b); rw [h1]; rfl, k.trans k2⟩
    · have hl : xs.length ≠ 2 := by
        intro e
        rw [e] at h
        cases h
      refine ⟨?_, .refl⟩
      unfold isStep
      match xs, hl with
      | [], _ => rfl
      | [_], _ => rfl
      | _ :: _ :: _ :: _, _ => rfl
  | _ => exact ⟨fun h => (nomatch h), fun _ => ⟨by first | trivial | rfl, .refl⟩⟩
end K50
end
section
set_option Elab.async false
set_option linter.all false
set_option maxRecDepth 100000
set_option maxHeartbeats 400000
/-! K50: ends of states. -/
namespace K50
open PySem PySem.Spec PyProof.Rows L2 Mp Pen
def strIs (a : Str) : D → Bool
  | .str b => a == b
  | _ => false
theorem eq_strIs {st : Store} {d : D} {a : Str} (hd : There st d) : eqF st eqDeep (.str a) d = some (strIs a d) := by
  show eq1 st (eqF st 39) (.str a) d = _
  obtain ⟨⟨t, ht⟩, _, hk⟩ := hd
  cases d with
  | kl xs => exact absurd rfl (hk xs)
  | loc n =>
    unfold tyD at ht
    simp only at ht
    unfold eq1
    split at ht
    · rename_i e; simp only [e]; rfl
    · rename_i e; simp only [e]; rfl
    · cases ht
  | _ => rfl
def isE (d : D) : Bool := strIs "halt" d || strIs "fault" d
theorem in_ends {st : Store} {d : D} {Q : D → Store → Prop} (hd : There st d) : Ok (inD d (.tup (List.map D.str ["halt", "fault"])) st) Q = Q (.bl (isE d)) st := by
  have e : inO st d (.tup (List.map D.str ["halt", "fault"])) = some (isE d) := by
    show inL (eqF st eqDeep) d [D.str "halt", D.str "fault"] = _
    simp only [inL, eq_strIs hd, Bool.or_false]
    rfl
  unfold inD
  rw [e]
  rfl
def isEnd : D → Bool
  | .tup [a, b] => isT a && isE b
  | _ => false
theorem isEnd_no {xs : List D} (h : xs.length ≠ 2) : isEnd (.tup xs) = false := by
  match xs, h with
  | [], _ => rfl
  | [_], _ => rfl
  | _ :: _ :: _ :: _, _ => rfl
theorem len2 {xs : List D} (h : ((xs.length : Nat) : Int) = 2) : ∃ a b, xs = [a, b] := by
  have : xs.length = 2 := by omega
  match xs, this with
  | [a, b], _ => exact ⟨a, b, rfl⟩
theorem is_end_ok {st : Store} {d : D} (hd : There st d) (hi : Items st d) : Ok (F_is_end [d] st) fun r st' => r = .bl (isEnd d) ∧ Keep [] st st' := by
  unfold F_is_end
  rw [Ok_fn]
  refine ⟨rfl, ?_⟩
  unfold b_is_end
  simp only [wS_seq, wS_if, wS_asg, wS_ret, wS_expr, wS_skip, wS_par, wS_retN, wS_brk, wS_cnt, wE_C, wE_v, slot_zero, slot_succ, wE_1, wE_2, wE_nil, wE_cons, wE_tup, wE_lst, wE_call, Ok_callN, wE_if, wE_tval, wE_tb1, wE_tand, wE_tor, wE_tnot, wE_and, wE_or, wE_not, wE_chain, wE_bm, wE_repr, wE_sl, wE_pN, wE_tyes, wE_it, wE_dict0, Ok_gNm, Ok_gTp, Ok_gNil, Ok_gCons, Ok_gSb, Ok_ok, isB_bl, truth_bl, List.set_cons_zero, List.set_cons_succ, List.map_cons, List.map_nil, List.cons_append, List.nil_append, List.replicate_succ, List.replicate_zero, List.length_cons, List.length_nil, wipeD, wE_pS, intOf_int, wE_enum, wE_sort, wE_range1]
  rw [isi_tup hd.1]
  simp only [isB_bl, Ok_ok]
  cases d with
  | tup xs =>
    refine ⟨fun _ => ?_, fun h => nomatch h⟩
    rw [len_tup, Pen.eq_int]
    simp only [isB_bl, Ok_ok]
    refine ⟨fun h => ?_, fun h => ?_⟩
    · obtain ⟨a, b, rfl⟩ := len2 (eq_of_beq h)
      rw [ixt0]
      refine ⟨trivial, ?_⟩
      refine (is_text_ok (hi.2 a (by simp))).mono ?_
      rintro r s ⟨rfl, k⟩
      simp only [isB_bl, Ok_ok]
      refine ⟨fun h1 => ?_, fun h1 => ⟨by show D.bl false = D.bl (isT a && isE b); rw [h1]; rfl, k⟩⟩
      rw [ixt1]
      have e := in_ends (Q := fun r st' => r = .bl (isEnd (.tup [a, b])) ∧ Keep [] st st') ((hi.2 b (by simp)).keep k)
      refine Eq.mpr e ⟨?_, k⟩
      show D.bl (isE b) = D.bl (isT a && isE b)
      rw [h1]; rfl
    · refine ⟨by rw [isEnd_no fun e => by rw [e] at h; cases h], .refl⟩
  | _ => exact ⟨fun h => (nomatch h), fun _ => ⟨by first | trivial | rfl, .refl⟩⟩
end K50
end
section
set_option Elab.async false
set_option linter.all false
set_option maxRecDepth 100000
set_option maxHeartbeats 400000
/-! K50: states. -/
namespace K50
open PySem PySem.Spec PyProof.Rows L2 Mp Pen
def Deep (st : Store) : Nat → D → Prop
  | 0, d => There st d
  | n + 1, d => There st d ∧ ∀ xs, d = .tup xs → xs.length ≤ sizeLine ∧ ∀ x ∈ xs, Deep st n x
theorem Deep.there {st : Store} : ∀ {n : Nat} {d : D}, Deep st n d → There st d
  | 0, _, h => h
  | _ + 1, _, h => h.1
theorem Deep.keep {st st' : Store} (k : Keep [] st st') : ∀ {n : Nat} {d : D}, Deep st n d → Deep st' n d
  | 0, _, h => There.keep h k
  | _ + 1, _, h => ⟨h.1.keep k, fun xs e => ⟨(h.2 xs e).1, fun x hx => Deep.keep k ((h.2 xs e).2 x hx)⟩⟩
theorem Deep.items {st : Store} {n : Nat} {d : D} (h : Deep st (n + 1) d) : Items st d := by
  cases d with
  | tup xs => exact ⟨(h.2 xs rfl).1, fun x hx => ((h.2 xs rfl).2 x hx).there⟩
  | _ => trivial
theorem Deep.mem {st : Store} {n : Nat} {xs : List D} (h : Deep st (n + 1) (.tup xs)) {x : D} (hx : x ∈ xs) : Deep st n x := (h.2 xs rfl).2 x hx
theorem Deep.len {st : Store} {n : Nat} {xs : List D} (h : Deep st (n + 1) (.tup xs)) : xs.length ≤ sizeLine := (h.2 xs rfl).1
def isState (k : Nat) (n : Int) : D → Bool
  | .tup [.tup ss, e] => (ss.length == k) && ss.all (isStep n) && isEnd e
  | _ => false
theorem ne_int {i j : Int} {st : Store} {Q : D → Store → Prop} : Ok (neD (.int i) (.int j) st) Q = Q (.bl (!(i == j))) st := rfl
theorem isState_no {k : Nat} {n : Int} {xs : List D} (h : xs.length ≠ 2) : isState k n (.tup xs) = false := by
  match xs, h with
  | [], _ => rfl
  | [a], _ => cases a <;> rfl
  | a :: _ :: _ :: _, _ => cases a <;> rfl
theorem isState_no2 {k : Nat} {n : Int} {a e : D} (h : isTup a = false) : isState k n (.tup [a, e]) = false := by
  cases a with
  | tup _ => cases h
  | _ => rfl
/-- all([f(x) for x in xs]), f keeping the store -/
theorem all_items {st : Store} {ds : DSt} {xs : List D} {f : D → Bool} {i : Nat} {te : M D} {Q : D → Store → Prop} (hz : xs.length ≤ sizeLine)
    (hf : ∀ x ∈ xs, ∀ s, Keep [] st s → Mp.wE te ((wipeD ds [i]).set i (some x)) s fun r s' => r = .bl (f x) ∧ Keep [] s s') (q : ∀ s, Keep [] st s → Q (.bl (xs.all f)) s) {m : M D} (hm : m ds st = .ok (.tup xs) st) :
    Mp.wE (mLc (mIt m) (gNm i) tYes' te [i]) ds st fun x s => Ok (allD [x] s) Q := by
  refine wE_lc ?_
  unfold Mp.wE mIt
  rw [hm]
  show Ok (R.ok (⟨xs, []⟩ : ItD) st) _
  simp only [Ok_ok]
  refine ⟨fun j acc s => acc = ((xs.take j).map f).map D.bl ∧ Keep [] st s ∧ j ≤ xs.length, hz, ⟨rfl, .refl, Nat.zero_le _⟩, ?_, ?_, ?_⟩
  · rintro j acc s ⟨rfl, _, hj⟩
    exact ⟨fun p hp => (nomatch hp), by rw [List.length_map, List.length_map, List.length_take]; omega⟩
  · rintro j x acc s hx ⟨rfl, k, hj⟩
    have hlt := (List.getElem?_eq_some_iff.mp hx).1
    have etk : xs.take (j + 1) = xs.take j ++ [x] := by rw [List.take_add_one, hx]; rfl
    rw [Ok_gNm]
    refine ⟨fun _ => ?_, fun h => nomatch h⟩
    refine (hf x (List.mem_of_getElem? hx) s k).mono ?_
    rintro r s' ⟨rfl, k'⟩
    rw [etk]
    exact ⟨by simp, k.trans k', hlt⟩
  · rintro acc s ⟨rfl, k, hj⟩
    rw [all_lst snoc_at, List.take_length, List.all_map]
    exact q _ (k.trans Keep.snoc)
theorem is_state_ok {st : Store} {d : D} {k : Nat} {n : Int} (hd : Deep st 3 d) : Ok (F_is_state [d, .int k, .int n] st) fun r st' => r = .bl (isState k n d) ∧ Keep [] st st' := by
  unfold F_is_state
  rw [Ok_fn]
  refine ⟨rfl, ?_⟩
  unfold b_is_state
  simp only [wS_seq, wS_if, wS_asg, wS_ret, wS_expr, wS_skip, wS_par, wS_retN, wS_brk, wS_cnt, wE_C, wE_v, slot_zero, slot_succ, wE_1, wE_2, wE_nil, wE_cons, wE_tup, wE_lst, wE_call, Ok_callN, wE_if, wE_tval, wE_tb1, wE_tand, wE_tor, wE_tnot, wE_and, wE_or, wE_not, wE_chain, wE_bm, wE_repr, wE_sl, wE_pN, wE_tyes, wE_it, wE_dict0, Ok_gNm, Ok_gTp, Ok_gNil, Ok_gCons, Ok_gSb, Ok_ok, isB_bl, truth_bl, List.set_cons_zero, List.set_cons_succ, List.map_cons, List.map_nil, List.cons_append, List.nil_append, List.replicate_succ, List.replicate_zero, List.length_cons, List.length_nil, wipeD, wE_pS, intOf_int, wE_enum, wE_sort, wE_range1]
  rw [isi_tup hd.1.1]
  simp only [truth_bl, Ok_ok]
  cases d with
  | tup xs =>
    refine ⟨fun h => (nomatch h), fun _ => ?_⟩
    rw [len_tup, ne_int]
    simp only [isB_bl, Ok_ok]
    refine ⟨fun h => ⟨fun _ => ⟨by rw [isState_no fun e => by rw [e] at h; cases h], .refl⟩, fun h => (nomatch h)⟩, fun h => ?_⟩
    obtain ⟨a, e, rfl⟩ := len2 (xs := xs) (eq_of_beq (by simpa using h))
    have ha := hd.mem (x := a) (by simp)
    have he := hd.mem (x := e) (by simp)
    rw [ixt0, isi_tup ha.there.1]
    simp only [truth_bl, Ok_ok]
    refine ⟨fun h => ⟨by rw [isState_no2 (by simpa using h)], .refl⟩, fun h => ?_⟩
    cases a with
    | tup ss =>
      rw [ixt0, len_tup, ne_int]
      simp only [isB_bl, Ok_ok]
      refine ⟨fun h => ⟨fun _ => ⟨?_, .refl⟩, fun h => (nomatch h)⟩, fun h => ?_⟩
      · show D.bl false = D.bl ((ss.length == k) && ss.all (isStep n) && isEnd e)
        have : (ss.length == k) = false := by
          cases q : ss.length == k with
          | false => rfl
          | true =>
            rw [eq_of_beq q] at h
            simp at h
        rw [this]; rfl
      · have hk : (ss.length == k) = true := by
          have := eq_of_beq (a := ((ss.length : Nat) : Int)) (b := (k : Int)) (by simpa using h)
          simpa using (by omega : ss.length = k)
        refine all_items (f := isStep n) ha.len (fun x hx s ks => ?_) (fun s ks => ?_) (m := m2 ixD (mVar 0) (mC (D.int 0))) rfl
        · simp only [wS_seq, wS_if, wS_asg, wS_ret, wS_expr, wS_skip, wS_par, wS_retN, wS_brk, wS_cnt, wE_C, wE_v, slot_zero, slot_succ, wE_1, wE_2, wE_nil, wE_cons, wE_tup, wE_lst, wE_call, Ok_callN, wE_if, wE_tval, wE_tb1, wE_tand, wE_tor, wE_tnot, wE_and, wE_or, wE_not, wE_chain, wE_bm, wE_repr, wE_sl, wE_pN, wE_tyes, wE_it, wE_dict0, Ok_gNm, Ok_gTp, Ok_gNil, Ok_gCons, Ok_gSb, Ok_ok, isB_bl, truth_bl, List.set_cons_zero, List.set_cons_succ, List.map_cons, List.map_nil, List.cons_append, List.nil_append, List.replicate_succ, List.replicate_zero, List.length_cons, List.length_nil, wipeD, wE_pS, intOf_int, wE_enum, wE_sort, wE_range1]
          refine ⟨trivial, ?_⟩
          have hxd := Deep.keep ks (ha.mem hx)
          exact is_step_ok hxd.there hxd.items
        · simp only [truth_bl, Ok_ok]
          refine ⟨fun h => ⟨?_, ks⟩, fun h => ?_⟩
          · show D.bl false = D.bl ((ss.length == k) && ss.all (isStep n) && isEnd e)
            rw [Bool.not_eq_true'] at h
            rw [h]; simp
          · rw [ixt1]
            refine ⟨trivial, ?_⟩
            have hed := Deep.keep ks he
            refine (is_end_ok hed.there hed.items).mono ?_
            rintro r s' ⟨rfl, k'⟩
            refine ⟨?_, ks.trans k'⟩
            show D.bl (isEnd e) = D.bl ((ss.length == k) && ss.all (isStep n) && isEnd e)
            rw [hk, (by simpa using h : ss.all (isStep n) = true)]; rfl
    | _ => cases h
  | _ => exact ⟨fun _ => ⟨fun _ => ⟨rfl, .refl⟩, fun h => (nomatch h)⟩, fun h => (nomatch h)⟩
end K50
end
section
set_option Elab.async false
set_option linter.all false
set_option maxRecDepth 100000
set_option maxHeartbeats 400000
/-! K50: what shows as 'halt' and 'fault'. -/
namespace K50
open PySem PySem.Spec PyProof.Rows L2 Mp Pen
theorem reprChar_one (q c : Nat) : Builtin.Str.reprChar q c = [c] ∨ 92 ∈ Builtin.Str.reprChar q c := by
  unfold Builtin.Str.reprChar
  simp only
  split
  · exact .inr (by simp)
  · split
    · exact .inr (by simp)
    · split
      · exact .inr (by simp)
      · split
        · exact .inr (by simp)
        · split
          · exact .inl rfl
          · split
            · exact .inr (by simp)
            · split
              · exact .inr (by simp)
              · exact .inr (by simp)
theorem fold_flat (q : Nat) : ∀ (l : List Nat) (acc : Array Nat), (l.foldl (fun out c => out ++ (Builtin.Str.reprChar q c).toArray) acc).toList = acc.toList ++ l.flatMap (Builtin.Str.reprChar q)
  | [], acc => by simp
  | c :: r, acc => by
    rw [List.foldl_cons, fold_flat q r]
    simp [List.flatMap_cons, List.append_assoc]
theorem reprText_cps (x : Str) : (reprText x).cps.toList = reprQuote x :: (x.cps.toList.flatMap (Builtin.Str.reprChar (reprQuote x)) ++ [reprQuote x]) := by
  unfold reprText
  rw [Array.toList_push, ← Array.foldl_toList, fold_flat]
  simp
theorem flat_plain (q : Nat) : ∀ l : List Nat, 92 ∉ l.flatMap (Builtin.Str.reprChar q) → l.flatMap (Builtin.Str.reprChar q) = l
  | [], _ => rfl
  | c :: r, h => by
    rw [List.flatMap_cons] at h ⊢
    rcases reprChar_one q c with e | e
    · rw [e] at h ⊢
      rw [flat_plain q r fun m => h (List.mem_append_right _ m)]
      rfl
    · exact absurd (List.mem_append_left _ e) h
theorem repr_is {x w : Str} (h : reprText x = ⟨(39 :: (w.cps.toList ++ [39])).toArray⟩) (hw : 92 ∉ w.cps.toList) : x = w := by
  have e := congrArg (fun y : Str => y.cps.toList) h
  simp only [reprText_cps] at e
  have e : reprQuote x :: (x.cps.toList.flatMap (Builtin.Str.reprChar (reprQuote x)) ++ [reprQuote x]) = 39 :: (w.cps.toList ++ [39]) := by simpa using e
  obtain ⟨e1, e2⟩ := List.cons.inj e
  rw [e1] at e2
  have e3 := List.append_cancel_right e2
  have e4 := flat_plain 39 x.cps.toList (by rw [e3]; exact hw)
  exact str_ext (e4.symm.trans e3)
theorem halt_lit : ("'halt'" : Str) = ⟨(39 :: (("halt" : Str).cps.toList ++ [39])).toArray⟩ := by decide +kernel
theorem fault_lit : ("'fault'" : Str) = ⟨(39 :: (("fault" : Str).cps.toList ++ [39])).toArray⟩ := by decide +kernel
theorem halt_shown : reprText "halt" = "'halt'" := by decide +kernel
theorem fault_shown : reprText "fault" = "'fault'" := by decide +kernel
theorem str_shown (x : Str) : (reprText x = "'halt'" ↔ x = "halt") ∧ (reprText x = "'fault'" ↔ x = "fault") := by
  refine ⟨⟨fun h => repr_is (h.trans halt_lit) (by decide +kernel), fun h => by rw [h]; exact halt_shown⟩, ⟨fun h => repr_is (h.trans fault_lit) (by decide +kernel), fun h => by rw [h]; exact fault_shown⟩⟩
theorem head_ne {a b : Str} (h : a.cps.toList.head? ≠ b.cps.toList.head?) : a ≠ b := fun e => h (by rw [e])
end K50
end
section
set_option Elab.async false
set_option linter.all false
set_option maxRecDepth 100000
set_option maxHeartbeats 400000
/-! K50: repr of any value against 'halt' and 'fault'. -/
namespace K50
open PySem PySem.Spec PyProof.Rows L2 Mp Pen
def hd (x : Str) : Option Nat := x.cps.toList.head?
theorem hd_app {a b : Str} {c : Nat} (h : hd a = some c) : hd (a ++ b) = some c := by
  unfold hd at *
  rw [append_cps, List.head?_append, h]
  rfl
theorem hd_from : ∀ (ts : List Str) (k : Nat) (acc : Str) (c : Nat), hd acc = some c → hd (textFrom k acc ts) = some c
  | [], _, _, _, h => h
  | t :: ts, k, acc, c, h => by
    rw [textFrom]
    exact hd_from ts (k + 1) _ c (hd_app (hd_app h))
theorem hd_list (ts : List Str) : hd (listText ts) = some 91 := hd_app (hd_from ts 0 _ 91 (by decide +kernel))
theorem hd_tup (ts : List Str) : hd (tupleText ts) = some 40 := hd_app (hd_app (by decide +kernel))
theorem hd_dict (ts : List Str) : hd (dictText ts) = some 123 := hd_app (hd_app (by decide +kernel))
theorem hd_halt : hd "'halt'" = some 39 := by decide +kernel
theorem hd_fault : hd "'fault'" = some 39 := by decide +kernel
theorem ne_hd {a b : Str} {c d : Nat} (h : hd a = some c) (h' : hd b = some d) (n : c ≠ d) : a ≠ b := fun e => by
  rw [e, h'] at h
  exact n (Option.some.inj h).symm
/-- the ints of the values -/
def smallInt (i : Int) : Bool := decide (-1 ≤ i) && decide (i ≤ 63)
theorem int_shown : ∀ n : Nat, n < 65 → (PyData.shown (.int ((n : Int) - 1)) ≠ "'halt'" ∧ PyData.shown (.int ((n : Int) - 1)) ≠ "'fault'") := by
  simp only [PyData.shown]
  decide +kernel
/-- which value of the data stands for p -/
def pE : PyData → Bool
  | .str x => ("halt" : Str) == x || ("fault" : Str) == x
  | _ => false
theorem shown_ends (p : PyData) (hi : ∀ i, p = .int i → smallInt i = true) : ((p.shown == ("'halt'" : Str)) || (p.shown == ("'fault'" : Str))) = pE p := by
  have no : ∀ c, hd p.shown = some c → c ≠ 39 → ((p.shown == ("'halt'" : Str)) || (p.shown == ("'fault'" : Str))) = false := fun c h n => by
    rw [beq_eq_false_iff_ne.mpr (ne_hd h hd_halt n), beq_eq_false_iff_ne.mpr (ne_hd h hd_fault n)]
    rfl
  cases p with
  | none => exact no 78 (by simp only [PyData.shown]; decide +kernel) (by omega)
  | bool b =>
    cases b with
    | true => exact no 84 (by simp only [PyData.shown]; decide +kernel) (by omega)
    | false => exact no 70 (by simp only [PyData.shown]; decide +kernel) (by omega)
  | int i =>
    have := hi i rfl
    unfold smallInt at this
    rw [Bool.and_eq_true, decide_eq_true_eq, decide_eq_true_eq] at this
    obtain ⟨h1, h2⟩ := int_shown (i + 1).toNat (by omega)
    have e : (((i + 1).toNat : Nat) : Int) - 1 = i := by omega
    rw [e] at h1 h2
    rw [beq_eq_false_iff_ne.mpr h1, beq_eq_false_iff_ne.mpr h2]
    rfl
  | str x =>
    obtain ⟨h1, h2⟩ := str_shown x
    simp only [PyData.shown]
    unfold pE
    have c1 : (reprText x == ("'halt'" : Str)) = (("halt" : Str) == x) := by
      rw [Bool.eq_iff_iff, beq_iff_eq, beq_iff_eq, h1]
      exact eq_comm
    have c2 : (reprText x == ("'fault'" : Str)) = (("fault" : Str) == x) := by
      rw [Bool.eq_iff_iff, beq_iff_eq, beq_iff_eq, h2]
      exact eq_comm
    rw [c1, c2]
  | list xs => exact no 91 (by simp only [PyData.shown]; exact hd_list _) (by omega)
  | tuple xs => exact no 40 (by simp only [PyData.shown]; exact hd_tup _) (by omega)
  | dict xs => exact no 123 (by simp only [PyData.shown]; exact hd_dict _) (by omega)
end K50
end
section
set_option Elab.async false
set_option linter.all false
set_option maxRecDepth 100000
set_option maxHeartbeats 400000
/-! K50: the law's own check of states. -/
namespace K50
open PySem PySem.Spec PyProof.Rows L2 Mp Pen
theorem pyL_mono {f g : D → Option PyData} (h : ∀ d p, f d = some p → g d = some p) : ∀ {ds : List D} {ps : List PyData}, pyL f ds = some ps → pyL g ds = some ps
  | [], _, e => e
  | d :: ds, _, e => by
    unfold pyL at e ⊢
    cases e1 : f d with
    | none => rw [e1] at e; cases e
    | some p =>
      cases e2 : pyL f ds with
      | none => rw [e1, e2] at e; cases e
      | some ps => rw [e1, e2] at e; rw [h _ _ e1, pyL_mono h e2]; exact e
theorem pyK_mono {f g : D → Option PyData} (h : ∀ d p, f d = some p → g d = some p) : ∀ {ds : List (Key × D)} {ps : List (PyData × PyData)}, pyK f ds = some ps → pyK g ds = some ps
  | [], _, e => e
  | (k, d) :: ds, _, e => by
    unfold pyK at e ⊢
    cases e1 : f d with
    | none => rw [e1] at e; cases e
    | some p =>
      cases e2 : pyK f ds with
      | none => rw [e1, e2] at e; cases e
      | some ps => rw [e1, e2] at e; rw [h _ _ e1, pyK_mono h e2]; exact e
theorem pyD_keep {st st' : Store} (k : Keep [] st st') : ∀ (n : Nat) (d : D) (p : PyData), pyD st n d = some p → pyD st' n d = some p
  | 0, _, _, h => by cases h
  | n + 1, d, p, h => by
    have ih := pyD_keep k n
    unfold pyD py1 at h ⊢
    cases d with
    | tup xs =>
      obtain ⟨ps, e, rfl⟩ := Option.map_eq_some_iff.mp h
      show (pyL _ xs).map _ = _
      rw [pyL_mono ih e]; rfl
    | loc m =>
      simp only at h ⊢
      cases e : st[m]? with
      | none => rw [e] at h; cases h
      | some o =>
        rw [k.get e (by simp)]
        rw [e] at h
        cases o with
        | lst xs =>
          obtain ⟨ps, e, rfl⟩ := Option.map_eq_some_iff.mp h
          show (pyL _ xs).map _ = _
          rw [pyL_mono ih e]; rfl
        | dK xs =>
          obtain ⟨ps, e, rfl⟩ := Option.map_eq_some_iff.mp h
          show (pyK _ xs).map _ = _
          rw [pyK_mono ih e]; rfl
        | ins _ _ => exact h
    | _ => exact h
/-- may be shown, and its int is small -/
def Rep (st : Store) (d : D) : Prop := ∃ p, pyD st 40 d = some p ∧ Fine p ∧ ∀ i, p = .int i → smallInt i = true
theorem Rep.keep {st st' : Store} {d : D} (h : Rep st d) (k : Keep [] st st') : Rep st' d := by
  obtain ⟨p, h1, h2⟩ := h
  exact ⟨p, pyD_keep k _ _ _ h1, h2⟩
theorem pE_isE {st : Store} {d : D} {p : PyData} (h : pyD st 40 d = some p) : pE p = isE d := by
  unfold pyD py1 at h
  cases d with
  | non => cases h; rfl
  | bl _ => cases h; rfl
  | int _ => cases h; rfl
  | str _ => cases h; rfl
  | kl _ => cases h
  | tup xs => obtain ⟨ps, e, rfl⟩ := Option.map_eq_some_iff.mp h; rfl
  | loc m =>
    simp only at h
    cases e : st[m]? with
    | none => rw [e] at h; cases h
    | some o =>
      rw [e] at h
      cases o with
      | lst xs => obtain ⟨ps, e, rfl⟩ := Option.map_eq_some_iff.mp h; rfl
      | dK xs => obtain ⟨ps, e, rfl⟩ := Option.map_eq_some_iff.mp h; rfl
      | ins _ _ => cases h
theorem repr_in {st : Store} {d : D} (h : Rep st d) : Ok (reprD [d] st) fun x s => Ok (inD x (.loc s.length) (s ++ [MO.lst [D.str "'halt'", D.str "'fault'"]])) fun r s' => r = .bl (isE d) ∧ Keep [] st s' := by
  obtain ⟨p, h1, h2, h3⟩ := h
  unfold reprD
  simp only [h1]
  rw [if_pos (show p.showable = true ∧ p.shown.length ≤ sizeLine from h2)]
  simp only [Ok_ok]
  have e : inO (st ++ [MO.lst [D.str "'halt'", D.str "'fault'"]]) (.str p.shown) (.loc st.length) = some (isE d) := by
    unfold inO
    simp only [snoc_at]
    show inL (eqF _ eqDeep) (.str p.shown) [D.str "'halt'", D.str "'fault'"] = _
    have q : ∀ w : Str, eqF (st ++ [MO.lst [D.str "'halt'", D.str "'fault'"]]) eqDeep (.str w) (.str p.shown) = some (w == p.shown) := fun w => rfl
    simp only [inL, q, Bool.or_false]
    rw [← pE_isE h1, ← shown_ends p h3]
    congr 1
    rw [Bool.eq_iff_iff]
    simp only [Bool.or_eq_true, beq_iff_eq]
    constructor
    · rintro (h | h)
      · exact .inl h.symm
      · exact .inr h.symm
    · rintro (h | h)
      · exact .inl h.symm
      · exact .inr h.symm
  unfold inD
  rw [e]
  exact ⟨rfl, Keep.snoc⟩
def isPair : D → Bool
  | .tup [_, _] => true
  | _ => false
theorem law_is_pair_ok {st : Store} {d : D} (hd : There st d) : Ok (F__law_is_pair [d] st) fun r st' => r = .bl (isPair d) ∧ st' = st := by
  unfold F__law_is_pair
  rw [Ok_fn]
  refine ⟨rfl, ?_⟩
  unfold b__law_is_pair
  simp only [wS_seq, wS_if, wS_asg, wS_ret, wS_expr, wS_skip, wS_par, wS_retN, wS_brk, wS_cnt, wE_C, wE_v, slot_zero, slot_succ, wE_1, wE_2, wE_nil, wE_cons, wE_tup, wE_lst, wE_call, Ok_callN, wE_if, wE_tval, wE_tb1, wE_tand, wE_tor, wE_tnot, wE_and, wE_or, wE_not, wE_chain, wE_bm, wE_repr, wE_sl, wE_pN, wE_tyes, wE_it, wE_dict0, Ok_gNm, Ok_gTp, Ok_gNil, Ok_gCons, Ok_gSb, Ok_ok, isB_bl, truth_bl, List.set_cons_zero, List.set_cons_succ, List.map_cons, List.map_nil, List.cons_append, List.nil_append, List.replicate_succ, List.replicate_zero, List.length_cons, List.length_nil, wipeD, wE_pS, intOf_int, wE_enum, wE_sort, wE_range1]
  rw [isi_tup hd.1]
  simp only [isB_bl, Ok_ok]
  cases d with
  | tup xs =>
    refine ⟨fun _ => ?_, fun h => nomatch h⟩
    rw [len_tup, Pen.eq_int]
    refine ⟨?_, by first | rfl | trivial⟩
    show D.bl _ = D.bl _
    congr 1
    match xs with
    | [] => rfl
    | [_] => rfl
    | [_, _] => rfl
    | a :: b :: c :: r =>
      show ((((a :: b :: c :: r).length : Nat) : Int) == 2) = false
      rw [beq_eq_false_iff_ne]
      simp only [List.length_cons]
      omega
  | _ => exact ⟨fun h => (nomatch h), fun _ => ⟨by first | trivial | rfl, by first | trivial | rfl⟩⟩
end K50
end
section
set_option Elab.async false
set_option linter.all false
set_option maxRecDepth 100000
set_option maxHeartbeats 400000
/-! K50: the law's own check of states. -/
namespace K50
open PySem PySem.Spec PyProof.Rows L2 Mp Pen
def DeepR (st : Store) : Nat → D → Prop
  | 0, d => There st d ∧ Rep st d
  | n + 1, d => (There st d ∧ Rep st d) ∧ ∀ xs, d = .tup xs → xs.length ≤ sizeLine ∧ ∀ x ∈ xs, DeepR st n x
theorem DeepR.there {st : Store} : ∀ {n : Nat} {d : D}, DeepR st n d → There st d
  | 0, _, h => h.1
  | _ + 1, _, h => h.1.1
theorem DeepR.rep {st : Store} : ∀ {n : Nat} {d : D}, DeepR st n d → Rep st d
  | 0, _, h => h.2
  | _ + 1, _, h => h.1.2
theorem DeepR.keep {st st' : Store} (k : Keep [] st st') : ∀ {n : Nat} {d : D}, DeepR st n d → DeepR st' n d
  | 0, _, h => ⟨There.keep h.1 k, h.2.keep k⟩
  | _ + 1, _, h => ⟨⟨h.1.1.keep k, h.1.2.keep k⟩, fun xs e => ⟨(h.2 xs e).1, fun x hx => DeepR.keep k ((h.2 xs e).2 x hx)⟩⟩
theorem DeepR.deep {st : Store} : ∀ {n : Nat} {d : D}, DeepR st n d → Deep st n d
  | 0, _, h => h.1
  | _ + 1, _, h => ⟨h.1.1, fun xs e => ⟨(h.2 xs e).1, fun x hx => DeepR.deep ((h.2 xs e).2 x hx)⟩⟩
theorem DeepR.mem {st : Store} {n : Nat} {xs : List D} (h : DeepR st (n + 1) (.tup xs)) {x : D} (hx : x ∈ xs) : DeepR st n x := (h.2 xs rfl).2 x hx
theorem DeepR.len {st : Store} {n : Nat} {xs : List D} (h : DeepR st (n + 1) (.tup xs)) : xs.length ≤ sizeLine := (h.2 xs rfl).1
theorem pair_of {d : D} (h : isPair d = true) : ∃ a b, d = .tup [a, b] := by
  match d, h with
  | .tup [a, b], _ => exact ⟨a, b, rfl⟩
theorem step_no {n : Int} {x : D} (h : isPair x = false) : isStep n x = false := by
  match x, h with
  | .tup [], _ => rfl
  | .tup [_], _ => rfl
  | .tup (_ :: _ :: _ :: _), _ => rfl
  | .non, _ => rfl
  | .bl _, _ => rfl
  | .int _, _ => rfl
  | .str _, _ => rfl
  | .kl _, _ => rfl
  | .loc _, _ => rfl
theorem state_no {k : Nat} {n : Int} {x : D} (h : isPair x = false) : isState k n x = false := by
  match x, h with
  | .tup [], _ => rfl
  | .tup [a], _ => cases a <;> rfl
  | .tup (a :: _ :: _ :: _), _ => cases a <;> rfl
  | .non, _ => rfl
  | .bl _, _ => rfl
  | .int _, _ => rfl
  | .str _, _ => rfl
  | .kl _, _ => rfl
  | .loc _, _ => rfl
theorem end_no {x : D} (h : isPair x = false) : isEnd x = false := by
  match x, h with
  | .tup [], _ => rfl
  | .tup [_], _ => rfl
  | .tup (_ :: _ :: _ :: _), _ => rfl
  | .non, _ => rfl
  | .bl _, _ => rfl
  | .int _, _ => rfl
  | .str _, _ => rfl
  | .kl _, _ => rfl
  | .loc _, _ => rfl
theorem law_is_state_ok {st : Store} {d : D} {k : Nat} {n : Int} (hd : DeepR st 3 d) : Ok (F__law_is_state [d, .int k, .int n] st) fun r st' => r = .bl (isState k n d) ∧ Keep [] st st' := by
  unfold F__law_is_state
  rw [Ok_fn]
  refine ⟨rfl, ?_⟩
  unfold b__law_is_state
  simp only [wS_seq, wS_if, wS_asg, wS_ret, wS_expr, wS_skip, wS_par, wS_retN, wS_brk, wS_cnt, wE_C, wE_v, slot_zero, slot_succ, wE_1, wE_2, wE_nil, wE_cons, wE_tup, wE_lst, wE_call, Ok_callN, wE_if, wE_tval, wE_tb1, wE_tand, wE_tor, wE_tnot, wE_and, wE_or, wE_not, wE_chain, wE_bm, wE_repr, wE_sl, wE_pN, wE_tyes, wE_it, wE_dict0, Ok_gNm, Ok_gTp, Ok_gNil, Ok_gCons, Ok_gSb, Ok_ok, isB_bl, truth_bl, List.set_cons_zero, List.set_cons_succ, List.map_cons, List.map_nil, List.cons_append, List.nil_append, List.replicate_succ, List.replicate_zero, List.length_cons, List.length_nil, wipeD, wE_pS, intOf_int, wE_enum, wE_sort, wE_range1]
  refine ⟨trivial, ?_⟩
  refine (law_is_pair_ok hd.there).mono ?_
  rintro r s ⟨rfl, rfl⟩
  simp only [truth_bl, Ok_ok]
  refine ⟨fun h => ⟨fun _ => ⟨by rw [state_no (by simpa using h)], .refl⟩, fun h => (nomatch h)⟩, fun h => ?_⟩
  obtain ⟨a, e, rfl⟩ := pair_of (by simpa using h)
  have ha := hd.mem (x := a) (by simp)
  have he := hd.mem (x := e) (by simp)
  rw [ixt0, isi_tup ha.there.1]
  simp only [truth_bl, Ok_ok]
  refine ⟨fun h => ⟨fun _ => ⟨by rw [isState_no2 (by simpa using h)], .refl⟩, fun h => (nomatch h)⟩, fun h => ?_⟩
  cases a with
  | tup ss =>
    rw [ixt0, len_tup, ne_int]
    simp only [isB_bl, Ok_ok]
    refine ⟨fun h => ⟨?_, .refl⟩, fun h => ?_⟩
    · show D.bl false = D.bl ((ss.length == k) && ss.all (isStep n) && isEnd e)
      have : (ss.length == k) = false := by
        cases q : ss.length == k with
        | false => rfl
        | true =>
          rw [eq_of_beq q] at h
          simp at h
      rw [this]; rfl
    · have hk : (ss.length == k) = true := by
        have := eq_of_beq (a := ((ss.length : Nat) : Int)) (b := (k : Int)) (by simpa using h)
        simpa using (by omega : ss.length = k)
      refine wS_for ?_
      simp only [wS_seq, wS_if, wS_asg, wS_ret, wS_expr, wS_skip, wS_par, wS_retN, wS_brk, wS_cnt, wE_C, wE_v, slot_zero, slot_succ, wE_1, wE_2, wE_nil, wE_cons, wE_tup, wE_lst, wE_call, Ok_callN, wE_if, wE_tval, wE_tb1, wE_tand, wE_tor, wE_tnot, wE_and, wE_or, wE_not, wE_chain, wE_bm, wE_repr, wE_sl, wE_pN, wE_tyes, wE_it, wE_dict0, Ok_gNm, Ok_gTp, Ok_gNil, Ok_gCons, Ok_gSb, Ok_ok, isB_bl, truth_bl, List.set_cons_zero, List.set_cons_succ, List.map_cons, List.map_nil, List.cons_append, List.nil_append, List.replicate_succ, List.replicate_zero, List.length_cons, List.length_nil, wipeD, wE_pS, intOf_int, wE_enum, wE_sort, wE_range1]
      rw [ixt0]
      show Ok (R.ok (⟨ss, []⟩ : ItD) s) _
      simp only [Ok_ok]
      refine ⟨fun j ds s2 => ∃ o : Option D, ds = [some (.tup [.tup ss, e]), some (.int k), some (.int n), o] ∧ Keep [] s s2 ∧ (ss.take j).all (isStep n) = true ∧ j ≤ ss.length, ⟨none, rfl, .refl, rfl, Nat.zero_le _⟩, (fun j ds s2 _ p hp => nomatch hp), ?_, ?_⟩
      · rintro j x ds s2 hx ⟨o, rfl, ks, hall, hj⟩
        have hmem := List.mem_of_getElem? hx
        have hlt := (List.getElem?_eq_some_iff.mp hx).1
        have etk : ss.take (j + 1) = ss.take j ++ [x] := by rw [List.take_add_one, hx]; rfl
        have hxd := DeepR.keep ks (ha.mem hmem)
        have bad : ∀ s3, Keep [] s s3 → isStep n x = false → D.bl false = D.bl (isState k n (.tup [.tup ss, e])) ∧ Keep [] s s3 := fun s3 k3 hb => by
          refine ⟨?_, k3⟩
          show D.bl false = D.bl ((ss.length == k) && ss.all (isStep n) && isEnd e)
          have : ss.all (isStep n) = false := by
            cases q : ss.all (isStep n) with
            | false => rfl
            | true => rw [List.all_eq_true] at q; rw [q x hmem] at hb; cases hb
          rw [this]; simp
        simp only [wS_seq, wS_if, wS_asg, wS_ret, wS_expr, wS_skip, wS_par, wS_retN, wS_brk, wS_cnt, wE_C, wE_v, slot_zero, slot_succ, wE_1, wE_2, wE_nil, wE_cons, wE_tup, wE_lst, wE_call, Ok_callN, wE_if, wE_tval, wE_tb1, wE_tand, wE_tor, wE_tnot, wE_and, wE_or, wE_not, wE_chain, wE_bm, wE_repr, wE_sl, wE_pN, wE_tyes, wE_it, wE_dict0, Ok_gNm, Ok_gTp, Ok_gNil, Ok_gCons, Ok_gSb, Ok_ok, isB_bl, truth_bl, List.set_cons_zero, List.set_cons_succ, List.map_cons, List.map_nil, List.cons_append, List.nil_append, List.replicate_succ, List.replicate_zero, List.length_cons, List.length_nil, wipeD, wE_pS, intOf_int, wE_enum, wE_sort, wE_range1]
        refine ⟨trivial, ?_⟩
        refine (law_is_pair_ok hxd.there).mono ?_
        rintro r s3 ⟨rfl, rfl⟩
        simp only [truth_bl, Ok_ok]
        refine ⟨fun h => ⟨fun _ => bad _ ks (step_no (by simpa using h)), fun h => (nomatch h)⟩, fun h => ?_⟩
        obtain ⟨u, v, rfl⟩ := pair_of (by simpa using h)
        rw [ixt0]
        refine ⟨trivial, ?_⟩
        refine (law_is_text_ok (hxd.mem (x := u) (by simp)).there).mono ?_
        rintro r s4 ⟨rfl, k4⟩
        simp only [truth_bl, Ok_ok]
        refine ⟨fun h => ⟨fun _ => bad _ (ks.trans k4) (by show (isT u && isIx n v) = false; rw [Bool.not_eq_true'] at h; rw [h]; rfl), fun h => (nomatch h)⟩, fun h => ?_⟩
        have hu : isT u = true := by simpa using h
        rw [ixt1]
        refine ⟨trivial, ?_⟩
        refine (law_is_index_ok ((hxd.mem (x := v) (by simp)).there.keep k4).1).mono ?_
        rintro r s5 ⟨rfl, k5⟩
        simp only [truth_bl, Ok_ok]
        refine ⟨fun h => bad _ ((ks.trans k4).trans k5) (by show (isT u && isIx n v) = false; rw [Bool.not_eq_true'] at h; rw [h]; simp), fun h => ?_⟩
        refine ⟨_, rfl, (ks.trans k4).trans k5, ?_, hlt⟩
        rw [etk, List.all_append, hall]
        show (true && ((isT u && isIx n v) && true)) = true
        rw [hu, (by simpa using h : isIx n v = true)]; rfl
      · rintro ds s2 ⟨o, rfl, ks, hall, _⟩
        rw [List.take_length] at hall
        have fin : ∀ b : Bool, ∀ s3, b = isEnd e → Keep [] s s3 → D.bl b = D.bl (isState k n (.tup [.tup ss, e])) ∧ Keep [] s s3 := fun b s3 hb k3 => by
          refine ⟨?_, k3⟩
          show D.bl b = D.bl ((ss.length == k) && ss.all (isStep n) && isEnd e)
          rw [hk, hall, hb]; rfl
        simp only [wS_seq, wS_if, wS_asg, wS_ret, wS_expr, wS_skip, wS_par, wS_retN, wS_brk, wS_cnt, wE_C, wE_v, slot_zero, slot_succ, wE_1, wE_2, wE_nil, wE_cons, wE_tup, wE_lst, wE_call, Ok_callN, wE_if, wE_tval, wE_tb1, wE_tand, wE_tor, wE_tnot, wE_and, wE_or, wE_not, wE_chain, wE_bm, wE_repr, wE_sl, wE_pN, wE_tyes, wE_it, wE_dict0, Ok_gNm, Ok_gTp, Ok_gNil, Ok_gCons, Ok_gSb, Ok_ok, isB_bl, truth_bl, List.set_cons_zero, List.set_cons_succ, List.map_cons, List.map_nil, List.cons_append, List.nil_append, List.replicate_succ, List.replicate_zero, List.length_cons, List.length_nil, wipeD, wE_pS, intOf_int, wE_enum, wE_sort, wE_range1]
        rw [ixt1]
        refine ⟨trivial, ?_⟩
        have hed := DeepR.keep ks he
        refine (law_is_pair_ok hed.there).mono ?_
        rintro r s3 ⟨rfl, rfl⟩
        simp only [isB_bl, Ok_ok]
        refine ⟨fun h => ?_, fun h => fin _ _ (end_no h).symm ks⟩
        obtain ⟨u, v, rfl⟩ := pair_of h
        rw [ixt1, ixt0]
        refine ⟨trivial, ?_⟩
        refine (law_is_text_ok (hed.mem (x := u) (by simp)).there).mono ?_
        rintro r s4 ⟨rfl, k4⟩
        simp only [isB_bl, Ok_ok]
        refine ⟨fun h => ?_, fun h => fin _ _ (by show false = (isT u && isE v); rw [h]; rfl) (ks.trans k4)⟩
        rw [ixt1, ixt1]
        refine (repr_in ((hed.mem (x := v) (by simp)).rep.keep k4)).mono fun x s5 q => ⟨by rw [sizeLine_eq]; omega, q.mono ?_⟩
        rintro r s6 ⟨rfl, k6⟩
        exact fin _ _ (by show isE v = (isT u && isE v); rw [h]; rfl) ((ks.trans k4).trans k6)
  | _ => cases h
end K50
end
section
set_option Elab.async false
set_option linter.all false
set_option maxRecDepth 100000
set_option maxHeartbeats 400000
/-! K50: alphabets. -/
namespace K50
open PySem PySem.Spec PyProof.Rows L2 Mp Pen
theorem eqL_strs {st : Store} {n : Nat} : ∀ {xs ys : List Str}, xs.length = ys.length → eqL (eqF st (n + 1)) (xs.map D.str) (ys.map D.str) = some (xs == ys)
  | [], [], _ => rfl
  | [], _ :: _, h => by cases h
  | _ :: _, [], h => by cases h
  | x :: xs, y :: ys, h => by
    rw [List.map_cons, List.map_cons, eqL, eqL_strs (by simpa using h)]
    rfl
theorem eq_strs {st : Store} {n m : Nat} {xs ys : List Str} {Q : D → Store → Prop} (h : st[n]? = some (.lst (xs.map D.str))) (h' : st[m]? = some (.lst (ys.map D.str))) :
    Ok (eqD (.loc n) (.loc m) st) Q = Q (.bl (xs == ys)) st ∧ Ok (neD (.loc n) (.loc m) st) Q = Q (.bl (!(xs == ys))) st := by
  have e : eqF st eqDeep (.loc n) (.loc m) = some (xs == ys) := by
    show eq1 st (eqF st 39) (.loc n) (.loc m) = _
    unfold eq1
    simp only [h, h', List.length_map]
    split
    · exact eqL_strs (by assumption)
    · rename_i hne
      have : (xs == ys) = false := by
        rw [beq_eq_false_iff_ne]
        intro q
        exact hne (by rw [q])
      rw [this]
  constructor
  · unfold eqD; rw [e]; rfl
  · unfold neD; rw [e]; rfl
def srt (x : Str) : Bool := signsOf x == sortU (signsOf x)
theorem items_signs (x : Str) : strItems x = (signsOf x).map D.str := by
  unfold strItems signsOf
  rw [List.map_map]
  rfl
theorem list_str {x : Str} {st : Store} {Q : D → Store → Prop} (hz : x.length ≤ sizeLine) (q : Q (.loc st.length) (st ++ [.lst ((signsOf x).map D.str)])) : Ok (listD [.str x] st) Q := by
  show Ok (list1 (.str x) st) Q
  unfold list1
  simp only
  rw [if_pos hz, items_signs]
  exact q
theorem is_character_ok {st : Store} {c : Nat} : Ok (F_is_character [.str (sg c)] st) fun r s => r = .bl (okSign c) ∧ s = st := by
  have hz : (sg c).length ≤ sizeLine := by show 1 ≤ sizeLine; rw [sizeLine_eq]; omega
  unfold F_is_character
  rw [Ok_fn]
  refine ⟨rfl, ?_⟩
  unfold b_is_character
  simp only [wS_seq, wS_if, wS_asg, wS_ret, wS_expr, wS_skip, wS_par, wS_retN, wS_brk, wS_cnt, wE_C, wE_v, slot_zero, slot_succ, wE_1, wE_2, wE_nil, wE_cons, wE_tup, wE_lst, wE_call, Ok_callN, wE_if, wE_tval, wE_tb1, wE_tand, wE_tor, wE_tnot, wE_and, wE_or, wE_not, wE_chain, wE_bm, wE_repr, wE_sl, wE_pN, wE_tyes, wE_it, wE_dict0, Ok_gNm, Ok_gTp, Ok_gNil, Ok_gCons, Ok_gSb, Ok_ok, isB_bl, truth_bl, List.set_cons_zero, List.set_cons_succ, List.map_cons, List.map_nil, List.cons_append, List.nil_append, List.replicate_succ, List.replicate_zero, List.length_cons, List.length_nil, wipeD, wE_pS, intOf_int, wE_enum, wE_sort, wE_range1]
  rw [isi_str ⟨_, rfl⟩]
  simp only [isB_bl, Ok_ok]
  refine ⟨fun _ => ?_, fun h => nomatch h⟩
  rw [len_str hz, Pen.eq_int]
  simp only [isB_bl, Ok_ok]
  refine ⟨fun _ => ?_, fun h => nomatch h⟩
  rw [le_low]
  simp only [isB_bl, Ok_ok]
  refine ⟨fun h => ?_, fun h => ?_⟩
  · rw [le_high]
    refine ⟨?_, by first | rfl | trivial⟩
    unfold okSign
    rw [h]; simp
  · refine ⟨?_, by first | rfl | trivial⟩
    unfold okSign
    rw [h]; simp
def isAl : D → Bool
  | .str x => decide (1 ≤ x.length) && decide (x.length ≤ 3) && x.cps.toList.all okSign && srt x
  | _ => false
theorem is_alphabet_ok {st : Store} {d : D} (hd : There st d) : Ok (F_is_alphabet [d] st) fun r st' => r = .bl (isAl d) ∧ Keep [] st st' := by
  unfold F_is_alphabet
  rw [Ok_fn]
  refine ⟨rfl, ?_⟩
  unfold b_is_alphabet
  simp only [wS_seq, wS_if, wS_asg, wS_ret, wS_expr, wS_skip, wS_par, wS_retN, wS_brk, wS_cnt, wE_C, wE_v, slot_zero, slot_succ, wE_1, wE_2, wE_nil, wE_cons, wE_tup, wE_lst, wE_call, Ok_callN, wE_if, wE_tval, wE_tb1, wE_tand, wE_tor, wE_tnot, wE_and, wE_or, wE_not, wE_chain, wE_bm, wE_repr, wE_sl, wE_pN, wE_tyes, wE_it, wE_dict0, Ok_gNm, Ok_gTp, Ok_gNil, Ok_gCons, Ok_gSb, Ok_ok, isB_bl, truth_bl, List.set_cons_zero, List.set_cons_succ, List.map_cons, List.map_nil, List.cons_append, List.nil_append, List.replicate_succ, List.replicate_zero, List.length_cons, List.length_nil, wipeD, wE_pS, intOf_int, wE_enum, wE_sort, wE_range1]
  rw [isi_str hd.1]
  simp only [truth_bl, Ok_ok]
  cases d with
  | str x =>
    have hz := hd.2.1 x rfl
    refine ⟨fun h => (nomatch h), fun _ => ?_⟩
    rw [len_str hz, Pen.le_int]
    simp only [isB_bl, Ok_ok]
    refine ⟨fun h1 => ?_, fun h1 => ⟨fun _ => ⟨?_, .refl⟩, fun h => (nomatch h)⟩⟩
    · have h1 : 1 ≤ x.length := by have := of_decide_eq_true h1; omega
      rw [Pen.le_int]
      simp only [isB_bl, Ok_ok]
      have key : ∀ (b1 b2 : Bool), b1 = decide (x.length ≤ 3) → b2 = x.cps.toList.all okSign → ∀ b3, (b1 = true → b2 = true → b3 = srt x) → (b1 && b2 && b3) = isAl (.str x) := by
        intro b1 b2 e1 e2 b3 e3
        show _ = (decide (1 ≤ x.length) && decide (x.length ≤ 3) && x.cps.toList.all okSign && srt x)
        rw [decide_eq_true h1, ← e1, ← e2]
        cases b1 with
        | false => rfl
        | true =>
          cases b2 with
          | false => rfl
          | true => rw [e3 rfl rfl]; rfl
      have e3 : decide (((x.length : Nat) : Int) ≤ 3) = decide (x.length ≤ 3) := by
        by_cases q : x.length ≤ 3
        · rw [decide_eq_true q, decide_eq_true (by omega)]
        · rw [decide_eq_false q, decide_eq_false (by omega)]
      rw [e3]
      refine ⟨fun h => ⟨?_, .refl⟩, fun h => ?_⟩
      · rw [← key (decide (x.length ≤ 3)) _ rfl rfl false fun a => by rw [a] at h; cases h]
        rw [Bool.and_false]
      · have hle : decide (x.length ≤ 3) = true := by simpa using h
        have hle' : x.length ≤ 3 := of_decide_eq_true hle
        refine wE_lc ?_
        simp only [wS_seq, wS_if, wS_asg, wS_ret, wS_expr, wS_skip, wS_par, wS_retN, wS_brk, wS_cnt, wE_C, wE_v, slot_zero, slot_succ, wE_1, wE_2, wE_nil, wE_cons, wE_tup, wE_lst, wE_call, Ok_callN, wE_if, wE_tval, wE_tb1, wE_tand, wE_tor, wE_tnot, wE_and, wE_or, wE_not, wE_chain, wE_bm, wE_repr, wE_sl, wE_pN, wE_tyes, wE_it, wE_dict0, Ok_gNm, Ok_gTp, Ok_gNil, Ok_gCons, Ok_gSb, Ok_ok, isB_bl, truth_bl, List.set_cons_zero, List.set_cons_succ, List.map_cons, List.map_nil, List.cons_append, List.nil_append, List.replicate_succ, List.replicate_zero, List.length_cons, List.length_nil, wipeD, wE_pS, intOf_int, wE_enum, wE_sort, wE_range1]
        show Ok (R.ok (⟨strItems x, []⟩ : ItD) st) _
        simp only [Ok_ok]
        refine ⟨fun i acc s => acc = ((x.cps.toList.take i).map okSign).map D.bl ∧ s = st ∧ i ≤ x.cps.toList.length, ?_, ⟨rfl, rfl, Nat.zero_le _⟩, ?_, ?_, ?_⟩
        · rw [items_len, ← cps_len]; exact hz
        · rintro i acc s ⟨rfl, rfl, hi⟩
          exact ⟨fun p hp => (nomatch hp), by rw [List.length_map, List.length_map, List.length_take]; omega⟩
        · rintro i y acc s hy ⟨rfl, rfl, hi⟩
          obtain ⟨c, rfl, hc⟩ := sign_item hy
          have hlt := (List.getElem?_eq_some_iff.mp hc).1
          have etk : x.cps.toList.take (i + 1) = x.cps.toList.take i ++ [c] := by rw [List.take_add_one, hc]; rfl
          refine ⟨fun _ => ⟨trivial, ?_⟩, fun h => nomatch h⟩
          refine is_character_ok.mono ?_
          rintro r s2 ⟨rfl, rfl⟩
          rw [etk]
          exact ⟨by simp, by first | rfl | trivial, hlt⟩
        · rintro acc s ⟨rfl, rfl, hi⟩
          rw [all_lst snoc_at]
          simp only [isB_bl, Ok_ok]
          rw [items_len, List.take_length, List.all_map]
          have k1 : Keep [] s (s ++ [MO.lst ((x.cps.toList.map okSign).map D.bl)]) := Keep.snoc
          generalize s ++ [MO.lst ((x.cps.toList.map okSign).map D.bl)] = s1 at k1 ⊢
          refine ⟨fun ha => ?_, fun ha => ⟨?_, k1⟩⟩
          · have ha : x.cps.toList.all okSign = true := ha
            refine list_str hz ?_
            have es : strsIn (s1 ++ [MO.lst ((signsOf x).map D.str)]) (.str x) = some (signsOf x) := rfl
            have hsl : (signsOf x).length < 64 := by unfold signsOf; rw [List.length_map, ← cps_len]; omega
            simp only [es]
            rw [if_pos hsl]
            simp only [Ok_ok]
            rw [(eq_strs (xs := signsOf x) (ys := sortU (signsOf x)) (by rw [List.getElem?_append_left (by simp)]; exact snoc_at) snoc_at).1]
            refine ⟨?_, (k1.trans Keep.snoc).trans Keep.snoc⟩
            rw [← key (decide (x.length ≤ 3)) (x.cps.toList.all okSign) rfl rfl (srt x) fun _ _ => rfl, hle, ha]
            rfl
          · have ha : x.cps.toList.all okSign = false := ha
            rw [← key (decide (x.length ≤ 3)) (x.cps.toList.all okSign) rfl rfl (srt x) fun _ _ => rfl, hle, ha]
            rfl
    · have h1 : decide (1 ≤ x.length) = false := by
        rw [decide_eq_false_iff_not] at h1 ⊢
        omega
      show D.bl false = D.bl (decide (1 ≤ x.length) && decide (x.length ≤ 3) && x.cps.toList.all okSign && srt x)
      rw [h1]; rfl
  | _ => exact ⟨fun _ => ⟨fun _ => ⟨rfl, .refl⟩, fun h => (nomatch h)⟩, fun h => (nomatch h)⟩
end K50
end
section
set_option Elab.async false
set_option linter.all false
set_option maxRecDepth 100000
set_option maxHeartbeats 400000
/-! K50: machines. -/
namespace K50
open PySem PySem.Spec PyProof.Rows L2 Mp Pen
def lenS : D → Nat
  | .str x => x.length
  | _ => 0
def isSts (k : Nat) : D → Bool
  | .tup ss => !ss.isEmpty && ss.all (isState k ss.length)
  | _ => false
def isMach : D → Bool
  | .tup [a, p, s] => isAl a && isT p && isSts (lenS a) s
  | _ => false
theorem mach_no {xs : List D} (h : xs.length ≠ 3) : isMach (.tup xs) = false := by
  match xs, h with
  | [], _ => rfl
  | [_], _ => rfl
  | [_, _], _ => rfl
  | _ :: _ :: _ :: _ :: _, _ => rfl
theorem len3 {xs : List D} (h : ((xs.length : Nat) : Int) = 3) : ∃ a b c, xs = [a, b, c] := by
  have : xs.length = 3 := by omega
  match xs, this with
  | [a, b, c], _ => exact ⟨a, b, c, rfl⟩
theorem eq_tnil {xs : List D} {st : Store} {Q : D → Store → Prop} : Ok (eqD (.tup xs) (.tup []) st) Q = Q (.bl xs.isEmpty) st := by
  cases xs with
  | nil => rfl
  | cons x xs => rfl
theorem is_machine_ok {st : Store} {d : D} (hd : DeepR st 5 d) : Ok (F_is_machine [d] st) fun r st' => r = .bl (isMach d) ∧ Keep [] st st' := by
  unfold F_is_machine
  rw [Ok_fn]
  refine ⟨rfl, ?_⟩
  unfold b_is_machine
  simp only [wS_seq, wS_if, wS_asg, wS_ret, wS_expr, wS_skip, wS_par, wS_retN, wS_brk, wS_cnt, wE_C, wE_v, slot_zero, slot_succ, wE_1, wE_2, wE_nil, wE_cons, wE_tup, wE_lst, wE_call, Ok_callN, wE_if, wE_tval, wE_tb1, wE_tand, wE_tor, wE_tnot, wE_and, wE_or, wE_not, wE_chain, wE_bm, wE_repr, wE_sl, wE_pN, wE_tyes, wE_it, wE_dict0, Ok_gNm, Ok_gTp, Ok_gNil, Ok_gCons, Ok_gSb, Ok_ok, isB_bl, truth_bl, List.set_cons_zero, List.set_cons_succ, List.map_cons, List.map_nil, List.cons_append, List.nil_append, List.replicate_succ, List.replicate_zero, List.length_cons, List.length_nil, wipeD, wE_pS, intOf_int, wE_enum, wE_sort, wE_range1]
  rw [isi_tup hd.there.1]
  simp only [truth_bl, Ok_ok]
  cases d with
  | tup xs =>
    refine ⟨fun h => (nomatch h), fun _ => ?_⟩
    rw [len_tup, ne_int]
    simp only [isB_bl, Ok_ok]
    refine ⟨fun h => ⟨fun _ => ⟨by rw [mach_no fun e => by rw [e] at h; cases h], .refl⟩, fun h => (nomatch h)⟩, fun h => ?_⟩
    obtain ⟨a, p, s, rfl⟩ := len3 (xs := xs) (eq_of_beq (by simpa using h))
    have ha := hd.mem (x := a) (by simp)
    have hp := hd.mem (x := p) (by simp)
    have hs := hd.mem (x := s) (by simp)
    have bad : ∀ s3, Keep [] st s3 → (isAl a && isT p && isSts (lenS a) s) = false → D.bl false = D.bl (isMach (.tup [a, p, s])) ∧ Keep [] st s3 := fun s3 k3 hb => ⟨by show D.bl false = D.bl (isAl a && isT p && isSts (lenS a) s); rw [hb], k3⟩
    rw [ixt0]
    refine ⟨trivial, ?_⟩
    refine (is_alphabet_ok ha.there).mono ?_
    rintro r s1 ⟨rfl, k1⟩
    simp only [truth_bl, Ok_ok]
    refine ⟨fun h => ⟨fun _ => bad _ k1 (by rw [Bool.not_eq_true'] at h; rw [h]; rfl), fun h => (nomatch h)⟩, fun h => ?_⟩
    have hal : isAl a = true := by simpa using h
    rw [ixt1]
    refine ⟨trivial, ?_⟩
    refine (is_text_ok (hp.there.keep k1)).mono ?_
    rintro r s2 ⟨rfl, k2⟩
    simp only [truth_bl, Ok_ok]
    have k12 := k1.trans k2
    refine ⟨fun h => bad _ k12 (by rw [Bool.not_eq_true'] at h; rw [h]; simp), fun h => ?_⟩
    have htx : isT p = true := by simpa using h
    simp only [wS_seq, wS_if, wS_asg, wS_ret, wS_expr, wS_skip, wS_par, wS_retN, wS_brk, wS_cnt, wE_C, wE_v, slot_zero, slot_succ, wE_1, wE_2, wE_nil, wE_cons, wE_tup, wE_lst, wE_call, Ok_callN, wE_if, wE_tval, wE_tb1, wE_tand, wE_tor, wE_tnot, wE_and, wE_or, wE_not, wE_chain, wE_bm, wE_repr, wE_sl, wE_pN, wE_tyes, wE_it, wE_dict0, Ok_gNm, Ok_gTp, Ok_gNil, Ok_gCons, Ok_gSb, Ok_ok, isB_bl, truth_bl, List.set_cons_zero, List.set_cons_succ, List.map_cons, List.map_nil, List.cons_append, List.nil_append, List.replicate_succ, List.replicate_zero, List.length_cons, List.length_nil, wipeD, wE_pS, intOf_int, wE_enum, wE_sort, wE_range1]
    refine ⟨trivial, ?_⟩
    have hs2 := DeepR.keep k12 hs
    rw [isi_tup hs2.there.1]
    simp only [truth_bl, Ok_ok]
    have bad2 : ∀ s3, Keep [] st s3 → isSts (lenS a) s = false → D.bl false = D.bl (isMach (.tup [a, p, s])) ∧ Keep [] st s3 := fun s3 k3 hb => bad s3 k3 (by rw [hb]; simp)
    cases s with
    | tup ss =>
      refine ⟨fun h => (nomatch h), fun _ => ?_⟩
      refine ⟨Nat.zero_le _, ?_⟩
      rw [eq_tnil]
      simp only [isB_bl, Ok_ok]
      refine ⟨fun h => bad2 _ k12 (by show (!ss.isEmpty && ss.all (isState (lenS a) ss.length)) = false; rw [h]; rfl), fun hne => ?_⟩
      cases a with
      | str x =>
        refine all_items (f := isState x.length ss.length) hs2.len (fun y hy s3 k3 => ?_) (fun s3 k3 => ?_) (m := mVar 3) rfl
        · simp only [wS_seq, wS_if, wS_asg, wS_ret, wS_expr, wS_skip, wS_par, wS_retN, wS_brk, wS_cnt, wE_C, wE_v, slot_zero, slot_succ, wE_1, wE_2, wE_nil, wE_cons, wE_tup, wE_lst, wE_call, Ok_callN, wE_if, wE_tval, wE_tb1, wE_tand, wE_tor, wE_tnot, wE_and, wE_or, wE_not, wE_chain, wE_bm, wE_repr, wE_sl, wE_pN, wE_tyes, wE_it, wE_dict0, Ok_gNm, Ok_gTp, Ok_gNil, Ok_gCons, Ok_gSb, Ok_ok, isB_bl, truth_bl, List.set_cons_zero, List.set_cons_succ, List.map_cons, List.map_nil, List.cons_append, List.nil_append, List.replicate_succ, List.replicate_zero, List.length_cons, List.length_nil, wipeD, wE_pS, intOf_int, wE_enum, wE_sort, wE_range1]
          rw [len_str (ha.there.2.1 x rfl), len_tup]
          refine ⟨trivial, ?_⟩
          exact is_state_ok (DeepR.keep k3 (hs2.mem hy)).deep
        · refine ⟨?_, k12.trans k3⟩
          show D.bl _ = D.bl (isAl (.str x) && isT p && (!ss.isEmpty && ss.all (isState x.length ss.length)))
          rw [hal, htx, hne]; rfl
      | _ => cases hal
    | _ => exact ⟨fun _ => ⟨fun _ => bad2 _ k12 rfl, fun h => (nomatch h)⟩, fun h => (nomatch h)⟩
  | _ => exact ⟨fun _ => ⟨fun _ => ⟨rfl, .refl⟩, fun h => (nomatch h)⟩, fun h => (nomatch h)⟩
end K50
end
section
set_option Elab.async false
set_option linter.all false
set_option maxRecDepth 100000
set_option maxHeartbeats 400000
/-! K50: the law's own check of machines. -/
namespace K50
open PySem PySem.Spec PyProof.Rows L2 Mp Pen
theorem inL_bls {st : Store} {n : Nat} : ∀ bs : List Bool, inL (eqF st (n + 1)) (.bl false) (bs.map D.bl) = some (!bs.all id)
  | [] => rfl
  | b :: bs => by
    rw [List.map_cons, inL, inL_bls bs]
    cases b with
    | false => rfl
    | true => rfl
theorem nin_bls {st : Store} {n : Nat} {bs : List Bool} {Q : D → Store → Prop} (h : st[n]? = some (.lst (bs.map D.bl))) : Ok (ninD (.bl false) (.loc n) st) Q = Q (.bl (bs.all id)) st := by
  have e : inO st (.bl false) (.loc n) = some (!bs.all id) := by
    unfold inO
    simp only [h]
    exact inL_bls bs
  unfold ninD
  rw [e]
  show Q (.bl (!(!bs.all id))) st = _
  rw [Bool.not_not]
theorem lc_items {st : Store} {ds : DSt} {xs : List D} {f : D → Bool} {i : Nat} {te : M D} {K : D → Store → Prop} (hz : xs.length ≤ sizeLine)
    (hf : ∀ x ∈ xs, ∀ s, Keep [] st s → Mp.wE te ((wipeD ds [i]).set i (some x)) s fun r s' => r = .bl (f x) ∧ Keep [] s s') (q : ∀ s, Keep [] st s → K (.loc s.length) (s ++ [MO.lst ((xs.map f).map D.bl)])) {m : M D} (hm : m ds st = .ok (.tup xs) st) :
    Mp.wE (mLc (mIt m) (gNm i) tYes' te [i]) ds st K := by
  refine wE_lc ?_
  unfold Mp.wE mIt
  rw [hm]
  show Ok (R.ok (⟨xs, []⟩ : ItD) st) _
  simp only [Ok_ok]
  refine ⟨fun j acc s => acc = ((xs.take j).map f).map D.bl ∧ Keep [] st s ∧ j ≤ xs.length, hz, ⟨rfl, .refl, Nat.zero_le _⟩, ?_, ?_, ?_⟩
  · rintro j acc s ⟨rfl, _, hj⟩
    exact ⟨fun p hp => (nomatch hp), by rw [List.length_map, List.length_map, List.length_take]; omega⟩
  · rintro j x acc s hx ⟨rfl, k, hj⟩
    have hlt := (List.getElem?_eq_some_iff.mp hx).1
    have etk : xs.take (j + 1) = xs.take j ++ [x] := by rw [List.take_add_one, hx]; rfl
    rw [Ok_gNm]
    refine ⟨fun _ => ?_, fun h => nomatch h⟩
    refine (hf x (List.mem_of_getElem? hx) s k).mono ?_
    rintro r s' ⟨rfl, k'⟩
    rw [etk]
    exact ⟨by simp, k.trans k', hlt⟩
  · rintro acc s ⟨rfl, k, hj⟩
    rw [List.take_length]
    exact q _ k
theorem isAl_of {x : Str} (ht : isT (.str x) = true) : isAl (.str x) = (decide (1 ≤ x.length) && decide (x.length ≤ 3) && srt x) := by
  show (decide (1 ≤ x.length) && decide (x.length ≤ 3) && x.cps.toList.all okSign && srt x) = _
  have : x.cps.toList.all okSign = true := ht
  rw [this, Bool.and_true]
theorem isT_of_isAl {d : D} (h : isAl d = true) : isT d = true := by
  cases d with
  | str x =>
    have h : (decide (1 ≤ x.length) && decide (x.length ≤ 3) && x.cps.toList.all okSign && srt x) = true := h
    show x.cps.toList.all okSign = true
    simp only [Bool.and_eq_true] at h
    exact h.1.2
  | _ => cases h
theorem law_is_machine_ok {st : Store} {d : D} (hd : DeepR st 5 d) : Ok (F__law_is_machine [d] st) fun r st' => r = .bl (isMach d) ∧ Keep [] st st' := by
  unfold F__law_is_machine
  rw [Ok_fn]
  refine ⟨rfl, ?_⟩
  unfold b__law_is_machine
  simp only [wS_seq, wS_if, wS_asg, wS_ret, wS_expr, wS_skip, wS_par, wS_retN, wS_brk, wS_cnt, wE_C, wE_v, slot_zero, slot_succ, wE_1, wE_2, wE_nil, wE_cons, wE_tup, wE_lst, wE_call, Ok_callN, wE_if, wE_tval, wE_tb1, wE_tand, wE_tor, wE_tnot, wE_and, wE_or, wE_not, wE_chain, wE_bm, wE_repr, wE_sl, wE_pN, wE_tyes, wE_it, wE_dict0, Ok_gNm, Ok_gTp, Ok_gNil, Ok_gCons, Ok_gSb, Ok_ok, isB_bl, truth_bl, List.set_cons_zero, List.set_cons_succ, List.map_cons, List.map_nil, List.cons_append, List.nil_append, List.replicate_succ, List.replicate_zero, List.length_cons, List.length_nil, wipeD, wE_pS, intOf_int, wE_enum, wE_sort, wE_range1]
  rw [isi_tup hd.there.1]
  simp only [truth_bl, Ok_ok]
  cases d with
  | tup xs =>
    refine ⟨fun h => (nomatch h), fun _ => ?_⟩
    rw [len_tup, ne_int]
    simp only [isB_bl, Ok_ok]
    refine ⟨fun h => ⟨fun _ => ⟨by rw [mach_no fun e => by rw [e] at h; cases h], .refl⟩, fun h => (nomatch h)⟩, fun h => ?_⟩
    obtain ⟨a, p, s, rfl⟩ := len3 (xs := xs) (eq_of_beq (by simpa using h))
    have ha := hd.mem (x := a) (by simp)
    have hp := hd.mem (x := p) (by simp)
    have hs := hd.mem (x := s) (by simp)
    have bad : ∀ s3, Keep [] st s3 → (isAl a && isT p && isSts (lenS a) s) = false → D.bl false = D.bl (isMach (.tup [a, p, s])) ∧ Keep [] st s3 := fun s3 k3 hb => ⟨by show D.bl false = D.bl (isAl a && isT p && isSts (lenS a) s); rw [hb], k3⟩
    rw [ixt0]
    refine ⟨trivial, ?_⟩
    refine (law_is_text_ok ha.there).mono ?_
    rintro r s1 ⟨rfl, k1⟩
    simp only [truth_bl, Ok_ok]
    refine ⟨fun h => ⟨fun _ => bad _ k1 ?_, fun h => (nomatch h)⟩, fun h => ?_⟩
    · have : isAl a = false := by
        cases q : isAl a with
        | false => rfl
        | true => rw [isT_of_isAl q] at h; cases h
      rw [this]; rfl
    have hta : isT a = true := by simpa using h
    rw [ixt1]
    refine ⟨trivial, ?_⟩
    refine (law_is_text_ok (hp.there.keep k1)).mono ?_
    rintro r s2 ⟨rfl, k2⟩
    simp only [truth_bl, Ok_ok]
    have k12 := k1.trans k2
    refine ⟨fun h => bad _ k12 (by rw [Bool.not_eq_true'] at h; rw [h]; simp), fun h => ?_⟩
    have htx : isT p = true := by simpa using h
    cases a with
    | str x =>
      have hz := ha.there.2.1 x rfl
      rw [ixt0, len_str hz, Pen.le_int]
      simp only [isB_bl, Ok_ok]
      have bad3 : ∀ s3, Keep [] st s3 → (decide (1 ≤ x.length) && decide (x.length ≤ 3) && srt x) = false → D.bl false = D.bl (isMach (.tup [.str x, p, s])) ∧ Keep [] st s3 := fun s3 k3 hb => bad s3 k3 (by rw [isAl_of hta, hb]; rfl)
      refine ⟨fun h1 => ?_, fun h1 => ⟨fun _ => ⟨fun _ => bad3 _ k12 ?_, fun h => (nomatch h)⟩, fun h => (nomatch h)⟩⟩
      · have h1' : decide (1 ≤ x.length) = true := by
          have := of_decide_eq_true h1
          exact decide_eq_true (by omega)
        rw [Pen.le_int]
        simp only [isB_bl, Ok_ok]
        refine ⟨fun h => ⟨fun _ => bad3 _ k12 ?_, fun h => (nomatch h)⟩, fun h => ?_⟩
        · have : decide (x.length ≤ 3) = false := by
            rw [decide_eq_false_iff_not]
            intro q
            rw [decide_eq_true (show ((x.length : Nat) : Int) ≤ 3 by omega)] at h
            cases h
          rw [this]; simp
        · have h3 : x.length ≤ 3 := by
            have h : decide (((x.length : Nat) : Int) ≤ 3) = true := by simpa using h
            have := of_decide_eq_true h
            omega
          have h3' : decide (x.length ≤ 3) = true := decide_eq_true h3
          rw [ixt0]
          refine list_str hz ?_
          rw [ixt0]
          have es : strsIn (s2 ++ [MO.lst ((signsOf x).map D.str)]) (.str x) = some (signsOf x) := rfl
          have hsl : (signsOf x).length < 64 := by unfold signsOf; rw [List.length_map, ← cps_len]; omega
          simp only [es]
          rw [if_pos hsl]
          simp only [Ok_ok]
          rw [(eq_strs (xs := signsOf x) (ys := sortU (signsOf x)) (by rw [List.getElem?_append_left (by simp)]; exact snoc_at) snoc_at).2]
          simp only [isB_bl, Ok_ok]
          have k3 := (k12.trans (Keep.snoc (o := MO.lst ((signsOf x).map D.str)))).trans (Keep.snoc (o := MO.lst ((sortU (signsOf x)).map D.str)))
          generalize s2 ++ [MO.lst ((signsOf x).map D.str)] ++ [MO.lst ((sortU (signsOf x)).map D.str)] = s4 at k3 ⊢
          refine ⟨fun h => bad3 _ k3 ?_, fun h => ?_⟩
          · have : srt x = false := by
              show (signsOf x == sortU (signsOf x)) = false
              simpa using h
            rw [this]; simp
          · have hsr : srt x = true := by
              show (signsOf x == sortU (signsOf x)) = true
              rw [Bool.not_eq_false'] at h
              exact h
            have hal : isAl (.str x) = true := by rw [isAl_of hta, h1', h3', hsr]; rfl
            have hs2 := DeepR.keep k3 hs
            have bad2 : ∀ s3, Keep [] st s3 → isSts (lenS (.str x)) s = false → D.bl false = D.bl (isMach (.tup [.str x, p, s])) ∧ Keep [] st s3 := fun s3 k3 hb => bad s3 k3 (by rw [hb]; simp)
            rw [ixt2, isi_tup hs2.there.1]
            simp only [truth_bl, Ok_ok]
            cases s with
            | tup ss =>
              refine ⟨fun h => (nomatch h), fun _ => ?_⟩
              rw [ixt2]
              refine ⟨Nat.zero_le _, ?_⟩
              rw [eq_tnil]
              simp only [isB_bl, Ok_ok]
              refine ⟨fun h => bad2 _ k3 (by show (!ss.isEmpty && ss.all (isState x.length ss.length)) = false; rw [h]; rfl), fun hne => ?_⟩
              refine lc_items (f := isState x.length ss.length) hs2.len (fun y hy s5 k5 => ?_) (fun s5 k5 => ?_) (m := m2 ixD (mVar 0) (mC (D.int 2))) rfl
              · simp only [wS_seq, wS_if, wS_asg, wS_ret, wS_expr, wS_skip, wS_par, wS_retN, wS_brk, wS_cnt, wE_C, wE_v, slot_zero, slot_succ, wE_1, wE_2, wE_nil, wE_cons, wE_tup, wE_lst, wE_call, Ok_callN, wE_if, wE_tval, wE_tb1, wE_tand, wE_tor, wE_tnot, wE_and, wE_or, wE_not, wE_chain, wE_bm, wE_repr, wE_sl, wE_pN, wE_tyes, wE_it, wE_dict0, Ok_gNm, Ok_gTp, Ok_gNil, Ok_gCons, Ok_gSb, Ok_ok, isB_bl, truth_bl, List.set_cons_zero, List.set_cons_succ, List.map_cons, List.map_nil, List.cons_append, List.nil_append, List.replicate_succ, List.replicate_zero, List.length_cons, List.length_nil, wipeD, wE_pS, intOf_int, wE_enum, wE_sort, wE_range1]
                rw [ixt0, len_str hz, ixt2, len_tup]
                refine ⟨trivial, ?_⟩
                exact law_is_state_ok (DeepR.keep k5 (hs2.mem hy))
              · rw [nin_bls snoc_at, List.all_map]
                refine ⟨?_, (k3.trans k5).trans Keep.snoc⟩
                show D.bl (ss.all (isState x.length ss.length)) = D.bl (isAl (.str x) && isT p && (!ss.isEmpty && ss.all (isState x.length ss.length)))
                rw [hal, htx, hne]; rfl
            | _ => exact ⟨fun _ => ⟨fun _ => bad2 _ k3 rfl, fun h => (nomatch h)⟩, fun h => (nomatch h)⟩
      · have : decide (1 ≤ x.length) = false := by
          rw [decide_eq_false_iff_not] at h1 ⊢
          omega
        rw [this]; rfl
    | _ => cases hta
  | _ => exact ⟨fun _ => ⟨fun _ => ⟨rfl, .refl⟩, fun h => (nomatch h)⟩, fun h => (nomatch h)⟩
end K50
end
section
set_option Elab.async false
set_option linter.all false
set_option maxRecDepth 100000
set_option maxHeartbeats 400000
/-! K50: _law_same of Bools, of texts. -/
namespace K50
open PySem PySem.Spec PyProof.Rows L2 Mp Pen
theorem is_non {d : D} {st : Store} {Q : D → Store → Prop} : Ok (isD false d .non st) Q = Q (.bl (isNonD d)) st := by
  unfold isD
  simp only [Bool.false_xor]
  rfl
theorem eq_bl {a b : Bool} {st : Store} {Q : D → Store → Prop} : Ok (eqD (.bl a) (.bl b) st) Q = Q (.bl (a == b)) st := rfl
theorem ne_bl {a b : Bool} {st : Store} {Q : D → Store → Prop} : Ok (neD (.bl a) (.bl b) st) Q = Q (.bl (!(a == b))) st := rfl
theorem eq_str {a b : Str} {st : Store} {Q : D → Store → Prop} : Ok (eqD (.str a) (.str b) st) Q = Q (.bl (a == b)) st := rfl
theorem isi2_str {x : Str} {st : Store} {Q : D → Store → Prop} : Ok (isi2D "int" "str" (.str x) st) Q = Q (.bl true) st := by
  have e1 : kitB "str" "int" = some false := by decide +kernel
  have e2 : kitB "str" "str" = some true := by decide +kernel
  unfold isi2D tyD
  simp only [e1, e2]
  rfl
theorem isi2_tup {x : List D} {st : Store} {Q : D → Store → Prop} : Ok (isi2D "int" "str" (.tup x) st) Q = Q (.bl false) st := by
  have e1 : kitB "tuple" "int" = some false := by decide +kernel
  have e2 : kitB "tuple" "str" = some false := by decide +kernel
  unfold isi2D tyD
  simp only [e1, e2]
  rfl
theorem isi_list_tup {x : List D} {st : Store} {Q : D → Store → Prop} : Ok (isiD "list" (.tup x) st) Q = Q (.bl false) st := by
  have e1 : kitB "tuple" "list" = some false := by decide +kernel
  unfold isiD tyD
  simp only [e1]
  rfl
theorem same_bl {st : Store} {a b : Bool} {k : Nat} : Ok (F__law_sameR (k + 1) [.bl a, .bl b] st) fun r st' => r = .bl (a == b) ∧ st' = st := by
  show Ok (fnD 4 2 (b__law_same (F__law_sameR k)) _ st) _
  rw [Ok_fn]
  refine ⟨rfl, ?_⟩
  unfold b__law_same
  simp only [wS_seq, wS_if, wS_asg, wS_ret, wS_expr, wS_skip, wS_par, wS_retN, wS_brk, wS_cnt, wE_C, wE_v, slot_zero, slot_succ, wE_1, wE_2, wE_nil, wE_cons, wE_tup, wE_lst, wE_call, Ok_callN, wE_if, wE_tval, wE_tb1, wE_tand, wE_tor, wE_tnot, wE_and, wE_or, wE_not, wE_chain, wE_bm, wE_repr, wE_sl, wE_pN, wE_tyes, wE_it, wE_dict0, Ok_gNm, Ok_gTp, Ok_gNil, Ok_gCons, Ok_gSb, Ok_ok, isB_bl, truth_bl, List.set_cons_zero, List.set_cons_succ, List.map_cons, List.map_nil, List.cons_append, List.nil_append, List.replicate_succ, List.replicate_zero, List.length_cons, List.length_nil, wipeD, wE_pS, intOf_int, wE_enum, wE_sort, wE_range1]
  rw [is_non]
  simp only [isB_bl, Ok_ok]
  refine ⟨fun h => (nomatch h), fun _ => ?_⟩
  rw [is_non]
  simp only [isB_bl, Ok_ok]
  refine ⟨fun h => (nomatch h), fun _ => ?_⟩
  rw [isi_bl ⟨_, rfl⟩]
  simp only [truth_bl, Ok_ok]
  refine ⟨fun _ => ⟨fun _ => ?_, fun h => (nomatch h)⟩, fun h => (nomatch h)⟩
  rw [isi_bl ⟨_, rfl⟩]
  simp only [isB_bl, Ok_ok]
  refine ⟨fun _ => ?_, fun h => (nomatch h)⟩
  rw [isi_bl ⟨_, rfl⟩]
  simp only [isB_bl, Ok_ok]
  refine ⟨fun _ => ?_, fun h => (nomatch h)⟩
  rw [eq_bl]
  exact ⟨rfl, rfl⟩
theorem same_str {st : Store} {a b : Str} {k : Nat} : Ok (F__law_sameR (k + 1) [.str a, .str b] st) fun r st' => r = .bl (a == b) ∧ st' = st := by
  show Ok (fnD 4 2 (b__law_same (F__law_sameR k)) _ st) _
  rw [Ok_fn]
  refine ⟨rfl, ?_⟩
  unfold b__law_same
  simp only [wS_seq, wS_if, wS_asg, wS_ret, wS_expr, wS_skip, wS_par, wS_retN, wS_brk, wS_cnt, wE_C, wE_v, slot_zero, slot_succ, wE_1, wE_2, wE_nil, wE_cons, wE_tup, wE_lst, wE_call, Ok_callN, wE_if, wE_tval, wE_tb1, wE_tand, wE_tor, wE_tnot, wE_and, wE_or, wE_not, wE_chain, wE_bm, wE_repr, wE_sl, wE_pN, wE_tyes, wE_it, wE_dict0, Ok_gNm, Ok_gTp, Ok_gNil, Ok_gCons, Ok_gSb, Ok_ok, isB_bl, truth_bl, List.set_cons_zero, List.set_cons_succ, List.map_cons, List.map_nil, List.cons_append, List.nil_append, List.replicate_succ, List.replicate_zero, List.length_cons, List.length_nil, wipeD, wE_pS, intOf_int, wE_enum, wE_sort, wE_range1]
  rw [is_non]
  simp only [isB_bl, Ok_ok]
  refine ⟨fun h => (nomatch h), fun _ => ?_⟩
  rw [is_non]
  simp only [isB_bl, Ok_ok]
  refine ⟨fun h => (nomatch h), fun _ => ?_⟩
  rw [isi_bl ⟨_, rfl⟩]
  simp only [truth_bl, Ok_ok]
  refine ⟨fun h => (nomatch h), fun _ => ?_⟩
  rw [isi_bl ⟨_, rfl⟩]
  simp only [truth_bl, Ok_ok]
  refine ⟨fun h => (nomatch h), fun _ => ?_⟩
  rw [isi2_str]
  simp only [truth_bl, Ok_ok]
  refine ⟨fun _ => ?_, fun h => (nomatch h)⟩
  rw [isi_int ⟨_, rfl⟩, isi_int ⟨_, rfl⟩, ne_bl]
  simp only [isB_bl, Ok_ok]
  refine ⟨fun h => (nomatch h), fun _ => ?_⟩
  rw [isi2_str]
  simp only [isB_bl, Ok_ok]
  refine ⟨fun _ => ?_, fun h => (nomatch h)⟩
  rw [eq_str]
  exact ⟨rfl, rfl⟩

theorem wE_zip {m m' : M D} {ds : DSt} {st : Store} {Q : ItD → Store → Prop} : Mp.wE (mZip m m') ds st Q = Mp.wE m ds st fun d st => Mp.wE m' ds st fun e st => Ok (match d, e with
  | .tup xs, .tup ys => .ok ⟨zipItems xs ys, []⟩ st
  | .loc n, .loc k => match st[n]?, st[k]? with
    | some (.lst xs), some (.lst ys) => .ok ⟨zipItems xs ys, [(n, xs), (k, ys)]⟩ st
    | _, _ => .stuck
  | .kl xs, .loc k => match st[k]? with
    | some (.lst ys) => .ok ⟨zipItems xs ys, [(k, ys)]⟩ st
    | _ => .stuck
  | _, _ => .stuck) Q := by
  unfold Mp.wE mZip
  rw [Ok_bind]
  congr 1; funext d st
  exact Ok_bind _ _
theorem same_pair {st : Store} {a b c d : Str} {k : Nat} : Ok (F__law_sameR (k + 2) [.tup [.str a, .str b], .tup [.str c, .str d]] st) fun r st' => r = .bl (a == c && b == d) ∧ Keep [] st st' := by
  show Ok (fnD 4 2 (b__law_same (F__law_sameR (k + 1))) _ st) _
  rw [Ok_fn]
  refine ⟨rfl, ?_⟩
  unfold b__law_same
  simp only [wS_seq, wS_if, wS_asg, wS_ret, wS_expr, wS_skip, wS_par, wS_retN, wS_brk, wS_cnt, wE_C, wE_v, slot_zero, slot_succ, wE_1, wE_2, wE_nil, wE_cons, wE_tup, wE_lst, wE_call, Ok_callN, wE_if, wE_tval, wE_tb1, wE_tand, wE_tor, wE_tnot, wE_and, wE_or, wE_not, wE_chain, wE_bm, wE_repr, wE_sl, wE_pN, wE_tyes, wE_it, wE_dict0, Ok_gNm, Ok_gTp, Ok_gNil, Ok_gCons, Ok_gSb, Ok_ok, isB_bl, truth_bl, List.set_cons_zero, List.set_cons_succ, List.map_cons, List.map_nil, List.cons_append, List.nil_append, List.replicate_succ, List.replicate_zero, List.length_cons, List.length_nil, wipeD, wE_pS, intOf_int, wE_enum, wE_sort, wE_range1]
  rw [is_non]
  simp only [isB_bl, Ok_ok]
  refine ⟨fun h => (nomatch h), fun _ => ?_⟩
  rw [is_non]
  simp only [isB_bl, Ok_ok]
  refine ⟨fun h => (nomatch h), fun _ => ?_⟩
  rw [isi_bl ⟨_, rfl⟩]
  simp only [truth_bl, Ok_ok]
  refine ⟨fun h => (nomatch h), fun _ => ?_⟩
  rw [isi_bl ⟨_, rfl⟩]
  simp only [truth_bl, Ok_ok]
  refine ⟨fun h => (nomatch h), fun _ => ?_⟩
  rw [isi2_tup]
  simp only [truth_bl, Ok_ok]
  refine ⟨fun h => (nomatch h), fun _ => ?_⟩
  rw [isi_tup ⟨_, rfl⟩, isi_tup ⟨_, rfl⟩, ne_bl]
  simp only [isB_bl, Ok_ok]
  refine ⟨fun h => (nomatch h), fun _ => ?_⟩
  rw [isi_list_tup, isi_list_tup, ne_bl]
  simp only [isB_bl, Ok_ok]
  refine ⟨fun h => (nomatch h), fun _ => ?_⟩
  rw [len_tup, len_tup, ne_int]
  simp only [isB_bl, Ok_ok]
  refine ⟨fun h => (nomatch h), fun _ => ?_⟩
  refine wE_lc ?_
  simp only [wS_seq, wS_if, wS_asg, wS_ret, wS_expr, wS_skip, wS_par, wS_retN, wS_brk, wS_cnt, wE_C, wE_v, slot_zero, slot_succ, wE_1, wE_2, wE_nil, wE_cons, wE_tup, wE_lst, wE_call, Ok_callN, wE_if, wE_tval, wE_tb1, wE_tand, wE_tor, wE_tnot, wE_and, wE_or, wE_not, wE_chain, wE_bm, wE_repr, wE_sl, wE_pN, wE_tyes, wE_it, wE_dict0, Ok_gNm, Ok_gTp, Ok_gNil, Ok_gCons, Ok_gSb, Ok_ok, isB_bl, truth_bl, List.set_cons_zero, List.set_cons_succ, List.map_cons, List.map_nil, List.cons_append, List.nil_append, List.replicate_succ, List.replicate_zero, List.length_cons, List.length_nil, wipeD, wE_pS, intOf_int, wE_enum, wE_sort, wE_range1, wE_zip]
  refine ⟨fun j acc s => acc = ([a == c, b == d].take j).map D.bl ∧ s = st ∧ j ≤ 2, by show 2 ≤ sizeLine; rw [sizeLine_eq]; omega, ⟨rfl, rfl, Nat.zero_le _⟩, ?_, ?_, ?_⟩
  · rintro j acc s ⟨rfl, rfl, hj⟩
    exact ⟨fun p hp => (nomatch hp), by rw [List.length_map, List.length_take]; omega⟩
  · rintro j x acc s hx ⟨rfl, rfl, hj⟩
    have hx : ([D.tup [D.str a, D.str c], D.tup [D.str b, D.str d]] : List D)[j]? = some x := hx
    match j, hx with
    | 0, hx =>
      cases hx
      simp only [wS_seq, wS_if, wS_asg, wS_ret, wS_expr, wS_skip, wS_par, wS_retN, wS_brk, wS_cnt, wE_C, wE_v, slot_zero, slot_succ, wE_1, wE_2, wE_nil, wE_cons, wE_tup, wE_lst, wE_call, Ok_callN, wE_if, wE_tval, wE_tb1, wE_tand, wE_tor, wE_tnot, wE_and, wE_or, wE_not, wE_chain, wE_bm, wE_repr, wE_sl, wE_pN, wE_tyes, wE_it, wE_dict0, Ok_gNm, Ok_gTp, Ok_gNil, Ok_gCons, Ok_gSb, Ok_ok, isB_bl, truth_bl, List.set_cons_zero, List.set_cons_succ, List.map_cons, List.map_nil, List.cons_append, List.nil_append, List.replicate_succ, List.replicate_zero, List.length_cons, List.length_nil, wipeD, wE_pS, intOf_int, wE_enum, wE_sort, wE_range1]
      refine ⟨trivial, fun _ => ⟨trivial, ?_⟩, fun h => (nomatch h)⟩
      refine same_str.mono ?_
      rintro r s2 ⟨rfl, rfl⟩
      exact ⟨rfl, by first | rfl | trivial, by omega⟩
    | 1, hx =>
      cases hx
      simp only [wS_seq, wS_if, wS_asg, wS_ret, wS_expr, wS_skip, wS_par, wS_retN, wS_brk, wS_cnt, wE_C, wE_v, slot_zero, slot_succ, wE_1, wE_2, wE_nil, wE_cons, wE_tup, wE_lst, wE_call, Ok_callN, wE_if, wE_tval, wE_tb1, wE_tand, wE_tor, wE_tnot, wE_and, wE_or, wE_not, wE_chain, wE_bm, wE_repr, wE_sl, wE_pN, wE_tyes, wE_it, wE_dict0, Ok_gNm, Ok_gTp, Ok_gNil, Ok_gCons, Ok_gSb, Ok_ok, isB_bl, truth_bl, List.set_cons_zero, List.set_cons_succ, List.map_cons, List.map_nil, List.cons_append, List.nil_append, List.replicate_succ, List.replicate_zero, List.length_cons, List.length_nil, wipeD, wE_pS, intOf_int, wE_enum, wE_sort, wE_range1]
      refine ⟨trivial, fun _ => ⟨trivial, ?_⟩, fun h => (nomatch h)⟩
      refine same_str.mono ?_
      rintro r s2 ⟨rfl, rfl⟩
      exact ⟨rfl, by first | rfl | trivial, by omega⟩
  · rintro acc s ⟨rfl, rfl, hj⟩
    rw [nin_bls snoc_at]
    refine ⟨?_, Keep.snoc⟩
    show D.bl ([a == c, b == d].all id) = _
    simp
end K50
end
section
set_option Elab.async false
set_option linter.all false
set_option maxRecDepth 100000
set_option maxHeartbeats 400000
/-! K50: a drawn machine is one. -/
namespace K50
open PySem PySem.Spec PyProof.Rows L2 Mp Pen
theorem srt_of {al : Str} (h : al.cps.toList.Pairwise (· < ·)) : srt al = true := by
  unfold srt
  rw [beq_iff_eq]
  refine pw_unique ?_ (sortU_pw _) fun z => mem_sortU.symm
  show (al.cps.toList.map sg).Pairwise ltS
  rw [List.pairwise_map]
  exact h.imp fun {a b} q => sg_lt.mpr q
theorem isAl_ok {al : Str} (h : AlOk al) : isAl (.str al) = true := by
  obtain ⟨h1, h2, h3, h4⟩ := h
  show (decide (1 ≤ al.length) && decide (al.length ≤ 3) && al.cps.toList.all okSign && srt al) = true
  rw [cps_len, decide_eq_true h1, decide_eq_true h2, srt_of h4]
  have : al.cps.toList.all okSign = true := by
    rw [List.all_eq_true]
    intro c hc
    unfold okSign
    rw [decide_eq_true (h3 c hc).1, decide_eq_true (h3 c hc).2]
    rfl
  rw [this]
  rfl
theorem short_isT {s : Str} (h : s ∈ shorts) : isT (.str s) = true := by
  show s.cps.toList.all okSign = true
  revert s
  decide +kernel
theorem stD_ok {k n : Nat} {s : Pen.SD} (h : StOk k n s) : isState k n (stD s) = true := by
  obtain ⟨h1, h2, h3, h4⟩ := h
  show (((s.1.map stepD).length == k) && (s.1.map stepD).all (isStep n) && isEnd (.tup [.str s.2.1, .str s.2.2])) = true
  rw [List.length_map, h1]
  have e1 : (s.1.map stepD).all (isStep n) = true := by
    rw [List.all_map, List.all_eq_true]
    intro p hp
    obtain ⟨a, b, c⟩ := h2 p hp
    show (isT (.str p.1) && (decide (0 ≤ p.2) && decide (p.2 < (n : Int)))) = true
    rw [short_isT a, decide_eq_true b, decide_eq_true c]
    rfl
  have e2 : isEnd (.tup [.str s.2.1, .str s.2.2]) = true := by
    show (isT (.str s.2.1) && ((("halt" : Str) == s.2.2) || (("fault" : Str) == s.2.2))) = true
    rw [short_isT h3]
    rcases h4 with q | q
    · rw [q]; decide +kernel
    · rw [q]; decide +kernel
  rw [e1, e2]
  simp
theorem mach_ok {al p : Str} {sts : List Pen.SD} (ha : AlOk al) (hp : p ∈ shorts) (h1 : 1 ≤ sts.length) (hst : ∀ s ∈ sts, StOk al.cps.toList.length sts.length s) : isMach (machD al p sts) = true := by
  show (isAl (.str al) && isT (.str p) && (!(sts.map stD).isEmpty && (sts.map stD).all (isState al.length (sts.map stD).length))) = true
  rw [isAl_ok ha, short_isT hp, List.length_map, cps_len]
  have e1 : (sts.map stD).isEmpty = false := by
    cases sts with
    | nil => simp at h1
    | cons s sts => rfl
  have e2 : (sts.map stD).all (isState al.cps.toList.length sts.length) = true := by
    rw [List.all_map, List.all_eq_true]
    exact fun s hs => stD_ok (hst s hs)
  rw [e1, e2]
  rfl
end K50
end
section
set_option Elab.async false
set_option linter.all false
set_option maxRecDepth 100000
set_option maxHeartbeats 400000
/-! K50: values that do not reach what is written. -/
namespace K50
open PySem PySem.Spec PyProof.Rows L2 Mp Pen
/-- no location in ms is reached from d within n levels -/
def offD (st : Store) (ms : List Nat) : Nat → D → Prop
  | 0, _ => True
  | n + 1, .tup xs => ∀ x ∈ xs, offD st ms n x
  | n + 1, .loc m => m ∉ ms ∧ (∀ xs, st[m]? = some (.lst xs) → ∀ x ∈ xs, offD st ms n x) ∧ (∀ kvs, st[m]? = some (.dK kvs) → ∀ q ∈ kvs, offD st ms n q.2)
  | _ + 1, _ => True
theorem pyL_mono' {f g : D → Option PyData} : ∀ {ds : List D} {ps : List PyData}, (∀ d ∈ ds, ∀ p, f d = some p → g d = some p) → pyL f ds = some ps → pyL g ds = some ps
  | [], _, _, e => e
  | d :: ds, _, h, e => by
    unfold pyL at e ⊢
    cases e1 : f d with
    | none => rw [e1] at e; cases e
    | some p =>
      cases e2 : pyL f ds with
      | none => rw [e1, e2] at e; cases e
      | some ps => rw [e1, e2] at e; rw [h d List.mem_cons_self _ e1, pyL_mono' (fun d hd => h d (List.mem_cons_of_mem _ hd)) e2]; exact e
theorem pyK_mono' {f g : D → Option PyData} : ∀ {ds : List (Key × D)} {ps : List (PyData × PyData)}, (∀ q ∈ ds, ∀ p, f q.2 = some p → g q.2 = some p) → pyK f ds = some ps → pyK g ds = some ps
  | [], _, _, e => e
  | (k, d) :: ds, _, h, e => by
    unfold pyK at e ⊢
    cases e1 : f d with
    | none => rw [e1] at e; cases e
    | some p =>
      cases e2 : pyK f ds with
      | none => rw [e1, e2] at e; cases e
      | some ps => rw [e1, e2] at e; rw [h (k, d) List.mem_cons_self _ e1, pyK_mono' (fun q hq => h q (List.mem_cons_of_mem _ hq)) e2]; exact e
theorem pyL_each {f : D → Option PyData} : ∀ {ds : List D} {qs : List PyData}, pyL f ds = some qs → ∀ x ∈ ds, ∃ q, f x = some q
  | [], _, _, x, hx => nomatch hx
  | y :: ds, qs, e, x, hx => by
    unfold pyL at e
    cases e1 : f y with
    | none => rw [e1] at e; cases e
    | some q =>
      cases e2 : pyL f ds with
      | none => rw [e1, e2] at e; cases e
      | some qs2 =>
        rcases List.mem_cons.mp hx with rfl | hx
        · exact ⟨q, e1⟩
        · exact pyL_each e2 x hx
theorem pyK_each {f : D → Option PyData} : ∀ {ds : List (Key × D)} {qs : List (PyData × PyData)}, pyK f ds = some qs → ∀ x ∈ ds, ∃ q, f x.2 = some q
  | [], _, _, x, hx => nomatch hx
  | (k, y) :: ds, qs, e, x, hx => by
    unfold pyK at e
    cases e1 : f y with
    | none => rw [e1] at e; cases e
    | some q =>
      cases e2 : pyK f ds with
      | none => rw [e1, e2] at e; cases e
      | some qs2 =>
        rcases List.mem_cons.mp hx with rfl | hx
        · exact ⟨q, e1⟩
        · exact pyK_each e2 x hx
theorem pyD_off {st st' : Store} {ms : List Nat} (k : Keep ms st st') : ∀ (n : Nat) (d : D) (p : PyData), offD st ms n d → pyD st n d = some p → pyD st' n d = some p ∧ offD st' ms n d
  | 0, _, _, _, h => by cases h
  | n + 1, d, p, ho, h => by
    have ih := pyD_off k n
    cases d with
    | tup xs =>
      have ho : ∀ x ∈ xs, offD st ms n x := ho
      have h : (pyL (pyD st n) xs).map PyData.tuple = some p := h
      obtain ⟨ps, e, rfl⟩ := Option.map_eq_some_iff.mp h
      refine ⟨?_, ?_⟩
      · show (pyL (pyD st' n) xs).map PyData.tuple = _
        rw [pyL_mono' (fun x hx q hq => (ih x q (ho x hx) hq).1) e]; rfl
      · show ∀ x ∈ xs, offD st' ms n x
        intro x hx
        obtain ⟨q, hq⟩ := pyL_each e x hx
        exact (ih x q (ho x hx) hq).2
    | loc m =>
      obtain ⟨hm, hL, hK⟩ : m ∉ ms ∧ (∀ xs, st[m]? = some (.lst xs) → ∀ x ∈ xs, offD st ms n x) ∧ (∀ kvs, st[m]? = some (.dK kvs) → ∀ q ∈ kvs, offD st ms n q.2) := ho
      unfold pyD py1 at h
      simp only at h
      cases e : st[m]? with
      | none => rw [e] at h; cases h
      | some o =>
        have e' := k.get e hm
        rw [e] at h
        cases o with
        | lst xs =>
          obtain ⟨ps, e2, rfl⟩ := Option.map_eq_some_iff.mp h
          refine ⟨?_, hm, fun ys hy x hx => ?_, fun ys hy => ?_⟩
          · unfold pyD py1
            simp only [e']
            rw [pyL_mono' (fun x hx q hq => (ih x q (hL xs e x hx) hq).1) e2]; rfl
          · rw [e'] at hy; cases hy
            obtain ⟨q, hq⟩ := pyL_each e2 x hx
            exact (ih x q (hL _ e x hx) hq).2
          · rw [e'] at hy; cases hy
        | dK kvs =>
          obtain ⟨ps, e2, rfl⟩ := Option.map_eq_some_iff.mp h
          refine ⟨?_, hm, fun ys hy => ?_, fun ys hy x hx => ?_⟩
          · unfold pyD py1
            simp only [e']
            rw [pyK_mono' (fun x hx q hq => (ih x.2 q (hK kvs e x hx) hq).1) e2]; rfl
          · rw [e'] at hy; cases hy
          · rw [e'] at hy; cases hy
            obtain ⟨q, hq⟩ := pyK_each e2 x hx
            exact (ih x.2 q (hK _ e x hx) hq).2
        | ins _ _ => cases h
    | _ => exact ⟨h, trivial⟩
end K50
end
section
set_option Elab.async false
set_option linter.all false
set_option maxRecDepth 100000
set_option maxHeartbeats 400000
/-! K50: deep values under writes elsewhere. -/
namespace K50
open PySem PySem.Spec PyProof.Rows L2 Mp Pen
theorem pyD_up {st : Store} : ∀ (n : Nat) (d : D) (p : PyData), pyD st n d = some p → pyD st (n + 1) d = some p
  | 0, _, _, h => by cases h
  | n + 1, d, p, h => by
    have ih := pyD_up (st := st) n
    cases d with
    | tup xs =>
      have h : (pyL (pyD st n) xs).map PyData.tuple = some p := h
      obtain ⟨ps, e, rfl⟩ := Option.map_eq_some_iff.mp h
      show (pyL (pyD st (n + 1)) xs).map PyData.tuple = _
      rw [pyL_mono ih e]; rfl
    | loc m =>
      unfold pyD py1 at h ⊢
      simp only at h ⊢
      cases e : st[m]? with
      | none => rw [e] at h; cases h
      | some o =>
        rw [e] at h
        cases o with
        | lst xs =>
          obtain ⟨ps, e, rfl⟩ := Option.map_eq_some_iff.mp h
          show (pyL (pyD st (n + 1)) xs).map _ = _
          rw [pyL_mono ih e]; rfl
        | dK xs =>
          obtain ⟨ps, e, rfl⟩ := Option.map_eq_some_iff.mp h
          show (pyK (pyD st (n + 1)) xs).map _ = _
          rw [pyK_mono ih e]; rfl
        | ins _ _ => cases h
    | _ => exact h
theorem pyD_le {st : Store} {n m : Nat} {d : D} {p : PyData} (l : n ≤ m) (h : pyD st n d = some p) : pyD st m d = some p := by
  induction m with
  | zero => have : n = 0 := by omega
            subst this; exact h
  | succ m ih =>
    by_cases e : n = m + 1
    · subst e; exact h
    · exact pyD_up _ _ _ (ih (by omega))
theorem There.off {st st' : Store} {ms : List Nat} {N : Nat} {d : D} (k : Keep ms st st') (h : There st d) (ho : offD st ms (N + 1) d) : There st' d := by
  obtain ⟨⟨t, ht⟩, hx⟩ := h
  refine ⟨⟨t, ?_⟩, hx⟩
  cases d with
  | loc n =>
    have hn : n ∉ ms := ho.1
    unfold tyD at ht ⊢
    simp only at ht ⊢
    cases e : st[n]? with
    | none => rw [e] at ht; cases ht
    | some o => rw [e] at ht; rw [k.get e hn]; exact ht
  | _ => exact ht
theorem Rep.off {st st' : Store} {ms : List Nat} {N : Nat} {d : D} (k : Keep ms st st') (h : Rep st d) (l : N ≤ 40) (ho : offD st ms N d) (hp : ∃ p, pyD st N d = some p) : Rep st' d := by
  obtain ⟨p, h1, h2⟩ := h
  obtain ⟨q, hq⟩ := hp
  have e := pyD_le l hq
  rw [h1] at e
  cases e
  exact ⟨p, pyD_le l (pyD_off k N d p ho hq).1, h2⟩
theorem DeepR.off {st st' : Store} {ms : List Nat} (k : Keep ms st st') : ∀ (n N : Nat) (d : D), n ≤ N → N + 1 ≤ 40 → offD st ms (N + 1) d → (∃ p, pyD st (N + 1) d = some p) → DeepR st n d → DeepR st' n d
  | 0, N, d, _, hl, ho, hp, h => ⟨There.off k h.1 ho, Rep.off k h.2 hl ho hp⟩
  | n + 1, N, d, hn, hl, ho, hp, h => by
    refine ⟨⟨There.off k h.1.1 ho, Rep.off k h.1.2 hl ho hp⟩, fun xs e => ?_⟩
    subst e
    refine ⟨(h.2 xs rfl).1, fun x hx => ?_⟩
    obtain ⟨p, hp⟩ := hp
    have hp : (pyL (pyD st N) xs).map PyData.tuple = some p := hp
    obtain ⟨ps, e, _⟩ := Option.map_eq_some_iff.mp hp
    match N, hn with
    | N + 1, hn => exact DeepR.off k n N x (by omega) (by omega) ((show ∀ x ∈ xs, offD st ms (N + 1) x from ho) x hx) (pyL_each e x hx) ((h.2 xs rfl).2 x hx)
/-- a value of the law: deep, shown, and off what is written -/
structure Val (st : Store) (ms : List Nat) (d : D) : Prop where
  deep : DeepR st 5 d
  there : ∃ p, pyD st 30 d = some p
  off : offD st ms 30 d
theorem Val.keep {st st' : Store} {ms : List Nat} {d : D} (v : Val st ms d) (k : Keep ms st st') : Val st' ms d := by
  obtain ⟨p, hp⟩ := v.there
  exact ⟨DeepR.off k 5 29 d (by omega) (by omega) v.off v.there v.deep, ⟨p, (pyD_off k 30 d p v.off hp).1⟩, (pyD_off k 30 d p v.off hp).2⟩
end K50
end
section
set_option Elab.async false
set_option linter.all false
set_option maxRecDepth 100000
set_option maxHeartbeats 400000
/-! K50: a text times a number. -/
namespace K50
open PySem PySem.Spec PyProof.Rows L2 Mp Pen
theorem fold_rep (a : Array Nat) : ∀ (m : Nat) (acc : Array Nat), ((List.replicate m a).foldl (· ++ ·) acc).toList = acc.toList ++ (List.replicate m a.toList).flatten
  | 0, acc => by simp
  | m + 1, acc => by
    rw [List.replicate_succ, List.foldl_cons, fold_rep a m, List.replicate_succ, List.flatten_cons]
    simp [List.append_assoc]
theorem mul_cps (x : Str) (k : Int) (h : 1 ≤ k) : (Txt.mul x k).cps.toList = (List.replicate k.toNat x.cps.toList).flatten := by
  unfold Txt.mul
  rw [if_neg (by omega)]
  split
  · rename_i h2
    rw [Bool.or_eq_true, beq_iff_eq, beq_iff_eq] at h2
    rcases h2 with h2 | h2
    · subst h2
      simp
    · have e : x.cps.toList = [] := by
        rw [cps_len] at h2
        exact List.length_eq_zero_iff.mp h2
      rw [e]
      simp
  · show ((List.replicate k.toNat x.cps).foldl (· ++ ·) #[]).toList = _
    rw [fold_rep]
    simp
theorem mul_mem {x : Str} {k : Int} (h : 1 ≤ k) {c : Nat} (hc : c ∈ (Txt.mul x k).cps.toList) : c ∈ x.cps.toList := by
  rw [mul_cps x k h] at hc
  obtain ⟨l, hl, hc⟩ := List.mem_flatten.mp hc
  rw [(List.mem_replicate.mp hl).2] at hc
  exact hc
theorem mul_len (x : Str) (k : Int) (h : 1 ≤ k) : (Txt.mul x k).cps.toList.length = k.toNat * x.cps.toList.length := by
  rw [mul_cps x k h, List.length_flatten]
  simp
theorem mul_str {x : Str} {k : Int} {st : Store} {Q : D → Store → Prop} (h0 : 1 ≤ k) (h1 : k ≤ 1000000) (hz : x.length * k.toNat ≤ sizeLine) (q : Q (.str (Txt.mul x k)) st) : Ok (mulD (.str x) (.int k) st) Q := by
  unfold mulD
  simp only
  rw [if_pos ⟨by omega, h1, hz⟩]
  exact q
end K50
end
section
set_option Elab.async false
set_option linter.all false
set_option maxRecDepth 100000
set_option maxHeartbeats 400000
/-! K50: the law's runs of a machine. -/
namespace K50
open PySem PySem.Spec PyProof.Rows L2 Mp Pen
noncomputable def b_runs : MS :=
 (sFor (mRange1 (mC (.int 3))) (gNm 4)
 (sSeq (sAsg (m2 mulD (mCall (callN 3 F__law_draw_text) (mCons (mVar 1) (mCons (m2 ixD (mVar 3) (mC (.int 0))) (mCons (mC (.int 6)) mNil)))) (m2 ixD (mLst (mCons (mC (.int 1)) (mCons (mC (.int 1)) (mCons (mC (.int 300)) mNil)))) (mCall (callN 2 F__law_take) (mCons (mVar 1) (mCons (mC (.int 3)) mNil))))) (gNm 9))
 (sIf (tNot (tVal (mCall (callN 2 F__law_same) (mCons (mCall (callN 2 F_run_machine) (mCons (mVar 3) (mCons (mVar 9) mNil))) (mCons (mCall (callN 2 F__law_outcome) (mCons (mVar 3) (mCons (mVar 9) mNil))) mNil)))))
 (sRet (mC (.bl false)))
 sSkip)))
theorem runs_ok {st : Store} {pen : Nat} {B : Int} {al p : Str} {sts : List Pen.SD} {o0 o2 o4 o5 o6 o7 o8 o9 : Option D} {N Bk C : DSt → Store → Prop} {T : D → Store → Prop} (hP : PenAt st pen B) (hB : B < 800000) (ha : AlOk al) (hp : p ∈ shorts) (h1 : 1 ≤ sts.length) (hst : ∀ s ∈ sts, StOk al.cps.toList.length sts.length s)
    (q : ∀ o4 o9 st', Keep [pen] st st' → PenAt st' pen (B + 1000) → N [o0, some (.loc pen), o2, some (machD al p sts), o4, o5, o6, o7, o8, o9] st') :
    wS b_runs [o0, some (.loc pen), o2, some (machD al p sts), o4, o5, o6, o7, o8, o9] st N T Bk C := by
  unfold b_runs
  refine wS_for ?_
  simp only [wS_seq, wS_if, wS_asg, wS_ret, wS_expr, wS_skip, wS_par, wS_retN, wS_brk, wS_cnt, wE_C, wE_v, slot_zero, slot_succ, wE_1, wE_2, wE_nil, wE_cons, wE_tup, wE_lst, wE_call, Ok_callN, wE_if, wE_tval, wE_tb1, wE_tand, wE_tor, wE_tnot, wE_and, wE_or, wE_not, wE_chain, wE_bm, wE_repr, wE_sl, wE_pN, wE_tyes, wE_it, wE_dict0, Ok_gNm, Ok_gTp, Ok_gNil, Ok_gCons, Ok_gSb, Ok_ok, isB_bl, truth_bl, List.set_cons_zero, List.set_cons_succ, List.map_cons, List.map_nil, List.cons_append, List.nil_append, List.replicate_succ, List.replicate_zero, List.length_cons, List.length_nil, wipeD, wE_pS, intOf_int, wE_enum, wE_sort, wE_range1]
  refine ⟨⟨by omega, by omega⟩, fun i ds s => ∃ o4 o9 : Option D, ds = [o0, some (.loc pen), o2, some (machD al p sts), o4, o5, o6, o7, o8, o9] ∧ Keep [pen] st s ∧ PenAt s pen (B + 210 * i), ⟨o4, o9, rfl, .refl, by simpa using hP⟩, (fun i ds s _ p hp => nomatch hp), ?_, ?_⟩
  · rintro i x ds s hx ⟨o4, o9, rfl, ks, hpen⟩
    obtain ⟨rfl, hi⟩ := range_item hx
    have hi3 : i < 3 := hi
    simp only [wS_seq, wS_if, wS_asg, wS_ret, wS_expr, wS_skip, wS_par, wS_retN, wS_brk, wS_cnt, wE_C, wE_v, slot_zero, slot_succ, wE_1, wE_2, wE_nil, wE_cons, wE_tup, wE_lst, wE_call, Ok_callN, wE_if, wE_tval, wE_tb1, wE_tand, wE_tor, wE_tnot, wE_and, wE_or, wE_not, wE_chain, wE_bm, wE_repr, wE_sl, wE_pN, wE_tyes, wE_it, wE_dict0, Ok_gNm, Ok_gTp, Ok_gNil, Ok_gCons, Ok_gSb, Ok_ok, isB_bl, truth_bl, List.set_cons_zero, List.set_cons_succ, List.map_cons, List.map_nil, List.cons_append, List.nil_append, List.replicate_succ, List.replicate_zero, List.length_cons, List.length_nil, wipeD, wE_pS, intOf_int, wE_enum, wE_sort, wE_range1]
    unfold machD
    rw [ixt0]
    refine ⟨trivial, ?_⟩
    refine Mp.Ok.mono (draw_text_ok hpen (by omega) al ha.1 (by have := ha.2.1; omega) 6 (by omega) (by omega)) ?_
    rintro d s1 ⟨tx, rfl, htl, htm, k1, p1⟩
    refine ⟨by rw [sizeLine_eq]; omega, trivial, ?_⟩
    refine Mp.Ok.mono (take_ok (p1.keep Keep.snoc) (by omega) 3 (by omega) (by omega)) ?_
    rintro d s2 ⟨v, rfl, v0, v1, k2, p2⟩
    have e2 := k2.get (snoc_at (st := s1) (o := MO.lst [D.int 1, D.int 1, D.int 300])) (by have := p1.lt; simp; omega)
    refine ix_b e2 v0 (by simpa using v1) fun d hd => ?_
    have hm : ∃ w : Int, d = .int w ∧ 1 ≤ w ∧ w ≤ 300 := by
      have hm : d ∈ [D.int 1, D.int 1, D.int 300] := List.mem_of_getElem? hd
      simp only [List.mem_cons, List.not_mem_nil, or_false] at hm
      rcases hm with h | h | h <;> exact ⟨_, h, by omega, by omega⟩
    obtain ⟨w, rfl, w1, w2⟩ := hm
    have hb : tx.cps.toList.length * w.toNat ≤ 1800 := Nat.le_trans (Nat.mul_le_mul (show tx.cps.toList.length ≤ 6 by omega) (show w.toNat ≤ 300 by omega)) (by omega)
    refine mul_str w1 (by omega) (by rw [cps_len, sizeLine_eq]; omega) ?_
    have htx : ∀ c ∈ (Txt.mul tx w).cps.toList, c ∈ al.cps.toList := fun c hc => htm c (mul_mem w1 hc)
    have hz : (Txt.mul tx w).cps.toList.length ≤ 100000 := by rw [mul_len tx w w1, Nat.mul_comm]; omega
    generalize Txt.mul tx w = t2 at htx hz ⊢
    refine ⟨trivial, ?_⟩
    refine Mp.Ok.mono (run_ok (al := al) hp h1 hst htx hz) ?_
    rintro d s3 ⟨rfl, rfl⟩
    refine ⟨trivial, ?_⟩
    refine Mp.Ok.mono (outcome_ok (al := al) hp h1 hst htx hz) ?_
    rintro d s4 ⟨rfl, rfl⟩
    refine ⟨trivial, ?_⟩
    unfold outc F__law_same
    refine Mp.Ok.mono same_pair ?_
    rintro r s5 ⟨rfl, k5⟩
    simp only [truth_bl, Ok_ok, beq_self_eq_true, Bool.and_self]
    refine ⟨fun h => (nomatch h), fun _ => ⟨_, _, rfl, (((ks.trans k1).trans Keep.snoc).trans k2).trans (k5.mono (by simp)), (p2.keep k5).mono (by omega)⟩⟩
  · rintro ds s ⟨o4, o9, rfl, ks, hpen⟩
    refine q o4 o9 s ks (hpen.mono ?_)
    show B + 210 * ((3 : Nat) : Int) ≤ B + 1000
    omega
end K50
end
section
set_option Elab.async false
set_option linter.all false
set_option maxRecDepth 100000
set_option maxHeartbeats 400000
/-! K50: how long a repr is, at most. -/
namespace K50
open PySem PySem.Spec PyProof.Rows L2 Mp Pen
theorem list_text_le : ∀ (ts : List Str) (k : Nat) (acc : Str), (textFrom k acc ts).length ≤ acc.length + (ts.map fun t => t.length + 2).sum
  | [], _, acc => by simp [textFrom]
  | t :: ts, k, acc => by
    rw [textFrom, List.map_cons, List.sum_cons]
    refine Nat.le_trans (list_text_le ts (k + 1) _) ?_
    rw [app_len, app_len]
    have : ((if k > 0 then ", " else "" : String) : Str).length ≤ 2 := by
      split
      · decide +kernel
      · decide +kernel
    omega
theorem listText_le (ts : List Str) : (listText ts).length ≤ 2 + (ts.map fun t => t.length + 2).sum := by
  unfold listText
  rw [app_len]
  have h := list_text_le ts 0 "["
  have e1 : ("[" : Str).length = 1 := by decide +kernel
  have e2 : ("]" : Str).length = 1 := by decide +kernel
  rw [e1] at h
  rw [e2]
  omega
theorem tupleText_le (ts : List Str) : (tupleText ts).length ≤ 3 + (ts.map fun t => t.length + 2).sum := by
  unfold tupleText
  rw [app_len, app_len]
  have h := StrLaws.join_length_le ", " ts
  have e1 : ("(" : Str).length = 1 := by decide +kernel
  have e3 : (", " : Str).length = 2 := by decide +kernel
  have e2 : ((if ts.length == 1 then ",)" else ")" : String) : Str).length ≤ 2 := by
    split
    · decide +kernel
    · decide +kernel
  have hs : (ts.map fun t => t.length + 2).sum = (ts.map (·.length)).sum + ts.length * 2 := by
    clear h e2
    induction ts with
    | nil => rfl
    | cons t ts ih => rw [List.map_cons, List.sum_cons, ih, List.map_cons, List.sum_cons, List.length_cons]; omega
  rw [e3] at h
  rw [hs, e1]
  omega
end K50
end
section
set_option Elab.async false
set_option linter.all false
set_option maxRecDepth 100000
set_option maxHeartbeats 400000
/-! K50: values by their widths. -/
namespace K50
open PySem PySem.Spec PyProof.Rows L2 Mp Pen
/-- what stands at the bottom -/
def Leaf (T : Nat) : D → Prop
  | .non => True
  | .bl _ => True
  | .int i => smallInt i = true
  | .str x => x.cps.toList.length ≤ T ∧ ∀ c ∈ x.cps.toList, c < 256
  | .tup xs => xs = []
  | _ => False
def Lo (st : Store) (ms : List Nat) (T : Nat) (d : D) : Prop := Leaf T d ∨ ∃ m, d = .loc m ∧ m ∉ ms ∧ (st[m]? = some (.lst []) ∨ st[m]? = some (.dK []))
/-- a value whose tuples (and lists) have at most so many items at each level -/
def Sm (st : Store) (ms : List Nat) (T : Nat) : List Nat → D → Prop
  | [], d => Lo st ms T d
  | w :: ws, d => Lo st ms T d ∨ ∃ xs, xs.length ≤ w ∧ (∀ x ∈ xs, Sm st ms T ws x) ∧ (d = .tup xs ∨ ∃ m, d = .loc m ∧ m ∉ ms ∧ st[m]? = some (.lst xs))
theorem Sm.lo {st : Store} {ms : List Nat} {T : Nat} {d : D} (h : Lo st ms T d) : ∀ {ws : List Nat}, Sm st ms T ws d
  | [] => h
  | _ :: _ => .inl h
theorem Sm.leaf {st : Store} {ms : List Nat} {T : Nat} {d : D} {ws : List Nat} (h : Leaf T d) : Sm st ms T ws d := Sm.lo (.inl h)
theorem Sm.tup {st : Store} {ms : List Nat} {T w : Nat} {ws : List Nat} {xs : List D} (hl : xs.length ≤ w) (h : ∀ x ∈ xs, Sm st ms T ws x) : Sm st ms T (w :: ws) (.tup xs) := .inr ⟨xs, hl, h, .inl rfl⟩
theorem Sm.lst {st : Store} {ms : List Nat} {T w m : Nat} {ws : List Nat} {xs : List D} (hl : xs.length ≤ w) (h : ∀ x ∈ xs, Sm st ms T ws x) (hm : m ∉ ms) (e : st[m]? = some (.lst xs)) : Sm st ms T (w :: ws) (.loc m) := .inr ⟨xs, hl, h, .inr ⟨m, rfl, hm, e⟩⟩
theorem Lo.keep {st st' : Store} {ms : List Nat} {T : Nat} {d : D} (k : Keep ms st st') (h : Lo st ms T d) : Lo st' ms T d := by
  rcases h with h | ⟨m, e, hm, h⟩
  · exact .inl h
  · exact .inr ⟨m, e, hm, h.elim (fun h => .inl (k.get h hm)) fun h => .inr (k.get h hm)⟩
theorem Sm.keep {st st' : Store} {ms : List Nat} {T : Nat} (k : Keep ms st st') : ∀ {ws : List Nat} {d : D}, Sm st ms T ws d → Sm st' ms T ws d
  | [], _, h => Lo.keep k h
  | _ :: _, _, .inl h => .inl (h.keep k)
  | _ :: _, _, .inr ⟨xs, hl, h, e⟩ => .inr ⟨xs, hl, fun x hx => Sm.keep k (h x hx), e.elim .inl fun ⟨m, e, hm, q⟩ => .inr ⟨m, e, hm, k.get q hm⟩⟩
theorem at_lt {st : Store} {m : Nat} {o : MO} (h : st[m]? = some o) : m < st.length := (List.getElem?_eq_some_iff.mp h).1
theorem Lo.more {st : Store} {ms ns : List Nat} {T : Nat} {d : D} (hn : ∀ m ∈ ns, m ∈ ms ∨ st.length ≤ m) (h : Lo st ms T d) : Lo st ns T d := by
  rcases h with h | ⟨m, e, hm, h⟩
  · exact .inl h
  · refine .inr ⟨m, e, fun q => ?_, h⟩
    rcases hn m q with q | q
    · exact hm q
    · rcases h with h | h
      · have := at_lt h; omega
      · have := at_lt h; omega
theorem Sm.more {st : Store} {ms ns : List Nat} {T : Nat} (hn : ∀ m ∈ ns, m ∈ ms ∨ st.length ≤ m) : ∀ {ws : List Nat} {d : D}, Sm st ms T ws d → Sm st ns T ws d
  | [], _, h => Lo.more hn h
  | _ :: _, _, .inl h => .inl (h.more hn)
  | _ :: _, _, .inr ⟨xs, hl, h, e⟩ => .inr ⟨xs, hl, fun x hx => Sm.more hn (h x hx), e.elim .inl fun ⟨m, e, hm, q⟩ => .inr ⟨m, e, fun z => (hn m z).elim hm fun z => absurd (at_lt q) (by omega), q⟩⟩
theorem Sm.wide {st : Store} {ms : List Nat} {T : Nat} : ∀ {ws : List Nat} {d : D}, Sm st ms T ws d → Sm st ms T (ws.map (· + 1)) d
  | [], _, h => h
  | _ :: _, _, .inl h => .inl h
  | w :: ws, _, .inr ⟨xs, hl, h, e⟩ => .inr ⟨xs, show xs.length ≤ w + 1 by omega, fun x hx => Sm.wide (h x hx), e⟩
/-- how long a repr is at most -/
def Bd (T : Nat) : List Nat → Nat
  | [] => 10 * T + 8
  | w :: ws => w * (Bd T ws + 2) + 3
theorem Bd_leaf (T : Nat) : ∀ {ws : List Nat}, (∀ w ∈ ws, 1 ≤ w) → 10 * T + 8 ≤ Bd T ws
  | [], _ => Nat.le_refl _
  | w :: ws, h => by
    have h1 := Bd_leaf T (ws := ws) fun v hv => h v (List.mem_cons_of_mem _ hv)
    have h2 := Nat.mul_le_mul_right (Bd T ws + 2) (h w List.mem_cons_self)
    unfold Bd
    omega
theorem int_len : ∀ n : Nat, n < 65 → (PyData.shown (.int ((n : Int) - 1))).length ≤ 8 := by decide +kernel
theorem leaf_py {st : Store} {T n : Nat} {d : D} (h : Leaf T d) (n2 : 2 ≤ n) : ∃ p, pyD st n d = some p ∧ p.showable = true ∧ p.shown.length ≤ 10 * T + 8 ∧ ∀ i, p = .int i → smallInt i = true := by
  match n, n2 with
  | n + 2, _ =>
  cases d with
  | non => exact ⟨.none, rfl, by simp only [PyData.showable], Nat.le_trans (show (PyData.shown .none).length ≤ 8 by decide +kernel) (by omega), fun _ e => nomatch e⟩
  | bl b => exact ⟨.bool b, rfl, by simp only [PyData.showable], Nat.le_trans (show (PyData.shown (.bool b)).length ≤ 8 by cases b <;> decide +kernel) (by omega), fun _ e => nomatch e⟩
  | int i =>
    have h : smallInt i = true := h
    refine ⟨.int i, rfl, ?_, ?_, fun j e => by cases e; exact h⟩
    · unfold smallInt at h
      rw [Bool.and_eq_true, decide_eq_true_eq, decide_eq_true_eq] at h
      simp only [PyData.showable]
      rw [decide_eq_true_eq]
      have : i.natAbs ≤ 63 := by omega
      exact Nat.lt_of_le_of_lt (Nat.le_trans (Nat.log2_le_self _) this) (by omega)
    · unfold smallInt at h
      rw [Bool.and_eq_true, decide_eq_true_eq, decide_eq_true_eq] at h
      have := int_len (i + 1).toNat (by omega)
      rw [show ((i + 1).toNat : Int) - 1 = i by omega] at this
      omega
  | str x =>
    obtain ⟨h1, h2⟩ : x.cps.toList.length ≤ T ∧ ∀ c ∈ x.cps.toList, c < 256 := h
    refine ⟨.str x, rfl, by simp only [PyData.showable], ?_, fun _ e => nomatch e⟩
    simp only [PyData.shown]
    have := StrLaws.reprText_len x fun c hc => Nat.lt_trans (h2 c hc) (by omega)
    rw [cps_len x] at this
    omega
  | tup xs =>
    have h : xs = [] := h
    subst h
    exact ⟨.tuple [], rfl, by simp only [PyData.showable, PyData.showableAll], Nat.le_trans (show (PyData.shown (.tuple [])).length ≤ 8 by decide +kernel) (by omega), fun _ e => nomatch e⟩
  | kl _ => cases h
  | loc _ => cases h
theorem lo_py {st : Store} {ms : List Nat} {T n : Nat} {d : D} (h : Lo st ms T d) (n2 : 2 ≤ n) : ∃ p, pyD st n d = some p ∧ p.showable = true ∧ p.shown.length ≤ 10 * T + 8 ∧ ∀ i, p = .int i → smallInt i = true := by
  rcases h with h | ⟨m, rfl, _, h⟩
  · exact leaf_py h n2
  · match n, n2 with
    | n + 2, _ =>
      rcases h with h | h
      · refine ⟨.list [], by unfold pyD py1; simp only [h]; rfl, by simp only [PyData.showable, PyData.showableAll], Nat.le_trans (show (PyData.shown (.list [])).length ≤ 8 by decide +kernel) (by omega), fun _ e => nomatch e⟩
      · refine ⟨.dict [], by unfold pyD py1; simp only [h]; rfl, by simp only [PyData.showable, PyData.showableKv], Nat.le_trans (show (PyData.shown (.dict [])).length ≤ 8 by decide +kernel) (by omega), fun _ e => nomatch e⟩
theorem items_py {f : D → Option PyData} {B : Nat} : ∀ {xs : List D}, (∀ x ∈ xs, ∃ p, f x = some p ∧ p.showable = true ∧ p.shown.length ≤ B) → ∃ ps, pyL f xs = some ps ∧ PyData.showableAll ps = true ∧ ((PyData.shownAll ps).map fun t => t.length + 2).sum ≤ xs.length * (B + 2)
  | [], _ => ⟨[], rfl, by simp only [PyData.showableAll], by simp [PyData.shownAll]⟩
  | x :: xs, h => by
    obtain ⟨p, e1, s1, l1⟩ := h x List.mem_cons_self
    obtain ⟨ps, e2, s2, l2⟩ := items_py fun y hy => h y (List.mem_cons_of_mem _ hy)
    refine ⟨p :: ps, by unfold pyL; rw [e1, e2], by simp only [PyData.showableAll, s1, s2, Bool.and_self], ?_⟩
    simp only [PyData.shownAll, List.map_cons, List.sum_cons, List.length_cons]
    rw [Nat.succ_mul]
    omega
theorem Sm.py {st : Store} {ms : List Nat} {T : Nat} : ∀ {ws : List Nat} {d : D} {n : Nat}, (∀ w ∈ ws, 1 ≤ w) → Sm st ms T ws d → ws.length + 2 ≤ n → ∃ p, pyD st n d = some p ∧ p.showable = true ∧ p.shown.length ≤ Bd T ws ∧ ∀ i, p = .int i → smallInt i = true
  | [], _, _, _, h, hn => lo_py h (by simpa using hn)
  | w :: ws, d, n, hw, h, hn => by
    rw [List.length_cons] at hn
    rcases h with h | ⟨xs, hl, hx, e⟩
    · obtain ⟨p, a, b, c, e⟩ := lo_py (n := n) h (by omega)
      exact ⟨p, a, b, Nat.le_trans c (Bd_leaf T hw), e⟩
    · match n, hn with
      | n + 1, hn =>
        obtain ⟨ps, e1, s1, l1⟩ := items_py (f := pyD st n) (B := Bd T ws) (xs := xs) fun x q => by
          obtain ⟨p, a, b, c, _⟩ := Sm.py (n := n) (fun v hv => hw v (List.mem_cons_of_mem _ hv)) (hx x q) (by omega)
          exact ⟨p, a, b, c⟩
        have l2 := Nat.mul_le_mul_right (Bd T ws + 2) hl
        have q1 := listText_le (PyData.shownAll ps)
        have q2 := tupleText_le (PyData.shownAll ps)
        rcases e with rfl | ⟨m, rfl, _, e⟩
        · refine ⟨.tuple ps, ?_, by simpa only [PyData.showable] using s1, ?_, fun _ e => nomatch e⟩
          · show (pyL (pyD st n) xs).map _ = _
            rw [e1]; rfl
          · simp only [PyData.shown]
            unfold Bd
            omega
        · refine ⟨.list ps, ?_, by simpa only [PyData.showable] using s1, ?_, fun _ e => nomatch e⟩
          · unfold pyD py1
            simp only [e, e1]; rfl
          · simp only [PyData.shown]
            unfold Bd
            omega
theorem Sm.rep {st : Store} {ms : List Nat} {T : Nat} {ws : List Nat} {d : D} (hw : ∀ w ∈ ws, 1 ≤ w) (h : Sm st ms T ws d) (hl : ws.length ≤ 20) (hb : Bd T ws ≤ 16777216) : Rep st d := by
  obtain ⟨p, a, b, c, e⟩ := h.py hw (n := 40) (by omega)
  exact ⟨p, a, ⟨b, by rw [sizeLine_eq]; omega⟩, e⟩
theorem Lo.there {st : Store} {ms : List Nat} {T : Nat} {d : D} (h : Lo st ms T d) (hb : 10 * T + 8 ≤ 16777216) : There st d := by
  rcases h with h | ⟨m, rfl, _, h⟩
  · cases d with
    | non => exact ⟨⟨_, rfl⟩, fun _ e => (nomatch e), fun _ e => nomatch e⟩
    | bl _ => exact ⟨⟨_, rfl⟩, fun _ e => (nomatch e), fun _ e => nomatch e⟩
    | int _ => exact ⟨⟨_, rfl⟩, fun _ e => (nomatch e), fun _ e => nomatch e⟩
    | tup _ => exact ⟨⟨_, rfl⟩, fun _ e => (nomatch e), fun _ e => nomatch e⟩
    | str x =>
      obtain ⟨h1, h2⟩ : x.cps.toList.length ≤ T ∧ ∀ c ∈ x.cps.toList, c < 256 := h
      exact ⟨⟨_, rfl⟩, (fun y e => by cases e; rw [cps_len, sizeLine_eq]; omega), fun _ e => nomatch e⟩
    | kl _ => cases h
    | loc _ => cases h
  · refine ⟨?_, fun _ e => (nomatch e), fun _ e => nomatch e⟩
    rcases h with h | h
    · exact ⟨"list", by unfold tyD; simp only [h]⟩
    · exact ⟨"dict", by unfold tyD; simp only [h]⟩
theorem Sm.there {st : Store} {ms : List Nat} {T : Nat} {ws : List Nat} {d : D} (h : Sm st ms T ws d) (hb : 10 * T + 8 ≤ 16777216) : There st d := by
  cases ws with
  | nil => exact Lo.there h hb
  | cons w ws =>
    rcases h with h | ⟨xs, _, _, rfl | ⟨m, rfl, _, e⟩⟩
    · exact h.there hb
    · exact ⟨⟨_, rfl⟩, fun _ e => (nomatch e), fun _ e => nomatch e⟩
    · exact ⟨⟨"list", by unfold tyD; simp only [e]⟩, fun _ e => (nomatch e), fun _ e => nomatch e⟩
theorem Sm.deep {st : Store} {ms : List Nat} {T : Nat} : ∀ (k : Nat) {ws : List Nat} {d : D}, (∀ w ∈ ws, 1 ≤ w) → Sm st ms T ws d → ws.length ≤ 20 → Bd T ws ≤ 16777216 → DeepR st k d
  | 0, ws, d, hw, h, hl, hb => ⟨h.there (Nat.le_trans (Bd_leaf T hw) hb), h.rep hw hl hb⟩
  | k + 1, ws, d, hw, h, hl, hb => by
    refine ⟨⟨h.there (Nat.le_trans (Bd_leaf T hw) hb), h.rep hw hl hb⟩, fun ys e => ?_⟩
    subst e
    have lo : ∀ {ys}, Lo st ms T (.tup ys) → ys = [] := fun {ys} h => by
      rcases h with h | ⟨m, e, _⟩
      · exact h
      · cases e
    cases ws with
    | nil =>
      have := lo h
      subst this
      exact ⟨Nat.zero_le _, fun _ h => nomatch h⟩
    | cons w ws =>
      rcases h with h | ⟨xs, hxl, hx, e | ⟨m, e, _⟩⟩
      · have := lo h
        subst this
        exact ⟨Nat.zero_le _, fun _ h => nomatch h⟩
      · cases e
        unfold Bd at hb
        rw [List.length_cons] at hl
        have h1 : 1 ≤ w := hw w List.mem_cons_self
        have h2 : w * 1 ≤ w * (Bd T ws + 2) := Nat.mul_le_mul_left w (by omega)
        have h3 := Nat.mul_le_mul_right (Bd T ws + 2) h1
        exact ⟨by rw [sizeLine_eq]; omega, fun x q => Sm.deep k (fun v hv => hw v (List.mem_cons_of_mem _ hv)) (hx x q) (by omega) (by omega)⟩
      · cases e
theorem Lo.offD {st : Store} {ms : List Nat} {T : Nat} {d : D} (h : Lo st ms T d) : ∀ n, offD st ms n d
  | 0 => trivial
  | n + 1 => by
    rcases h with h | ⟨m, rfl, hm, h⟩
    · cases d with
      | tup xs =>
        have h : xs = [] := h
        subst h
        exact fun _ h => nomatch h
      | loc _ => cases h
      | _ => exact trivial
    · refine ⟨hm, fun xs e => ?_, fun xs e => ?_⟩
      · rcases h with h | h
        · rw [h] at e; cases e
          exact fun _ h => nomatch h
        · rw [h] at e; cases e
      · rcases h with h | h
        · rw [h] at e; cases e
        · rw [h] at e; cases e
          exact fun _ h => nomatch h
theorem Sm.off {st : Store} {ms : List Nat} {T : Nat} : ∀ (n : Nat) {ws : List Nat} {d : D}, Sm st ms T ws d → K50.offD st ms n d
  | 0, _, _, _ => trivial
  | n + 1, [], d, h => Lo.offD h _
  | n + 1, w :: ws, d, h => by
    rcases h with h | ⟨xs, _, hx, rfl | ⟨m, rfl, hm, e⟩⟩
    · exact h.offD _
    · exact fun x q => Sm.off n (hx x q)
    · refine ⟨hm, fun ys e2 x q => ?_, fun ys e2 => ?_⟩
      · rw [e] at e2; cases e2
        exact Sm.off n (hx x q)
      · rw [e] at e2; cases e2
theorem Sm.val {st : Store} {ms : List Nat} {T : Nat} {ws : List Nat} {d : D} (hw : ∀ w ∈ ws, 1 ≤ w) (h : Sm st ms T ws d) (hl : ws.length ≤ 20) (hb : Bd T ws ≤ 16777216) : Val st ms d := by
  obtain ⟨p, a, _⟩ := h.py hw (n := 30) (by omega)
  exact ⟨h.deep 5 hw hl hb, ⟨p, a⟩, h.off 30⟩
end K50
end
section
set_option Elab.async false
set_option linter.all false
set_option maxRecDepth 100000
set_option maxHeartbeats 1000000
/-! K50: the bends. -/
namespace K50
open PySem PySem.Spec PyProof.Rows L2 Mp Pen
theorem sl_to {xs : List D} {i : Int} {st : Store} {Q : D → Store → Prop} (i0 : 0 ≤ i) (q : Q (.tup (xs.take i.toNat)) st) : Ok (slD (.tup xs) none (some i) st) Q := by
  have e : Mp.cutD xs none (some i) = xs.take i.toNat := by
    unfold Mp.cutD
    rw [HT.sIx_none, List.drop_zero, Nat.sub_zero]
    have : HT.sIx xs.length xs.length (some i) = min i.toNat xs.length := by
      unfold HT.sIx
      simp only
      rw [if_neg (by omega)]
    rw [this, ← List.take_eq_take_min]
  show Q (.tup (Mp.cutD xs none (some i))) st
  rw [e]
  exact q
theorem sl_from {xs : List D} {i : Int} {st : Store} {Q : D → Store → Prop} (i0 : 0 ≤ i) (q : Q (.tup (xs.drop i.toNat)) st) : Ok (slD (.tup xs) (some i) none st) Q := by
  have e : Mp.cutD xs (some i) none = xs.drop i.toNat := by
    unfold Mp.cutD
    rw [HT.sIx_none]
    have : HT.sIx xs.length 0 (some i) = min i.toNat xs.length := by
      unfold HT.sIx
      simp only
      rw [if_neg (by omega)]
    rw [this]
    rw [List.take_of_length_le (by rw [List.length_drop]; omega)]
    by_cases h : i.toNat ≤ xs.length
    · rw [Nat.min_eq_left h]
    · rw [Nat.min_eq_right (by omega), List.drop_length, List.drop_eq_nil_of_le (by omega)]
  show Q (.tup (Mp.cutD xs (some i) none)) st
  rw [e]
  exact q
theorem add_tup {xs ys : List D} {st : Store} {Q : D → Store → Prop} (h : xs.length + ys.length ≤ sizeLine) (q : Q (.tup (xs ++ ys)) st) : Ok (addD (.tup xs) (.tup ys) st) Q := by
  unfold addD
  simp only
  rw [if_pos h]
  exact q
theorem list_tup {xs : List D} {st : Store} {Q : D → Store → Prop} (q : Q (.loc st.length) (st ++ [MO.lst xs])) : Ok (listD [.tup xs] st) Q := by
  exact q
noncomputable def b_junk : MS :=
 (sSeq (sAsg (mLst (mCons (mC .non) (mCons (mC (.bl true)) (mCons (mC (.bl false)) (mCons (mC (.int 0)) (mCons (mC (.int 1)) (mCons (mC (.int 5)) (mCons (mC (.int 6)) (mCons (m1 negD (mC (.int 1))) (mCons (mC (.str "")) (mCons (mC (.str "a")) (mCons (mC (.str "ba")) (mCons (mC (.str "a b")) (mCons (mC (.str "~!")) (mCons (mC (.str "halt")) (mCons (mC (.str "fault")) (mCons (mC (.str "stop")) (mCons (mTup mNil) (mCons (mLst mNil) (mCons mDict0 mNil)))))))))))))))))))) (gNm 2))
 (sRet (m2 ixD (m2 addD (mVar 2) (mLst (mCons (mC (.str "\n")) (mCons (mC (.str "x\n")) (mCons (mC (.str "\t")) mNil))))) (mCall (callN 2 F__law_take) (mCons (mVar 0) (mCons (mC (.int 22)) mNil))))))
noncomputable def b_way (R : List D → Store → R D) : MS :=
 (sSeq (sPar 3 4 (mCons (mCall (callN 2 F__law_take) (mCons (mVar 0) (mCons (mCall lenD (mCons (mVar 1) mNil)) mNil))) (mCons (mCall (callN 2 F__law_take) (mCons (mVar 0) (mCons (mC (.int 11)) mNil))) mNil)))
 (sSeq (sIf (tB1 (m2 ltD (mVar 4) (mC (.int 8))))
 (sRet (m2 addD (m2 addD (mSl (mVar 1) pN (pS (mVar 3))) (mTup (mCons (mCall (callN 2 R) (mCons (mVar 0) (mCons (m2 ixD (mVar 1) (mVar 3)) mNil))) mNil))) (mSl (mVar 1) (pS (m2 addD (mVar 3) (mC (.int 1)))) pN)))
 sSkip)
 (sRet (m2 ixD (mLst (mCons (m2 addD (mSl (mVar 1) pN (pS (mVar 3))) (mSl (mVar 1) (pS (m2 addD (mVar 3) (mC (.int 1)))) pN)) (mCons (m2 addD (mSl (mVar 1) pN (pS (m2 addD (mVar 3) (mC (.int 1))))) (mSl (mVar 1) (pS (mVar 3)) pN)) (mCons (mCall listD (mCons (mVar 1) mNil)) mNil)))) (m2 subD (mVar 4) (mC (.int 8)))))))
theorem bend_split (R : List D → Store → R D) : b__law_bend R = sSeq (sIf (tOr (tNot (tVal (m1 (isiD "tuple") (mVar 1)))) (tOr (tB1 (m2 eqD (mVar 1) (mTup mNil))) (tB1 (m2 eqD (mCall (callN 2 F__law_take) (mCons (mVar 0) (mCons (mC (.int 7)) mNil))) (mC (.int 0)))))) b_junk sSkip) (b_way R) := rfl
theorem leaf_lit {T : Nat} (x : Str) (hT : 5 ≤ T) (h : (decide (x.cps.toList.length ≤ 5) && x.cps.toList.all fun c => decide (c < 256)) = true) : Leaf T (.str x) := by
  rw [Bool.and_eq_true, decide_eq_true_eq, List.all_eq_true] at h
  exact ⟨by omega, fun c hc => of_decide_eq_true (h.2 c hc)⟩
theorem junk_ok {st : Store} {pen : Nat} {ms : List Nat} {B : Int} {T : Nat} {o1 o2 o3 o4 : Option D} {N Bk C : DSt → Store → Prop} {Q : D → Store → Prop} (hT : 5 ≤ T) (hms : ∀ m ∈ ms, m < st.length) (hP : PenAt st pen B) (hB : B < 1048576)
    (q : ∀ d st', Lo st' ms T d → Keep [pen] st st' → PenAt st' pen (B + 1) → Q d st') : wS b_junk [some (.loc pen), o1, o2, o3, o4] st N Q Bk C := by
  unfold b_junk
  simp only [wS_seq, wS_if, wS_asg, wS_ret, wS_expr, wS_skip, wS_par, wS_retN, wS_brk, wS_cnt, wE_C, wE_v, slot_zero, slot_succ, wE_1, wE_2, wE_nil, wE_cons, wE_tup, wE_lst, wE_call, Ok_callN, wE_if, wE_tval, wE_tb1, wE_tand, wE_tor, wE_tnot, wE_and, wE_or, wE_not, wE_chain, wE_bm, wE_repr, wE_sl, wE_pN, wE_tyes, wE_it, wE_dict0, Ok_gNm, Ok_gTp, Ok_gNil, Ok_gCons, Ok_gSb, Ok_ok, isB_bl, truth_bl, List.set_cons_zero, List.set_cons_succ, List.map_cons, List.map_nil, List.cons_append, List.nil_append, List.replicate_succ, List.replicate_zero, List.length_cons, List.length_nil, wipeD, wE_pS, intOf_int, wE_enum, wE_sort, wE_range1]
  have n1 : ∀ (st : Store) (Q : D → Store → Prop), Ok (negD (.int 1) st) Q = Q (.int (-1)) st := fun _ _ => rfl
  rw [n1]
  refine ⟨Nat.zero_le _, Nat.zero_le _, by rw [sizeLine_eq]; omega, by rw [sizeLine_eq]; omega, ?_⟩
  refine add_two (by rw [sizeLine_eq]; simp) fun n st2 e2 k2 => ?_
  refine ⟨trivial, ?_⟩
  have kA : Keep [] st (st ++ [MO.lst []] ++ [MO.dK []]) := Keep.trans Keep.snoc Keep.snoc
  have l0 : (st ++ [MO.lst []])[st.length]? = some (MO.lst []) := snoc_at
  have l1 : (st ++ [MO.lst []] ++ [MO.dK []])[st.length]? = some (MO.lst []) := (Keep.snoc (ms := [])).get l0 (by simp)
  have l2 : (st ++ [MO.lst []] ++ [MO.dK []])[(st ++ [MO.lst []]).length]? = some (MO.dK []) := snoc_at
  have hpen := hP.lt
  have kB := kA.trans k2
  have l1' := k2.get l1 (by simp)
  have l2' := k2.get l2 (by simp)
  refine Mp.Ok.mono (take_ok (hP.keep kB) hB 22 (by omega) (by omega)) ?_
  rintro d st3 ⟨i, rfl, i0, i1, k3, p3⟩
  have hn : n ≠ pen := by
    rintro rfl
    have : st2[n]? = st[n]? := kB.at_ n hpen (by simp)
    obtain ⟨c, cells, t, bits, e, _⟩ := hP
    rw [e2, e] at this
    exact absurd this (by simp)
  have e3 := k3.get e2 (by simpa using hn)
  have l1'' := k3.get l1' (by simp; omega)
  have l2'' := k3.get l2' (by simp; omega)
  refine ix_b e3 i0 (by simpa using i1) fun d hd => ?_
  refine q d st3 ?_ ((kB.mono (by simp)).trans k3) p3
  have hm := List.mem_of_getElem? hd
  clear hd e2 e3 k2 kB
  have g1 : Lo st3 ms T (.loc st.length) := .inr ⟨_, rfl, fun h => by have := hms _ h; omega, .inl l1''⟩
  have g2 : Lo st3 ms T (.loc (st ++ [MO.lst []]).length) := .inr ⟨_, rfl, fun h => by have := hms _ h; simp at this; omega, .inr l2''⟩
  simp only [List.cons_append, List.nil_append, List.mem_cons, List.not_mem_nil, or_false] at hm
  rcases hm with h | h | h | h | h | h | h | h | h | h | h | h | h | h | h | h | h | h | h | h | h | h
  · subst h; exact .inl trivial
  · subst h; exact .inl trivial
  · subst h; exact .inl trivial
  · subst h; exact .inl (show smallInt 0 = true by decide)
  · subst h; exact .inl (show smallInt 1 = true by decide)
  · subst h; exact .inl (show smallInt 5 = true by decide)
  · subst h; exact .inl (show smallInt 6 = true by decide)
  · subst h; exact .inl (show smallInt (-1) = true by decide)
  · subst h; exact .inl (leaf_lit _ hT (by decide +kernel))
  · subst h; exact .inl (leaf_lit _ hT (by decide +kernel))
  · subst h; exact .inl (leaf_lit _ hT (by decide +kernel))
  · subst h; exact .inl (leaf_lit _ hT (by decide +kernel))
  · subst h; exact .inl (leaf_lit _ hT (by decide +kernel))
  · subst h; exact .inl (leaf_lit _ hT (by decide +kernel))
  · subst h; exact .inl (leaf_lit _ hT (by decide +kernel))
  · subst h; exact .inl (leaf_lit _ hT (by decide +kernel))
  · subst h; exact .inl rfl
  · subst h; exact g1
  · subst h; exact g2
  · subst h; exact .inl (leaf_lit _ hT (by decide +kernel))
  · subst h; exact .inl (leaf_lit _ hT (by decide +kernel))
  · subst h; exact .inl (leaf_lit _ hT (by decide +kernel))
theorem bend_ok {pen T : Nat} {ms : List Nat} (hT : 5 ≤ T) (hpm : pen ∈ ms) : ∀ (ws : List Nat) (k : Nat) (st : Store) (B : Int) (d : D), ws.length < k → (∀ m ∈ ms, m < st.length) → PenAt st pen B → B + 4 * ((ws.length : Int) + 1) < 1048576 → (∀ w ∈ ws, w ≤ 1000000) → 10 * T + 8 ≤ 16777216 → Sm st ms T ws d →
    Ok (F__law_bendR k [.loc pen, d] st) fun r st' => Sm st' ms T (ws.map (· + 1)) r ∧ Keep [pen] st st' ∧ PenAt st' pen (B + 4 * ((ws.length : Int) + 1)) := by
  intro ws
  induction ws with
  | nil =>
    intro k st B d hk hms hP hB hw hb hs
    obtain ⟨k, rfl⟩ : ∃ j, k = j + 1 := ⟨k - 1, by simp at hk; omega⟩
    unfold F__law_bendR
    rw [Ok_fn]
    refine ⟨rfl, ?_⟩
    rw [bend_split]
    simp only [List.length_nil] at hB ⊢
    have jk : ∀ {st' : Store} {N Bk C : DSt → Store → Prop} (B' : Int), B' ≤ B + 1 → Keep [pen] st st' → PenAt st' pen B' → wS b_junk [some (.loc pen), some d, none, none, none] st' N (fun r st' => Sm st' ms T (List.map (· + 1) []) r ∧ Keep [pen] st st' ∧ PenAt st' pen (B + 4 * ((0 : Nat) + 1))) Bk C := fun {st' N Bk C} B' hB' k1 p1 => by
      refine junk_ok hT (fun m hm => Nat.lt_of_lt_of_le (hms m hm) k1.len) p1 (by omega) fun d st2 hd k2 p2 => ?_
      exact ⟨Sm.lo hd, k1.trans k2, p2.mono (by simp; omega)⟩
    simp only [wS_seq, wS_if, wS_asg, wS_ret, wS_expr, wS_skip, wS_par, wS_retN, wS_brk, wS_cnt, wE_C, wE_v, slot_zero, slot_succ, wE_1, wE_2, wE_nil, wE_cons, wE_tup, wE_lst, wE_call, Ok_callN, wE_if, wE_tval, wE_tb1, wE_tand, wE_tor, wE_tnot, wE_and, wE_or, wE_not, wE_chain, wE_bm, wE_repr, wE_sl, wE_pN, wE_tyes, wE_it, wE_dict0, Ok_gNm, Ok_gTp, Ok_gNil, Ok_gCons, Ok_gSb, Ok_ok, isB_bl, truth_bl, List.set_cons_zero, List.set_cons_succ, List.map_cons, List.map_nil, List.cons_append, List.nil_append, List.replicate_succ, List.replicate_zero, List.length_cons, List.length_nil, wipeD, wE_pS, intOf_int, wE_enum, wE_sort, wE_range1]
    rw [isi_tup (hs.there hb).1]
    simp only [truth_bl, Ok_ok]
    rcases hs with h | ⟨m, rfl, hm, h⟩
    · cases d with
      | tup xs =>
        have h : xs = [] := h
        subst h
        refine ⟨fun h => (nomatch h), fun _ => ?_⟩
        refine ⟨Nat.zero_le _, ?_⟩
        rw [eq_tnil]
        simp only [isB_bl, Ok_ok]
        exact ⟨fun _ => ⟨fun _ => jk B (by omega) .refl hP, fun h => (nomatch h)⟩, fun h => (nomatch h)⟩
      | _ => exact ⟨fun _ => ⟨fun _ => jk B (by omega) .refl hP, fun h => (nomatch h)⟩, fun h => (nomatch h)⟩
    · exact ⟨fun _ => ⟨fun _ => jk B (by omega) .refl hP, fun h => (nomatch h)⟩, fun h => (nomatch h)⟩
  | cons w ws ih =>
    intro k st B d hk hms hP hB hw hb hs
    rw [List.length_cons] at hk hB ⊢
    obtain ⟨k, rfl⟩ : ∃ j, k = j + 1 := ⟨k - 1, by omega⟩
    unfold F__law_bendR
    rw [Ok_fn]
    refine ⟨rfl, ?_⟩
    rw [bend_split]
    have jk : ∀ {st' : Store} {N Bk C : DSt → Store → Prop} (B' : Int), B' ≤ B + 1 → Keep [pen] st st' → PenAt st' pen B' → wS b_junk [some (.loc pen), some d, none, none, none] st' N (fun r st' => Sm st' ms T (List.map (· + 1) (w :: ws)) r ∧ Keep [pen] st st' ∧ PenAt st' pen (B + 4 * (((ws.length + 1 : Nat) : Int) + 1))) Bk C := fun {st' N Bk C} B' hB' k1 p1 => by
      refine junk_ok hT (fun m hm => Nat.lt_of_lt_of_le (hms m hm) k1.len) p1 (by omega) fun d st2 hd k2 p2 => ?_
      exact ⟨Sm.lo hd, k1.trans k2, p2.mono (by omega)⟩
    simp only [wS_seq, wS_if, wS_asg, wS_ret, wS_expr, wS_skip, wS_par, wS_retN, wS_brk, wS_cnt, wE_C, wE_v, slot_zero, slot_succ, wE_1, wE_2, wE_nil, wE_cons, wE_tup, wE_lst, wE_call, Ok_callN, wE_if, wE_tval, wE_tb1, wE_tand, wE_tor, wE_tnot, wE_and, wE_or, wE_not, wE_chain, wE_bm, wE_repr, wE_sl, wE_pN, wE_tyes, wE_it, wE_dict0, Ok_gNm, Ok_gTp, Ok_gNil, Ok_gCons, Ok_gSb, Ok_ok, isB_bl, truth_bl, List.set_cons_zero, List.set_cons_succ, List.map_cons, List.map_nil, List.cons_append, List.nil_append, List.replicate_succ, List.replicate_zero, List.length_cons, List.length_nil, wipeD, wE_pS, intOf_int, wE_enum, wE_sort, wE_range1]
    have hth := hs.there hb
    rw [isi_tup hth.1]
    simp only [truth_bl, Ok_ok]
    cases hd : isTup d with
    | false => exact ⟨fun _ => ⟨fun _ => jk B (by omega) .refl hP, fun h => (nomatch h)⟩, fun h => (nomatch h)⟩
    | true =>
      obtain ⟨xs, rfl⟩ : ∃ xs, d = .tup xs := by
        cases d with
        | tup xs => exact ⟨xs, rfl⟩
        | _ => cases hd
      refine ⟨fun h => (nomatch h), fun _ => ?_⟩
      refine ⟨Nat.zero_le _, ?_⟩
      rw [eq_tnil]
      simp only [isB_bl, Ok_ok]
      refine ⟨fun _ => ⟨fun _ => jk B (by omega) .refl hP, fun h => (nomatch h)⟩, fun hne => ?_⟩
      refine ⟨trivial, ?_⟩
      refine Mp.Ok.mono (take_ok hP (by omega) 7 (by omega) (by omega)) ?_
      rintro r st1 ⟨i, rfl, i0, i1, k1, p1⟩
      rw [Pen.eq_int]
      simp only [isB_bl, Ok_ok]
      refine ⟨fun _ => jk _ (by omega) k1 p1, fun _ => ?_⟩
      have hl : 0 < xs.length := by
        cases xs with
        | nil => cases hne
        | cons => simp
      have hsm : xs.length ≤ w ∧ ∀ x ∈ xs, Sm st ms T ws x := by
        rcases hs with h | ⟨ys, h1, h2, e | ⟨m, e, _⟩⟩
        · rcases h with h | ⟨m, e, _⟩
          · have h : xs = [] := h
            subst h
            cases hne
          · cases e
        · cases e; exact ⟨h1, h2⟩
        · cases e
      obtain ⟨hlw, hitems⟩ := hsm
      have hw1 := hw w List.mem_cons_self
      have kmm : ∀ {a b : Store}, Keep [pen] a b → Keep ms a b := fun k => k.mono (by simpa using hpm)
      unfold b_way
      simp only [wS_seq, wS_if, wS_asg, wS_ret, wS_expr, wS_skip, wS_par, wS_retN, wS_brk, wS_cnt, wE_C, wE_v, slot_zero, slot_succ, wE_1, wE_2, wE_nil, wE_cons, wE_tup, wE_lst, wE_call, Ok_callN, wE_if, wE_tval, wE_tb1, wE_tand, wE_tor, wE_tnot, wE_and, wE_or, wE_not, wE_chain, wE_bm, wE_repr, wE_sl, wE_pN, wE_tyes, wE_it, wE_dict0, Ok_gNm, Ok_gTp, Ok_gNil, Ok_gCons, Ok_gSb, Ok_ok, isB_bl, truth_bl, List.set_cons_zero, List.set_cons_succ, List.map_cons, List.map_nil, List.cons_append, List.nil_append, List.replicate_succ, List.replicate_zero, List.length_cons, List.length_nil, wipeD, wE_pS, intOf_int, wE_enum, wE_sort, wE_range1]
      rw [len_tup]
      refine ⟨trivial, ?_⟩
      refine Mp.Ok.mono (take_ok p1 (by omega) (xs.length : Int) (by omega) (by omega)) ?_
      rintro r st2 ⟨j, rfl, j0, j1, k2, p2⟩
      refine ⟨trivial, ?_⟩
      refine Mp.Ok.mono (take_ok p2 (by omega) 11 (by omega) (by omega)) ?_
      rintro r st3 ⟨v, rfl, v0, v1, k3, p3⟩
      simp only [wS_seq, wS_if, wS_asg, wS_ret, wS_expr, wS_skip, wS_par, wS_retN, wS_brk, wS_cnt, wE_C, wE_v, slot_zero, slot_succ, wE_1, wE_2, wE_nil, wE_cons, wE_tup, wE_lst, wE_call, Ok_callN, wE_if, wE_tval, wE_tb1, wE_tand, wE_tor, wE_tnot, wE_and, wE_or, wE_not, wE_chain, wE_bm, wE_repr, wE_sl, wE_pN, wE_tyes, wE_it, wE_dict0, Ok_gNm, Ok_gTp, Ok_gNil, Ok_gCons, Ok_gSb, Ok_ok, isB_bl, truth_bl, List.set_cons_zero, List.set_cons_succ, List.map_cons, List.map_nil, List.cons_append, List.nil_append, List.replicate_succ, List.replicate_zero, List.length_cons, List.length_nil, wipeD, wE_pS, intOf_int, wE_enum, wE_sort, wE_range1]
      rw [Pen.lt_int]
      simp only [isB_bl, Ok_ok]
      have k123 := (k1.trans k2).trans k3
      have jN : ((j + 1).toNat : Nat) = j.toNat + 1 := by omega
      have hjl : j.toNat < xs.length := by omega
      have tk1 : ∀ x ∈ xs.take j.toNat, x ∈ xs := fun x h => List.mem_of_mem_take h
      have dr1 : ∀ x ∈ xs.drop (j.toNat + 1), x ∈ xs := fun x h => List.mem_of_mem_drop h
      have tk2 : ∀ x ∈ xs.take (j.toNat + 1), x ∈ xs := fun x h => List.mem_of_mem_take h
      have dr2 : ∀ x ∈ xs.drop j.toNat, x ∈ xs := fun x h => List.mem_of_mem_drop h
      refine ⟨fun _ => ?_, fun h8 => ?_⟩
      · refine sl_to j0 ?_
        refine ix_tup j0 j1 fun x hx => ?_
        have hxm := List.mem_of_getElem? hx
        refine ⟨trivial, ?_⟩
        refine Mp.Ok.mono (ih k st3 (B + 1 + 1 + 1) x (by omega) (fun m hm => Nat.lt_of_lt_of_le (hms m hm) k123.len) p3 (by omega) (fun v hv => hw v (List.mem_cons_of_mem _ hv)) hb (Sm.keep (kmm k123) (hitems x hxm))) ?_
        rintro y st4 ⟨hy, k4, p4⟩
        refine ⟨by rw [sizeLine_eq]; omega, ?_⟩
        refine add_tup (by rw [List.length_take, sizeLine_eq]; simp; omega) ?_
        rw [Pen.add_int]
        simp only [wS_seq, wS_if, wS_asg, wS_ret, wS_expr, wS_skip, wS_par, wS_retN, wS_brk, wS_cnt, wE_C, wE_v, slot_zero, slot_succ, wE_1, wE_2, wE_nil, wE_cons, wE_tup, wE_lst, wE_call, Ok_callN, wE_if, wE_tval, wE_tb1, wE_tand, wE_tor, wE_tnot, wE_and, wE_or, wE_not, wE_chain, wE_bm, wE_repr, wE_sl, wE_pN, wE_tyes, wE_it, wE_dict0, Ok_gNm, Ok_gTp, Ok_gNil, Ok_gCons, Ok_gSb, Ok_ok, isB_bl, truth_bl, List.set_cons_zero, List.set_cons_succ, List.map_cons, List.map_nil, List.cons_append, List.nil_append, List.replicate_succ, List.replicate_zero, List.length_cons, List.length_nil, wipeD, wE_pS, intOf_int, wE_enum, wE_sort, wE_range1]
        refine sl_from (by omega) ?_
        rw [jN]
        refine add_tup (by simp only [List.length_append, List.length_take, List.length_drop, List.length_cons, List.length_nil, sizeLine_eq]; omega) ?_
        have k1234 := k123.trans k4
        refine ⟨Sm.tup ?_ ?_, k1234, p4.mono (by omega)⟩
        · simp only [List.length_append, List.length_take, List.length_drop, List.length_cons, List.length_nil]
          omega
        · intro z hz
          have old : z ∈ xs → Sm st4 ms T (ws.map (· + 1)) z := fun h => Sm.wide (Sm.keep (kmm k1234) (hitems z h))
          rcases List.mem_append.mp hz with h | h
          · rcases List.mem_append.mp h with h | h
            · exact old (tk1 z h)
            · rw [List.mem_singleton.mp h]; exact hy
          · exact old (dr1 z h)
      · have hv8 : 8 ≤ v := by
          have := of_decide_eq_false h8
          omega
        refine sl_to j0 ?_
        rw [Pen.add_int]
        simp only [wS_seq, wS_if, wS_asg, wS_ret, wS_expr, wS_skip, wS_par, wS_retN, wS_brk, wS_cnt, wE_C, wE_v, slot_zero, slot_succ, wE_1, wE_2, wE_nil, wE_cons, wE_tup, wE_lst, wE_call, Ok_callN, wE_if, wE_tval, wE_tb1, wE_tand, wE_tor, wE_tnot, wE_and, wE_or, wE_not, wE_chain, wE_bm, wE_repr, wE_sl, wE_pN, wE_tyes, wE_it, wE_dict0, Ok_gNm, Ok_gTp, Ok_gNil, Ok_gCons, Ok_gSb, Ok_ok, isB_bl, truth_bl, List.set_cons_zero, List.set_cons_succ, List.map_cons, List.map_nil, List.cons_append, List.nil_append, List.replicate_succ, List.replicate_zero, List.length_cons, List.length_nil, wipeD, wE_pS, intOf_int, wE_enum, wE_sort, wE_range1]
        refine sl_from (by omega) ?_
        rw [jN]
        refine add_tup (by simp only [List.length_take, List.length_drop, sizeLine_eq]; omega) ?_
        rw [Pen.add_int]
        simp only [wS_seq, wS_if, wS_asg, wS_ret, wS_expr, wS_skip, wS_par, wS_retN, wS_brk, wS_cnt, wE_C, wE_v, slot_zero, slot_succ, wE_1, wE_2, wE_nil, wE_cons, wE_tup, wE_lst, wE_call, Ok_callN, wE_if, wE_tval, wE_tb1, wE_tand, wE_tor, wE_tnot, wE_and, wE_or, wE_not, wE_chain, wE_bm, wE_repr, wE_sl, wE_pN, wE_tyes, wE_it, wE_dict0, Ok_gNm, Ok_gTp, Ok_gNil, Ok_gCons, Ok_gSb, Ok_ok, isB_bl, truth_bl, List.set_cons_zero, List.set_cons_succ, List.map_cons, List.map_nil, List.cons_append, List.nil_append, List.replicate_succ, List.replicate_zero, List.length_cons, List.length_nil, wipeD, wE_pS, intOf_int, wE_enum, wE_sort, wE_range1]
        refine sl_to (by omega) ?_
        refine sl_from (by omega) ?_
        rw [jN]
        refine add_tup (by simp only [List.length_take, List.length_drop, sizeLine_eq]; omega) ?_
        refine list_tup ?_
        refine ⟨by rw [sizeLine_eq]; omega, ?_⟩
        rw [Pen.sub_int]
        have kz : Keep [pen] st (st3 ++ [MO.lst xs] ++ [MO.lst [D.tup (xs.take j.toNat ++ xs.drop (j.toNat + 1)), D.tup (xs.take (j.toNat + 1) ++ xs.drop j.toNat), D.loc st3.length]]) := (k123.trans Keep.snoc).trans Keep.snoc
        have pz := ((p3.keep (Keep.snoc (o := MO.lst xs))).keep (Keep.snoc (o := MO.lst [D.tup (xs.take j.toNat ++ xs.drop (j.toNat + 1)), D.tup (xs.take (j.toNat + 1) ++ xs.drop j.toNat), D.loc st3.length]))).mono (show B + 1 + 1 + 1 ≤ B + 4 * (((ws.length + 1 : Nat) : Int) + 1) by omega)
        refine ix_b snoc_at (by omega) (by simp; omega) fun d hd => ⟨?_, kz, pz⟩
        have el : (st3 ++ [MO.lst xs] ++ [MO.lst [D.tup (xs.take j.toNat ++ xs.drop (j.toNat + 1)), D.tup (xs.take (j.toNat + 1) ++ xs.drop j.toNat), D.loc st3.length]])[st3.length]? = some (MO.lst xs) := (Keep.snoc (ms := [])).get snoc_at (by simp)
        have hl3 := k123.len
        revert kz pz el hd
        generalize st3 ++ [MO.lst xs] ++ [MO.lst [D.tup (xs.take j.toNat ++ xs.drop (j.toNat + 1)), D.tup (xs.take (j.toNat + 1) ++ xs.drop j.toNat), D.loc st3.length]] = st5
        intro kz pz hd el
        have old : ∀ z ∈ xs, Sm st5 ms T (ws.map (· + 1)) z := fun z h => Sm.wide (Sm.keep (kmm kz) (hitems z h))
        have hm := List.mem_of_getElem? hd
        simp only [List.mem_cons, List.not_mem_nil, or_false] at hm
        rcases hm with rfl | rfl | rfl
        · refine Sm.tup (by simp only [List.length_append, List.length_take, List.length_drop]; omega) fun z hz => ?_
          rcases List.mem_append.mp hz with h | h
          · exact old z (tk1 z h)
          · exact old z (dr1 z h)
        · refine Sm.tup (by simp only [List.length_append, List.length_take, List.length_drop]; omega) fun z hz => ?_
          rcases List.mem_append.mp hz with h | h
          · exact old z (tk2 z h)
          · exact old z (dr2 z h)
        · exact Sm.lst (by omega) old (fun h => by have := hms _ h; omega) el
end K50
end
section
set_option Elab.async false
set_option linter.all false
set_option maxRecDepth 100000
set_option maxHeartbeats 1000000
/-! K50: the values, and the loop that asks each. -/
namespace K50
open PySem PySem.Spec PyProof.Rows L2 Mp Pen
/-- a value of the law, by its widths -/
def GoodV (st : Store) (ms : List Nat) (d : D) : Prop := ∃ T ws, (∀ w ∈ ws, 1 ≤ w) ∧ ws.length ≤ 20 ∧ Bd T ws ≤ 16777216 ∧ Sm st ms T ws d
theorem GoodV.keep {st st' : Store} {ms : List Nat} {d : D} (k : Keep ms st st') (h : GoodV st ms d) : GoodV st' ms d := by
  obtain ⟨T, ws, a, b, c, e⟩ := h
  exact ⟨T, ws, a, b, c, e.keep k⟩
theorem GoodV.more {st : Store} {ms ns : List Nat} {d : D} (hn : ∀ m ∈ ns, m ∈ ms ∨ st.length ≤ m) (h : GoodV st ms d) : GoodV st ns d := by
  obtain ⟨T, ws, a, b, c, e⟩ := h
  exact ⟨T, ws, a, b, c, e.more hn⟩
theorem GoodV.val {st : Store} {ms : List Nat} {d : D} (h : GoodV st ms d) : Val st ms d := by
  obtain ⟨T, ws, a, b, c, e⟩ := h
  exact e.val a b c
theorem short_leaf {T : Nat} {s : Str} (hT : 5 ≤ T) (h : s ∈ shorts) : Leaf T (.str s) := by
  refine leaf_lit s hT ?_
  revert s
  decide +kernel
theorem ends_leaf {T : Nat} {s : Str} (hT : 5 ≤ T) (h : s = "halt" ∨ s = "fault") : Leaf T (.str s) := by
  rcases h with rfl | rfl
  · exact leaf_lit _ hT (by decide +kernel)
  · exact leaf_lit _ hT (by decide +kernel)
theorem stD_sm {st : Store} {ms : List Nat} {T k K : Nat} {n : Nat} {s : Pen.SD} (hT : 5 ≤ T) (hn : n ≤ 6) (hk : k ≤ K) (hK : 2 ≤ K) (h : StOk k n s) : Sm st ms T [2, K, 2] (stD s) := by
  obtain ⟨h1, h2, h3, h4⟩ := h
  refine Sm.tup (by simp) fun x hx => ?_
  simp only [List.mem_cons, List.not_mem_nil, or_false] at hx
  rcases hx with rfl | rfl
  · refine Sm.tup (by rw [List.length_map]; omega) fun y hy => ?_
    obtain ⟨p, hp, rfl⟩ := List.mem_map.mp hy
    obtain ⟨q1, q2, q3⟩ := h2 p hp
    refine Sm.tup (by simp) fun z hz => ?_
    simp only [List.mem_cons, List.not_mem_nil, or_false] at hz
    rcases hz with rfl | rfl
    · exact Sm.leaf (short_leaf hT q1)
    · refine Sm.leaf ?_
      show smallInt p.2 = true
      unfold smallInt
      rw [Bool.and_eq_true, decide_eq_true_eq, decide_eq_true_eq]
      omega
  · refine Sm.tup (by simpa using hK) fun z hz => ?_
    simp only [List.mem_cons, List.not_mem_nil, or_false] at hz
    rcases hz with rfl | rfl
    · exact Sm.leaf (short_leaf hT h3)
    · exact Sm.leaf (ends_leaf hT h4)
theorem al_leaf {T : Nat} {al : Str} (h : al.cps.toList.length ≤ T) (h2 : ∀ c ∈ al.cps.toList, c < 256) : Leaf T (.str al) := ⟨h, h2⟩
theorem mach_sm {st : Store} {ms : List Nat} {T K n : Nat} {al p : Str} {sts : List Pen.SD} (hT : 5 ≤ T) (hK : 2 ≤ K) (hk : al.cps.toList.length ≤ K) (h4 : al.cps.toList.length ≤ 5) (hc : ∀ c ∈ al.cps.toList, c < 256) (hp : p ∈ shorts) (hl : sts.length ≤ n) (h6 : n ≤ 6) (hst : ∀ s ∈ sts, StOk al.cps.toList.length sts.length s) :
    Sm st ms T [3, n, 2, K, 2] (machD al p sts) := by
  refine Sm.tup (by simp) fun x hx => ?_
  simp only [List.mem_cons, List.not_mem_nil, or_false] at hx
  rcases hx with rfl | rfl | rfl
  · exact Sm.leaf (al_leaf (by omega) hc)
  · exact Sm.leaf (short_leaf hT hp)
  · refine Sm.tup (by rw [List.length_map]; omega) fun y hy => ?_
    obtain ⟨s, hs, rfl⟩ := List.mem_map.mp hy
    exact stD_sm hT (by omega) hk hK (hst s hs)
theorem al_signs {al : Str} (h : AlOk al) : ∀ c ∈ al.cps.toList, c < 256 := fun c hc => by
  have := h.2.2.1 c hc
  omega
/-- the law's loop over the values -/
noncomputable def b_ask : MS :=
 (sFor (mIt (mVar 5)) (gNm 7)
 (sSeq (sAsg (mRepr (mVar 7)) (gNm 8))
 (sIf (tOr (tNot (tVal (mCall (callN 2 F__law_same) (mCons (mCall (callN 1 F_is_machine) (mCons (mVar 7) mNil)) (mCons (mCall (callN 1 F__law_is_machine) (mCons (mVar 7) mNil)) mNil))))) (tB1 (m2 neD (mRepr (mVar 7)) (mVar 8))))
 (sRet (mC (.bl false)))
 sSkip)))
theorem repr_same {st : Store} {d : D} {p : PyData} {Q : D → Store → Prop} (h : pyD st 40 d = some p) (hf : Fine p) (q : Q (.str p.shown) st) : Ok (reprD [d] st) Q := by
  unfold reprD
  simp only [h]
  rw [if_pos (show p.showable = true ∧ p.shown.length ≤ sizeLine from hf)]
  exact q
theorem ask_ok {st : Store} {pen L : Nat} {vs : List D} {m : D} {o0 o2 o4 o6 o7 o8 o9 : Option D} {N Bk C : DSt → Store → Prop} {T : D → Store → Prop} (hL : st[L]? = some (.lst vs)) (hv : ∀ v ∈ vs, Val st [pen, L] v)
    (q : ∀ o7 o8 st', Keep [] st st' → N [o0, some (.loc pen), o2, some m, o4, some (.loc L), o6, o7, o8, o9] st') :
    wS b_ask [o0, some (.loc pen), o2, some m, o4, some (.loc L), o6, o7, o8, o9] st N T Bk C := by
  unfold b_ask
  refine wS_for ?_
  simp only [wS_seq, wS_if, wS_asg, wS_ret, wS_expr, wS_skip, wS_par, wS_retN, wS_brk, wS_cnt, wE_C, wE_v, slot_zero, slot_succ, wE_1, wE_2, wE_nil, wE_cons, wE_tup, wE_lst, wE_call, Ok_callN, wE_if, wE_tval, wE_tb1, wE_tand, wE_tor, wE_tnot, wE_and, wE_or, wE_not, wE_chain, wE_bm, wE_repr, wE_sl, wE_pN, wE_tyes, wE_it, wE_dict0, Ok_gNm, Ok_gTp, Ok_gNil, Ok_gCons, Ok_gSb, Ok_ok, isB_bl, truth_bl, List.set_cons_zero, List.set_cons_succ, List.map_cons, List.map_nil, List.cons_append, List.nil_append, List.replicate_succ, List.replicate_zero, List.length_cons, List.length_nil, wipeD, wE_pS, intOf_int, wE_enum, wE_sort, wE_range1]
  have e : iterOf (.loc L) st = .ok ⟨vs, [(L, vs)]⟩ st := by
    unfold iterOf
    simp only [hL]
  rw [e]
  simp only [Ok_ok]
  refine ⟨fun i ds s => ∃ o7 o8 : Option D, ds = [o0, some (.loc pen), o2, some m, o4, some (.loc L), o6, o7, o8, o9] ∧ Keep [] st s, ⟨o7, o8, rfl, .refl⟩, ?_, ?_, ?_⟩
  · rintro i ds s ⟨o7, o8, rfl, k⟩ p hp
    rw [List.mem_singleton.mp hp]
    exact k.get hL (by simp)
  · rintro i x ds s hx ⟨o7, o8, rfl, k⟩
    have hxv : Val s [pen, L] x := (hv x (List.mem_of_getElem? hx)).keep (k.mono (by simp))
    obtain ⟨p, h1, h2, _⟩ := hxv.deep.rep
    simp only [wS_seq, wS_if, wS_asg, wS_ret, wS_expr, wS_skip, wS_par, wS_retN, wS_brk, wS_cnt, wE_C, wE_v, slot_zero, slot_succ, wE_1, wE_2, wE_nil, wE_cons, wE_tup, wE_lst, wE_call, Ok_callN, wE_if, wE_tval, wE_tb1, wE_tand, wE_tor, wE_tnot, wE_and, wE_or, wE_not, wE_chain, wE_bm, wE_repr, wE_sl, wE_pN, wE_tyes, wE_it, wE_dict0, Ok_gNm, Ok_gTp, Ok_gNil, Ok_gCons, Ok_gSb, Ok_ok, isB_bl, truth_bl, List.set_cons_zero, List.set_cons_succ, List.map_cons, List.map_nil, List.cons_append, List.nil_append, List.replicate_succ, List.replicate_zero, List.length_cons, List.length_nil, wipeD, wE_pS, intOf_int, wE_enum, wE_sort, wE_range1]
    refine repr_same h1 h2 ?_
    refine ⟨trivial, ?_⟩
    refine Mp.Ok.mono (is_machine_ok hxv.deep) ?_
    rintro r s1 ⟨rfl, k1⟩
    refine ⟨trivial, ?_⟩
    refine Mp.Ok.mono (law_is_machine_ok (hxv.keep (k1.mono (by simp))).deep) ?_
    rintro r s2 ⟨rfl, k2⟩
    refine ⟨trivial, ?_⟩
    unfold F__law_same
    refine Mp.Ok.mono same_bl ?_
    rintro r s3 ⟨rfl, rfl⟩
    simp only [truth_bl, Ok_ok, beq_self_eq_true]
    refine ⟨fun h => (nomatch h), fun _ => ?_⟩
    refine repr_same (pyD_keep (k1.trans k2) _ _ _ h1) h2 ?_
    have ne : ∀ (a : Str) (st : Store) (Q : D → Store → Prop), Ok (neD (.str a) (.str a) st) Q = Q (.bl (!(a == a))) st := fun _ _ _ => rfl
    rw [ne]
    simp only [isB_bl, Ok_ok, beq_self_eq_true]
    exact ⟨fun h => (nomatch h), fun _ => ⟨_, _, rfl, (k.trans k1).trans k2⟩⟩
  · rintro ds s ⟨o7, o8, rfl, k⟩
    exact q o7 o8 s k
end K50
end
section
set_option Elab.async false
set_option linter.all false
set_option maxRecDepth 100000
set_option maxHeartbeats 1000000
/-! K50: the list of the values. -/
namespace K50
open PySem PySem.Spec PyProof.Rows L2 Mp Pen
theorem add_lsts {st : Store} {n m : Nat} {xs ys : List D} {Q : D → Store → Prop} (h1 : st[n]? = some (.lst xs)) (h2 : st[m]? = some (.lst ys)) (hz : xs.length + ys.length ≤ sizeLine) (q : Q (.loc st.length) (st ++ [MO.lst (xs ++ ys)])) : Ok (addD (.loc n) (.loc m) st) Q := by
  unfold addD
  simp only [h1, h2]
  rw [if_pos hz]
  exact q
theorem ix_last {st : Store} {n : Nat} {xs : List D} {Q : D → Store → Prop} (h : st[n]? = some (.lst xs)) (h0 : 1 ≤ xs.length) (q : ∀ d ∈ xs, Q d st) : Ok (ixD (.loc n) (.int (-1)) st) Q := by
  have hl : (-1 + (xs.length : Int)).toNat < xs.length := by omega
  have e : atI xs (-1) = some xs[(-1 + (xs.length : Int)).toNat] := by
    unfold atI ixN
    rw [if_neg (by omega), if_pos (by omega)]
    exact List.getElem?_eq_getElem hl
  rw [ix_lst h e]
  exact q _ (List.getElem_mem _)
abbrev W0 : List Nat := [3, 6, 2, 3, 2]
abbrev W1 : List Nat := [4, 7, 3, 4, 3]
abbrev W2 : List Nat := [5, 8, 4, 5, 4]
theorem good0 {st : Store} {ms : List Nat} {d : D} (h : Sm st ms 5 W0 d) : GoodV st ms d := ⟨5, W0, by decide, by decide, by decide +kernel, h⟩
theorem good1 {st : Store} {ms : List Nat} {d : D} (h : Sm st ms 5 W1 d) : GoodV st ms d := ⟨5, W1, by decide, by decide, by decide +kernel, h⟩
theorem good2 {st : Store} {ms : List Nat} {d : D} (h : Sm st ms 5 W2 d) : GoodV st ms d := ⟨5, W2, by decide, by decide, by decide +kernel, h⟩
noncomputable def b_vals1 : MS := sAsg (m2 addD (mLst (mCons (mVar 3) mNil)) (mLc (mRange1 (mC (.int 9))) (gNm 4) tYes' (mCall (callN 2 F__law_bend) (mCons (mVar 1) (mCons (mVar 3) mNil))) [4])) (gNm 5)
theorem vals1_ok {st : Store} {pen : Nat} {B : Int} {m : D} {o0 o2 o4 o5 o6 o7 o8 o9 : Option D} {N Bk C : DSt → Store → Prop} {T : D → Store → Prop} (hP : PenAt st pen B) (hB : B < 900000) (hm : Sm st [pen] 5 W0 m)
    (q : ∀ L vs st', 1 ≤ vs.length → vs.length ≤ 10 → st'[L]? = some (.lst vs) → pen < L → (∀ v ∈ vs, Sm st' [pen, L] 5 W1 v) → Keep [pen] st st' → PenAt st' pen (B + 300) → N [o0, some (.loc pen), o2, some m, o4, some (.loc L), o6, o7, o8, o9] st') :
    wS b_vals1 [o0, some (.loc pen), o2, some m, o4, o5, o6, o7, o8, o9] st N T Bk C := by
  unfold b_vals1
  have hpen := hP.lt
  simp only [wS_seq, wS_if, wS_asg, wS_ret, wS_expr, wS_skip, wS_par, wS_retN, wS_brk, wS_cnt, wE_C, wE_v, slot_zero, slot_succ, wE_1, wE_2, wE_nil, wE_cons, wE_tup, wE_lst, wE_call, Ok_callN, wE_if, wE_tval, wE_tb1, wE_tand, wE_tor, wE_tnot, wE_and, wE_or, wE_not, wE_chain, wE_bm, wE_repr, wE_sl, wE_pN, wE_tyes, wE_it, wE_dict0, Ok_gNm, Ok_gTp, Ok_gNil, Ok_gCons, Ok_gSb, Ok_ok, isB_bl, truth_bl, List.set_cons_zero, List.set_cons_succ, List.map_cons, List.map_nil, List.cons_append, List.nil_append, List.replicate_succ, List.replicate_zero, List.length_cons, List.length_nil, wipeD, wE_pS, intOf_int, wE_enum, wE_sort, wE_range1]
  refine ⟨by rw [sizeLine_eq]; omega, ?_⟩
  refine wE_lc ?_
  simp only [wS_seq, wS_if, wS_asg, wS_ret, wS_expr, wS_skip, wS_par, wS_retN, wS_brk, wS_cnt, wE_C, wE_v, slot_zero, slot_succ, wE_1, wE_2, wE_nil, wE_cons, wE_tup, wE_lst, wE_call, Ok_callN, wE_if, wE_tval, wE_tb1, wE_tand, wE_tor, wE_tnot, wE_and, wE_or, wE_not, wE_chain, wE_bm, wE_repr, wE_sl, wE_pN, wE_tyes, wE_it, wE_dict0, Ok_gNm, Ok_gTp, Ok_gNil, Ok_gCons, Ok_gSb, Ok_ok, isB_bl, truth_bl, List.set_cons_zero, List.set_cons_succ, List.map_cons, List.map_nil, List.cons_append, List.nil_append, List.replicate_succ, List.replicate_zero, List.length_cons, List.length_nil, wipeD, wE_pS, intOf_int, wE_enum, wE_sort, wE_range1]
  refine ⟨⟨by omega, by omega⟩, fun j acc s => (∀ v ∈ acc, Sm s [pen] 5 W1 v) ∧ acc.length = j ∧ Keep [pen] (st ++ [MO.lst [m]]) s ∧ PenAt s pen (B + 24 * j) ∧ j ≤ 9, ?_, ?_, ?_, ?_, ?_⟩
  · unfold rangeItems
    rw [List.length_map, List.length_range, sizeLine_eq]
    decide
  · exact ⟨(fun _ h => nomatch h), rfl, .refl, by simpa using hP.keep Keep.snoc, by omega⟩
  · rintro j acc s ⟨_, hl, _⟩
    exact ⟨fun p hp => (nomatch hp), by omega⟩
  · rintro j x acc s hx ⟨hv, hl, k, hp, hj⟩
    obtain ⟨rfl, hi⟩ := range_item hx
    have hi9 : j < 9 := hi
    refine ⟨fun _ => ⟨trivial, ?_⟩, fun h => nomatch h⟩
    unfold F__law_bend
    have kk : Keep [pen] st s := Keep.trans Keep.snoc k
    refine Mp.Ok.mono (bend_ok (T := 5) (ms := [pen]) (by omega) (by simp) W0 12 s (B + 24 * j) m (by decide) (fun m hm => by rw [List.mem_singleton.mp hm]; have := kk.len; omega) hp (by simp; omega) (by decide) (by omega) (hm.keep kk)) ?_
    rintro r s2 ⟨hr, k2, p2⟩
    refine ⟨fun v hv2 => ?_, by simp [hl], k.trans k2, p2.mono (by simp; omega), by omega⟩
    rcases List.mem_append.mp hv2 with h | h
    · exact (hv v h).keep k2
    · rw [List.mem_singleton.mp h]; exact hr
  · rintro acc s ⟨hv, hl, k, hp, hj⟩
    have hl9 : acc.length = 9 := by rw [hl]; unfold rangeItems; simp
    have hn : (rangeItems 0 (9 : Int).toNat).length = 9 := by unfold rangeItems; simp
    have kk : Keep [pen] st s := Keep.trans Keep.snoc k
    have e1 : (s ++ [MO.lst acc])[st.length]? = some (.lst [m]) := (Keep.snoc (ms := [])).get (k.get snoc_at (by simp; omega)) (by simp)
    refine add_lsts e1 snoc_at (by rw [sizeLine_eq, hl9]; simp) ?_
    have kz : Keep [pen] s (s ++ [MO.lst acc] ++ [MO.lst ([m] ++ acc)]) := Keep.trans Keep.snoc Keep.snoc
    have hlen := kk.len
    refine q _ ([m] ++ acc) _ (by simp) (by simp [hl9]) snoc_at (by simp; omega) ?_ (kk.trans kz) (((hp.keep Keep.snoc).keep Keep.snoc).mono (by rw [hn]; omega))
    intro v hv2
    have sm : Sm s [pen] 5 W1 v := by
      rcases List.mem_append.mp hv2 with h | h
      · rw [List.mem_singleton.mp h]; exact Sm.wide (hm.keep kk)
      · exact hv v h
    have sm2 : Sm (s ++ [MO.lst acc]) [pen, (s ++ [MO.lst acc]).length] 5 W1 v := Sm.more (fun n hn => by
      simp only [List.mem_cons, List.not_mem_nil, or_false] at hn
      rcases hn with rfl | rfl
      · exact .inl (by simp)
      · exact .inr (Nat.le_refl _)) (sm.keep Keep.snoc)
    exact sm2.keep Keep.snoc
noncomputable def b_vals2 : MS := sExpr (mBM "list" appendD (mVar 5) (mCons (mCall (callN 2 F__law_bend) (mCons (mVar 1) (mCons (m2 ixD (mVar 5) (m1 negD (mC (.int 1)))) mNil))) mNil))
theorem ty_list {st : Store} {n : Nat} {xs : List D} (h : st[n]? = some (.lst xs)) : tyD st (.loc n) = some "list" := by
  unfold tyD
  simp only [h]
theorem app_good {st : Store} {pen L : Nat} {vs : List D} {v : D} {Q : D → Store → Prop} (h : st[L]? = some (.lst vs)) (hz : vs.length ≤ 20) (hv : ∀ x ∈ vs, GoodV st [pen, L] x) (hn : GoodV st [pen, L] v)
    (q : ∀ st', st'[L]? = some (.lst (vs ++ [v])) → (∀ x ∈ vs ++ [v], GoodV st' [pen, L] x) → st' = st.set L (.lst (vs ++ [v])) → Q .non st') : Ok (appendD (.loc L) [v] st) Q := by
  refine app_lst h (by rw [sizeLine_eq]; omega) (q _ (set_at h) (fun x hx => ?_) rfl)
  have k : Keep [pen, L] st (st.set L (.lst (vs ++ [v]))) := Keep.set (by simp)
  rcases List.mem_append.mp hx with h | h
  · exact (hv x h).keep k
  · rw [List.mem_singleton.mp h]; exact hn.keep k
theorem vals2_ok {st : Store} {pen L : Nat} {B : Int} {m : D} {vs : List D} {o0 o2 o4 o6 o7 o8 o9 : Option D} {N Bk C : DSt → Store → Prop} {T : D → Store → Prop} (hP : PenAt st pen B) (hB : B < 900000) (h : st[L]? = some (.lst vs)) (h1 : 1 ≤ vs.length) (h10 : vs.length ≤ 10) (hL : pen < L) (hv : ∀ v ∈ vs, Sm st [pen, L] 5 W1 v)
    (q : ∀ vs' st', vs'.length ≤ 11 → st'[L]? = some (.lst vs') → (∀ v ∈ vs', GoodV st' [pen, L] v) → Keep [pen, L] st st' → PenAt st' pen (B + 24) → N [o0, some (.loc pen), o2, some m, o4, some (.loc L), o6, o7, o8, o9] st') :
    wS b_vals2 [o0, some (.loc pen), o2, some m, o4, some (.loc L), o6, o7, o8, o9] st N T Bk C := by
  unfold b_vals2
  simp only [wS_seq, wS_if, wS_asg, wS_ret, wS_expr, wS_skip, wS_par, wS_retN, wS_brk, wS_cnt, wE_C, wE_v, slot_zero, slot_succ, wE_1, wE_2, wE_nil, wE_cons, wE_tup, wE_lst, wE_call, Ok_callN, wE_if, wE_tval, wE_tb1, wE_tand, wE_tor, wE_tnot, wE_and, wE_or, wE_not, wE_chain, wE_bm, wE_repr, wE_sl, wE_pN, wE_tyes, wE_it, wE_dict0, Ok_gNm, Ok_gTp, Ok_gNil, Ok_gCons, Ok_gSb, Ok_ok, isB_bl, truth_bl, List.set_cons_zero, List.set_cons_succ, List.map_cons, List.map_nil, List.cons_append, List.nil_append, List.replicate_succ, List.replicate_zero, List.length_cons, List.length_nil, wipeD, wE_pS, intOf_int, wE_enum, wE_sort, wE_range1]
  refine ⟨ty_list h, ?_⟩
  have n1 : ∀ (st : Store) (Q : D → Store → Prop), Ok (negD (.int 1) st) Q = Q (.int (-1)) st := fun _ _ => rfl
  rw [n1]
  refine ix_last h h1 fun d hd => ?_
  refine ⟨trivial, ?_⟩
  unfold F__law_bend
  have hLl := at_lt h
  refine Mp.Ok.mono (bend_ok (T := 5) (ms := [pen, L]) (by omega) (by simp) W1 12 st B d (by decide) (fun m hm => by
      simp only [List.mem_cons, List.not_mem_nil, or_false] at hm
      rcases hm with rfl | rfl <;> omega) hP (by simp; omega) (by decide) (by omega) (hv d hd)) ?_
  rintro r s2 ⟨hr, k2, p2⟩
  have km : Keep [pen, L] st s2 := k2.mono (by simp)
  refine app_good (pen := pen) (k2.get h (by simp; omega)) (by omega) (fun x hx => good1 ((hv x hx).keep km)) (good2 hr) ?_
  rintro st' e1 e2 rfl
  exact q _ _ (by simp; omega) e1 e2 (km.trans (Keep.set (by simp))) ((p2.set hL).mono (by simp))
noncomputable def b_vals3 : MS := sExpr (mBM "list" appendD (mVar 5) (mCons (mTup (mCons (m2 ixD (mVar 3) (mC (.int 0))) (mCons (m2 mulD (mC (.str "xy")) (mC (.int 40))) (mCons (m2 mulD (m2 ixD (mVar 3) (mC (.int 2))) (mC (.int 60))) mNil)))) mNil))
theorem mul_tup {xs : List D} {k : Int} {st : Store} {Q : D → Store → Prop} (h0 : 1 ≤ xs.length) (h1 : xs.length ≤ 1000) (k0 : 2 ≤ k) (k1 : k ≤ 1000) (q : Q (.tup (List.replicate k.toNat xs).flatten) st) : Ok (mulD (.tup xs) (.int k) st) Q := by
  unfold mulD
  simp only
  rw [if_pos ⟨fun e => by rw [e] at h0; simp at h0, k0, k1, h1⟩]
  exact q
theorem mul_leaf {T : Nat} {x : Str} {k : Int} (h1 : 1 ≤ k) (hl : k.toNat * x.cps.toList.length ≤ T) (hc : (x.cps.toList.all fun c => decide (c < 256)) = true) : Leaf T (.str (Txt.mul x k)) := by
  rw [List.all_eq_true] at hc
  exact ⟨by rw [mul_len x k h1]; exact hl, fun c h => of_decide_eq_true (hc c (mul_mem h1 h))⟩
theorem rep_mem {n : Nat} {xs : List D} {x : D} (h : x ∈ (List.replicate n xs).flatten) : x ∈ xs := by
  obtain ⟨l, hl, hx⟩ := List.mem_flatten.mp h
  rw [(List.mem_replicate.mp hl).2] at hx
  exact hx
theorem rep_len {n : Nat} {xs : List D} : (List.replicate n xs).flatten.length = n * xs.length := by
  rw [List.length_flatten]
  simp
theorem vals3_ok {st : Store} {pen L : Nat} {B : Int} {al p : Str} {sts : List Pen.SD} {vs : List D} {o0 o2 o4 o6 o7 o8 o9 : Option D} {N Bk C : DSt → Store → Prop} {T : D → Store → Prop} (hP : PenAt st pen B) (h : st[L]? = some (.lst vs)) (h10 : vs.length ≤ 11) (hL : pen < L) (hv : ∀ v ∈ vs, GoodV st [pen, L] v)
    (ha : AlOk al) (h1 : 1 ≤ sts.length) (h6 : sts.length ≤ 6) (hst : ∀ s ∈ sts, StOk al.cps.toList.length sts.length s)
    (q : ∀ vs' st', vs'.length ≤ 12 → st'[L]? = some (.lst vs') → (∀ v ∈ vs', GoodV st' [pen, L] v) → Keep [pen, L] st st' → PenAt st' pen B → N [o0, some (.loc pen), o2, some (machD al p sts), o4, some (.loc L), o6, o7, o8, o9] st') :
    wS b_vals3 [o0, some (.loc pen), o2, some (machD al p sts), o4, some (.loc L), o6, o7, o8, o9] st N T Bk C := by
  unfold b_vals3
  simp only [wS_seq, wS_if, wS_asg, wS_ret, wS_expr, wS_skip, wS_par, wS_retN, wS_brk, wS_cnt, wE_C, wE_v, slot_zero, slot_succ, wE_1, wE_2, wE_nil, wE_cons, wE_tup, wE_lst, wE_call, Ok_callN, wE_if, wE_tval, wE_tb1, wE_tand, wE_tor, wE_tnot, wE_and, wE_or, wE_not, wE_chain, wE_bm, wE_repr, wE_sl, wE_pN, wE_tyes, wE_it, wE_dict0, Ok_gNm, Ok_gTp, Ok_gNil, Ok_gCons, Ok_gSb, Ok_ok, isB_bl, truth_bl, List.set_cons_zero, List.set_cons_succ, List.map_cons, List.map_nil, List.cons_append, List.nil_append, List.replicate_succ, List.replicate_zero, List.length_cons, List.length_nil, wipeD, wE_pS, intOf_int, wE_enum, wE_sort, wE_range1]
  refine ⟨ty_list h, ?_⟩
  unfold machD
  rw [ixt0]
  refine mul_str (by omega) (by omega) (by rw [sizeLine_eq]; decide +kernel) ?_
  rw [ixt2]
  refine mul_tup (by simpa using h1) (by rw [List.length_map]; omega) (by omega) (by omega) ?_
  refine ⟨by rw [sizeLine_eq]; omega, ?_⟩
  have g : GoodV st [pen, L] (.tup [.str al, .str (Txt.mul "xy" 40), .tup (List.replicate (60 : Int).toNat (sts.map stD)).flatten]) := by
    refine ⟨80, [3, 360, 2, 3, 2], by decide, by decide, by decide +kernel, Sm.tup (by simp) fun x hx => ?_⟩
    simp only [List.mem_cons, List.not_mem_nil, or_false] at hx
    rcases hx with rfl | rfl | rfl
    · exact Sm.leaf (al_leaf (by have := ha.2.1; omega) (al_signs ha))
    · exact Sm.leaf (mul_leaf (by omega) (by decide +kernel) (by decide +kernel))
    · refine Sm.tup ?_ fun y hy => ?_
      · rw [rep_len, List.length_map]
        show 60 * sts.length ≤ 360
        omega
      · obtain ⟨s, hs, rfl⟩ := List.mem_map.mp (rep_mem hy)
        exact stD_sm (by omega) h6 (by have := ha.2.1; omega) (by omega) (hst s hs)
  refine app_good (pen := pen) h (by omega) hv g ?_
  rintro st' e1 e2 rfl
  exact q _ _ (by simp; omega) e1 e2 (Keep.set (by simp)) (hP.set hL)
noncomputable def b_vals4 : MS := sExpr (mBM "list" appendD (mVar 5) (mCons (mTup (mCons (mC (.str "a")) (mCons (mC (.str "")) (mCons (m2 mulD (mTup (mCons (mTup (mCons (mTup (mCons (mTup (mCons (m2 mulD (mC (.str "x")) (mC (.int 80))) (mCons (mC (.int 0)) mNil))) mNil)) (mCons (mTup (mCons (m2 mulD (mC (.str "y")) (mC (.int 80))) (mCons (mC (.str "halt")) mNil))) mNil))) mNil)) (mC (.int 301))) mNil)))) mNil))
theorem vals4_ok {st : Store} {pen L : Nat} {B : Int} {m : D} {vs : List D} {o0 o2 o4 o6 o7 o8 o9 : Option D} {N Bk C : DSt → Store → Prop} {T : D → Store → Prop} (hP : PenAt st pen B) (h : st[L]? = some (.lst vs)) (h10 : vs.length ≤ 12) (hL : pen < L) (hv : ∀ v ∈ vs, GoodV st [pen, L] v)
    (q : ∀ vs' st', vs'.length ≤ 13 → st'[L]? = some (.lst vs') → (∀ v ∈ vs', GoodV st' [pen, L] v) → Keep [pen, L] st st' → PenAt st' pen B → N [o0, some (.loc pen), o2, some m, o4, some (.loc L), o6, o7, o8, o9] st') :
    wS b_vals4 [o0, some (.loc pen), o2, some m, o4, some (.loc L), o6, o7, o8, o9] st N T Bk C := by
  unfold b_vals4
  simp only [wS_seq, wS_if, wS_asg, wS_ret, wS_expr, wS_skip, wS_par, wS_retN, wS_brk, wS_cnt, wE_C, wE_v, slot_zero, slot_succ, wE_1, wE_2, wE_nil, wE_cons, wE_tup, wE_lst, wE_call, Ok_callN, wE_if, wE_tval, wE_tb1, wE_tand, wE_tor, wE_tnot, wE_and, wE_or, wE_not, wE_chain, wE_bm, wE_repr, wE_sl, wE_pN, wE_tyes, wE_it, wE_dict0, Ok_gNm, Ok_gTp, Ok_gNil, Ok_gCons, Ok_gSb, Ok_ok, isB_bl, truth_bl, List.set_cons_zero, List.set_cons_succ, List.map_cons, List.map_nil, List.cons_append, List.nil_append, List.replicate_succ, List.replicate_zero, List.length_cons, List.length_nil, wipeD, wE_pS, intOf_int, wE_enum, wE_sort, wE_range1]
  refine ⟨ty_list h, ?_⟩
  refine mul_str (by omega) (by omega) (by rw [sizeLine_eq]; decide +kernel) ?_
  refine ⟨by rw [sizeLine_eq]; omega, by rw [sizeLine_eq]; omega, ?_⟩
  refine mul_str (by omega) (by omega) (by rw [sizeLine_eq]; decide +kernel) ?_
  refine ⟨by rw [sizeLine_eq]; omega, by rw [sizeLine_eq]; omega, by rw [sizeLine_eq]; omega, ?_⟩
  refine mul_tup (by simp) (by simp) (by omega) (by omega) ?_
  refine ⟨by rw [sizeLine_eq]; omega, ?_⟩
  have lx : Leaf 80 (.str (Txt.mul "x" 80)) := mul_leaf (by omega) (by decide +kernel) (by decide +kernel)
  have ly : Leaf 80 (.str (Txt.mul "y" 80)) := mul_leaf (by omega) (by decide +kernel) (by decide +kernel)
  have g : GoodV st [pen, L] (.tup [.str "a", .str "", .tup (List.replicate (301 : Int).toNat [D.tup [D.tup [D.tup [D.str (Txt.mul "x" 80), D.int 0]], D.tup [D.str (Txt.mul "y" 80), D.str "halt"]]]).flatten]) := by
    refine ⟨80, [3, 301, 2, 2, 2], by decide, by decide, by decide +kernel, Sm.tup (by simp) fun x hx => ?_⟩
    simp only [List.mem_cons, List.not_mem_nil, or_false] at hx
    rcases hx with rfl | rfl | rfl
    · exact Sm.leaf (leaf_lit _ (by omega) (by decide +kernel))
    · exact Sm.leaf (leaf_lit _ (by omega) (by decide +kernel))
    · refine Sm.tup ?_ fun y hy => ?_
      · rw [rep_len]
        decide
      · rw [List.mem_singleton.mp (rep_mem hy)]
        refine Sm.tup (by simp) fun z hz => ?_
        simp only [List.mem_cons, List.not_mem_nil, or_false] at hz
        rcases hz with rfl | rfl
        · refine Sm.tup (by simp) fun u hu => ?_
          rw [List.mem_singleton.mp hu]
          refine Sm.tup (by simp) fun w hw => ?_
          simp only [List.mem_cons, List.not_mem_nil, or_false] at hw
          rcases hw with rfl | rfl
          · exact Sm.leaf lx
          · exact Sm.leaf (show smallInt 0 = true by decide)
        · refine Sm.tup (by simp) fun u hu => ?_
          simp only [List.mem_cons, List.not_mem_nil, or_false] at hu
          rcases hu with rfl | rfl
          · exact Sm.leaf ly
          · exact Sm.leaf (leaf_lit _ (by omega) (by decide +kernel))
  refine app_good (pen := pen) h (by omega) hv g ?_
  rintro st' e1 e2 rfl
  exact q _ _ (by simp; omega) e1 e2 (Keep.set (by simp)) (hP.set hL)
end K50
end
section
set_option Elab.async false
set_option linter.all false
set_option maxRecDepth 100000
set_option maxHeartbeats 1000000
/-! K50: the end of the list of the values; a turn. -/
namespace K50
open PySem PySem.Spec PyProof.Rows L2 Mp Pen
/-- values + [a, b], where a was just drawn -/
theorem plus_good {st : Store} {pen L : Nat} {vs : List D} {a b : D} {Q : D → Store → Prop} (hL : pen < L) (h : st[L]? = some (.lst vs)) (hz : vs.length ≤ 20) (hv : ∀ x ∈ vs, GoodV st [pen, L] x) (ha : GoodV st [pen] a) (hb : GoodV st [pen] b)
    (q : ∀ M st', st'[M]? = some (.lst (vs ++ [a, b])) → pen < M → (∀ x ∈ vs ++ [a, b], GoodV st' [pen, M] x) → Keep [] st st' → Q (.loc M) st') : Ok (addD (.loc L) (.loc st.length) (st ++ [MO.lst [a, b]])) Q := by
  have hLl := at_lt h
  refine add_lsts ((Keep.snoc (ms := [])).get h (by simp)) snoc_at (by rw [sizeLine_eq]; simp; omega) ?_
  refine q _ _ snoc_at (by simp; omega) ?_ (Keep.trans Keep.snoc Keep.snoc)
  have old : ∀ {ms x}, (∀ m ∈ [pen, (st ++ [MO.lst [a, b]]).length], m ∈ ms ∨ (st ++ [MO.lst [a, b]]).length ≤ m) → GoodV st ms x → GoodV (st ++ [MO.lst [a, b]] ++ [MO.lst (vs ++ [a, b])]) [pen, (st ++ [MO.lst [a, b]]).length] x := fun {ms x} hm hx => by
    exact ((hx.keep Keep.snoc).more hm).keep Keep.snoc
  intro x hx
  rcases List.mem_append.mp hx with h | h
  · refine old (fun m hm => ?_) (hv x h)
    simp only [List.mem_cons, List.not_mem_nil, or_false] at hm
    rcases hm with rfl | rfl
    · exact .inl (by simp)
    · exact .inr (Nat.le_refl _)
  · have hm : ∀ m ∈ [pen, (st ++ [MO.lst [a, b]]).length], m ∈ [pen] ∨ (st ++ [MO.lst [a, b]]).length ≤ m := fun m hm => by
      simp only [List.mem_cons, List.not_mem_nil, or_false] at hm
      rcases hm with rfl | rfl
      · exact .inl (by simp)
      · exact .inr (Nat.le_refl _)
    simp only [List.mem_cons, List.not_mem_nil, or_false] at h
    rcases h with rfl | rfl
    · exact old hm ha
    · exact old hm hb
noncomputable def b_vals5 : MS := sAsg (m2 addD (mVar 5) (mLst (mCons (mCall (callN 3 F__law_draw_machine) (mCons (mVar 1) (mCons (mC (.str "abcd")) (mCons (mC (.int 2)) mNil)))) (mCons (mTup (mCons (mTup (mCons (m2 ixD (mVar 3) (mC (.int 0))) mNil)) (mCons (m2 ixD (mVar 3) (mC (.int 1))) (mCons (m2 ixD (mVar 3) (mC (.int 2))) mNil)))) mNil)))) (gNm 5)
theorem vals5_ok {st : Store} {pen L : Nat} {B : Int} {al p : Str} {sts : List Pen.SD} {vs : List D} {o0 o2 o4 o6 o7 o8 o9 : Option D} {N Bk C : DSt → Store → Prop} {T : D → Store → Prop} (hP : PenAt st pen B) (hB : B < 800000) (h : st[L]? = some (.lst vs)) (h10 : vs.length ≤ 13) (hL : pen < L) (hv : ∀ v ∈ vs, GoodV st [pen, L] v)
    (ha : AlOk al) (hp : p ∈ shorts) (h6 : sts.length ≤ 6) (hst : ∀ s ∈ sts, StOk al.cps.toList.length sts.length s)
    (q : ∀ L vs' st', vs'.length ≤ 15 → st'[L]? = some (.lst vs') → pen < L → (∀ v ∈ vs', GoodV st' [pen, L] v) → Keep [pen] st st' → PenAt st' pen (B + 100) → N [o0, some (.loc pen), o2, some (machD al p sts), o4, some (.loc L), o6, o7, o8, o9] st') :
    wS b_vals5 [o0, some (.loc pen), o2, some (machD al p sts), o4, some (.loc L), o6, o7, o8, o9] st N T Bk C := by
  unfold b_vals5
  simp only [wS_seq, wS_if, wS_asg, wS_ret, wS_expr, wS_skip, wS_par, wS_retN, wS_brk, wS_cnt, wE_C, wE_v, slot_zero, slot_succ, wE_1, wE_2, wE_nil, wE_cons, wE_tup, wE_lst, wE_call, Ok_callN, wE_if, wE_tval, wE_tb1, wE_tand, wE_tor, wE_tnot, wE_and, wE_or, wE_not, wE_chain, wE_bm, wE_repr, wE_sl, wE_pN, wE_tyes, wE_it, wE_dict0, Ok_gNm, Ok_gTp, Ok_gNil, Ok_gCons, Ok_gSb, Ok_ok, isB_bl, truth_bl, List.set_cons_zero, List.set_cons_succ, List.map_cons, List.map_nil, List.cons_append, List.nil_append, List.replicate_succ, List.replicate_zero, List.length_cons, List.length_nil, wipeD, wE_pS, intOf_int, wE_enum, wE_sort, wE_range1]
  refine ⟨trivial, ?_⟩
  have e4 : ("abcd" : Str).cps.toList.length = 4 := by decide +kernel
  refine Mp.Ok.mono (draw_machine_ok hP (by omega) "abcd" (by rw [cps_len]; omega) 2 (by omega) (by omega)) ?_
  rintro d s1 ⟨p2, sts2, rfl, hp2, h12, h62, hst2, k1, p1⟩
  rw [show machD al p sts = .tup [.str al, .str p, .tup (sts.map stD)] from rfl, ixt0, ixt1, ixt2]
  refine ⟨by rw [sizeLine_eq]; omega, by rw [sizeLine_eq]; omega, by rw [sizeLine_eq]; omega, ?_⟩
  have g1 : GoodV s1 [pen] (machD "abcd" p2 sts2) := ⟨5, [3, 2, 2, 4, 2], by decide, by decide, by decide +kernel, mach_sm (by omega) (by omega) (by omega) (by omega) (by decide +kernel) hp2 (by omega) (by omega) hst2⟩
  have g2 : GoodV s1 [pen] (.tup [.tup [.str al], .str p, .tup (sts.map stD)]) := by
    refine ⟨5, W0, by decide, by decide, by decide +kernel, Sm.tup (by simp) fun x hx => ?_⟩
    simp only [List.mem_cons, List.not_mem_nil, or_false] at hx
    rcases hx with rfl | rfl | rfl
    · refine Sm.tup (by simp) fun z hz => ?_
      rw [List.mem_singleton.mp hz]
      exact Sm.leaf (al_leaf (by have := ha.2.1; omega) (al_signs ha))
    · exact Sm.leaf (short_leaf (by omega) hp)
    · refine Sm.tup (by rw [List.length_map]; omega) fun y hy => ?_
      obtain ⟨s, hs, rfl⟩ := List.mem_map.mp hy
      exact stD_sm (by omega) h6 (by have := ha.2.1; omega) (by omega) (hst s hs)
  refine plus_good hL (k1.get h (by simp; omega)) (by omega) (fun x hx => (hv x hx).keep (k1.mono (by simp))) g1 g2 ?_
  intro M st' e1 e2 e3 k2
  exact q M _ st' (by simp; omega) e1 e2 e3 (k1.trans (k2.mono (by simp))) (p1.keep k2)
noncomputable def b_vals6 : MS := sAsg (m2 ixD (mLst (mCons (mC (.str "acb")) (mCons (mC (.str "aab")) (mCons (mC (.str " a")) (mCons (mC (.str "ba")) (mCons (mC (.str "aa")) (mCons (mC (.str "a ")) mNil))))))) (mCall (callN 2 F__law_take) (mCons (mVar 1) (mCons (mC (.int 6)) mNil)))) (gNm 6)
def WrOk (w : Str) : Prop := w.cps.toList.length ≤ 3 ∧ ∀ c ∈ w.cps.toList, c < 256
theorem wr_lit (w : Str) (h : (decide (w.cps.toList.length ≤ 3) && w.cps.toList.all fun c => decide (c < 256)) = true) : WrOk w := by
  rw [Bool.and_eq_true, decide_eq_true_eq, List.all_eq_true] at h
  exact ⟨h.1, fun c hc => of_decide_eq_true (h.2 c hc)⟩
theorem vals6_ok {st : Store} {pen L : Nat} {B : Int} {m : D} {vs : List D} {o0 o2 o4 o6 o7 o8 o9 : Option D} {N Bk C : DSt → Store → Prop} {T : D → Store → Prop} (hP : PenAt st pen B) (hB : B < 800000)
    (q : ∀ w st', WrOk w → Keep [pen] st st' → PenAt st' pen (B + 1) → N [o0, some (.loc pen), o2, some m, o4, some (.loc L), some (.str w), o7, o8, o9] st') :
    wS b_vals6 [o0, some (.loc pen), o2, some m, o4, some (.loc L), o6, o7, o8, o9] st N T Bk C := by
  unfold b_vals6
  simp only [wS_seq, wS_if, wS_asg, wS_ret, wS_expr, wS_skip, wS_par, wS_retN, wS_brk, wS_cnt, wE_C, wE_v, slot_zero, slot_succ, wE_1, wE_2, wE_nil, wE_cons, wE_tup, wE_lst, wE_call, Ok_callN, wE_if, wE_tval, wE_tb1, wE_tand, wE_tor, wE_tnot, wE_and, wE_or, wE_not, wE_chain, wE_bm, wE_repr, wE_sl, wE_pN, wE_tyes, wE_it, wE_dict0, Ok_gNm, Ok_gTp, Ok_gNil, Ok_gCons, Ok_gSb, Ok_ok, isB_bl, truth_bl, List.set_cons_zero, List.set_cons_succ, List.map_cons, List.map_nil, List.cons_append, List.nil_append, List.replicate_succ, List.replicate_zero, List.length_cons, List.length_nil, wipeD, wE_pS, intOf_int, wE_enum, wE_sort, wE_range1]
  refine ⟨by rw [sizeLine_eq]; omega, trivial, ?_⟩
  refine Mp.Ok.mono (take_ok (hP.keep Keep.snoc) (by omega) 6 (by omega) (by omega)) ?_
  rintro r s2 ⟨i, rfl, i0, i1, k2, p2⟩
  have hpen := hP.lt
  have e2 := k2.get (snoc_at (st := st) (o := MO.lst [.str "acb", .str "aab", .str " a", .str "ba", .str "aa", .str "a "])) (by simp; omega)
  refine ix_b e2 i0 (by simpa using i1) fun d hd => ?_
  have hm := List.mem_of_getElem? hd
  have key : ∃ w, d = .str w ∧ WrOk w := by
    simp only [List.mem_cons, List.not_mem_nil, or_false] at hm
    rcases hm with h | h | h | h | h | h <;> subst h <;> exact ⟨_, rfl, wr_lit _ (by decide +kernel)⟩
  obtain ⟨w, rfl, hw⟩ := key
  exact q w s2 hw (Keep.trans Keep.snoc k2) p2
noncomputable def b_vals7 : MS := sAsg (m2 addD (mVar 5) (mLst (mCons (mCall (callN 3 F__law_draw_machine) (mCons (mVar 1) (mCons (mVar 6) (mCons (mC (.int 2)) mNil)))) (mCons (mTup (mCons (mCall listD (mCons (m2 ixD (mVar 3) (mC (.int 0))) mNil)) (mCons (m2 ixD (mVar 3) (mC (.int 1))) (mCons (m2 ixD (mVar 3) (mC (.int 2))) mNil)))) mNil)))) (gNm 5)
theorem vals7_ok {st : Store} {pen L : Nat} {B : Int} {al p w : Str} {sts : List Pen.SD} {vs : List D} {o0 o2 o4 o7 o8 o9 : Option D} {N Bk C : DSt → Store → Prop} {T : D → Store → Prop} (hP : PenAt st pen B) (hB : B < 800000) (h : st[L]? = some (.lst vs)) (h10 : vs.length ≤ 15) (hL : pen < L) (hv : ∀ v ∈ vs, GoodV st [pen, L] v)
    (ha : AlOk al) (hp : p ∈ shorts) (h6 : sts.length ≤ 6) (hst : ∀ s ∈ sts, StOk al.cps.toList.length sts.length s) (hw : WrOk w)
    (q : ∀ L vs' st', st'[L]? = some (.lst vs') → pen < L → (∀ v ∈ vs', GoodV st' [pen, L] v) → Keep [pen] st st' → PenAt st' pen (B + 100) → N [o0, some (.loc pen), o2, some (machD al p sts), o4, some (.loc L), some (.str w), o7, o8, o9] st') :
    wS b_vals7 [o0, some (.loc pen), o2, some (machD al p sts), o4, some (.loc L), some (.str w), o7, o8, o9] st N T Bk C := by
  unfold b_vals7
  simp only [wS_seq, wS_if, wS_asg, wS_ret, wS_expr, wS_skip, wS_par, wS_retN, wS_brk, wS_cnt, wE_C, wE_v, slot_zero, slot_succ, wE_1, wE_2, wE_nil, wE_cons, wE_tup, wE_lst, wE_call, Ok_callN, wE_if, wE_tval, wE_tb1, wE_tand, wE_tor, wE_tnot, wE_and, wE_or, wE_not, wE_chain, wE_bm, wE_repr, wE_sl, wE_pN, wE_tyes, wE_it, wE_dict0, Ok_gNm, Ok_gTp, Ok_gNil, Ok_gCons, Ok_gSb, Ok_ok, isB_bl, truth_bl, List.set_cons_zero, List.set_cons_succ, List.map_cons, List.map_nil, List.cons_append, List.nil_append, List.replicate_succ, List.replicate_zero, List.length_cons, List.length_nil, wipeD, wE_pS, intOf_int, wE_enum, wE_sort, wE_range1]
  refine ⟨trivial, ?_⟩
  obtain ⟨w3, w256⟩ := hw
  refine Mp.Ok.mono (draw_machine_ok hP (by omega) w (by rw [cps_len]; omega) 2 (by omega) (by omega)) ?_
  rintro d s1 ⟨p2, sts2, rfl, hp2, h12, h62, hst2, k1, p1⟩
  rw [show machD al p sts = .tup [.str al, .str p, .tup (sts.map stD)] from rfl, ixt0]
  have h3 := ha.2.1
  have hpen := p1.lt
  refine list_str (by rw [cps_len, sizeLine_eq]; omega) ?_
  rw [ixt1, ixt2]
  refine ⟨by rw [sizeLine_eq]; omega, by rw [sizeLine_eq]; omega, ?_⟩
  have ks : Keep [] s1 (s1 ++ [MO.lst ((signsOf al).map D.str)]) := Keep.snoc
  have el : (s1 ++ [MO.lst ((signsOf al).map D.str)])[s1.length]? = some (MO.lst ((signsOf al).map D.str)) := snoc_at
  have hl1 := k1.len
  have hLl := at_lt h
  generalize hs2 : s1 ++ [MO.lst ((signsOf al).map D.str)] = s2 at ks el ⊢
  have g1 : GoodV s2 [pen] (machD w p2 sts2) := ⟨5, [3, 2, 2, 3, 2], by decide, by decide, by decide +kernel, mach_sm (by omega) (by omega) (by omega) (by omega) w256 hp2 (by omega) (by omega) hst2⟩
  have g2 : GoodV s2 [pen] (.tup [.loc s1.length, .str p, .tup (sts.map stD)]) := by
    refine ⟨5, W0, by decide, by decide, by decide +kernel, Sm.tup (by simp) fun x hx => ?_⟩
    simp only [List.mem_cons, List.not_mem_nil, or_false] at hx
    rcases hx with rfl | rfl | rfl
    · refine Sm.lst (by rw [List.length_map]; unfold signsOf; rw [List.length_map]; omega) (fun z hz => ?_) (by simp; omega) el
      obtain ⟨y, hy, rfl⟩ := List.mem_map.mp hz
      unfold signsOf at hy
      obtain ⟨c, hc, rfl⟩ := List.mem_map.mp hy
      exact Sm.leaf ⟨by simp, fun c' hc' => by
        have e : c' = c := by simpa using hc'
        rw [e]
        exact al_signs ha c hc⟩
    · exact Sm.leaf (short_leaf (by omega) hp)
    · refine Sm.tup (by rw [List.length_map]; omega) fun y hy => ?_
      obtain ⟨s, hs, rfl⟩ := List.mem_map.mp hy
      exact stD_sm (by omega) h6 (by omega) (by omega) (hst s hs)
  have k12 : Keep [pen] st s2 := k1.trans (ks.mono (by simp))
  refine plus_good hL (k12.get h (by simp; omega)) (by omega) (fun x hx => (hv x hx).keep (k12.mono (by simp))) g1 g2 ?_
  intro M st' e1 e2 e3 k2
  exact q M _ st' e1 e2 e3 (k12.trans (k2.mono (by simp))) ((p1.keep ks).keep k2)
noncomputable def b_mach : MS := sAsg (mCall (callN 3 F__law_draw_machine) (mCons (mVar 1) (mCons (mCall (callN 2 F__law_draw_alphabet) (mCons (mVar 1) (mCons (m2 addD (mC (.int 1)) (mCall (callN 2 F__law_take) (mCons (mVar 1) (mCons (mC (.int 3)) mNil)))) mNil))) (mCons (mC (.int 6)) mNil)))) (gNm 3)
noncomputable def b_isit : MS := sIf (tB1 (m2 (isD true) (mCall (callN 1 F_is_machine) (mCons (mVar 3) mNil)) (mC (.bl true))))
 (sRet (mC (.bl false)))
 sSkip
noncomputable def b_turn : MS := sSeq b_mach (sSeq b_isit (sSeq b_vals1 (sSeq b_vals2 (sSeq b_vals3 (sSeq b_vals4 (sSeq b_vals5 (sSeq b_vals6 (sSeq b_vals7 (sSeq b_ask b_runs)))))))))
theorem mach_ok2 {st : Store} {pen : Nat} {B : Int} {o0 o2 o3 o4 o5 o6 o7 o8 o9 : Option D} {N Bk C : DSt → Store → Prop} {T : D → Store → Prop} (hP : PenAt st pen B) (hB : B < 800000)
    (q : ∀ al p sts st', AlOk al → p ∈ shorts → 1 ≤ sts.length → sts.length ≤ 6 → (∀ s ∈ sts, StOk al.cps.toList.length sts.length s) → PenAt st' pen (B + 104) → N [o0, some (.loc pen), o2, some (machD al p sts), o4, o5, o6, o7, o8, o9] st') :
    wS b_mach [o0, some (.loc pen), o2, o3, o4, o5, o6, o7, o8, o9] st N T Bk C := by
  unfold b_mach
  simp only [wS_seq, wS_if, wS_asg, wS_ret, wS_expr, wS_skip, wS_par, wS_retN, wS_brk, wS_cnt, wE_C, wE_v, slot_zero, slot_succ, wE_1, wE_2, wE_nil, wE_cons, wE_tup, wE_lst, wE_call, Ok_callN, wE_if, wE_tval, wE_tb1, wE_tand, wE_tor, wE_tnot, wE_and, wE_or, wE_not, wE_chain, wE_bm, wE_repr, wE_sl, wE_pN, wE_tyes, wE_it, wE_dict0, Ok_gNm, Ok_gTp, Ok_gNil, Ok_gCons, Ok_gSb, Ok_ok, isB_bl, truth_bl, List.set_cons_zero, List.set_cons_succ, List.map_cons, List.map_nil, List.cons_append, List.nil_append, List.replicate_succ, List.replicate_zero, List.length_cons, List.length_nil, wipeD, wE_pS, intOf_int, wE_enum, wE_sort, wE_range1]
  refine ⟨trivial, ?_⟩
  refine Mp.Ok.mono (take_ok hP (by omega) 3 (by omega) (by omega)) ?_
  rintro r s1 ⟨i, rfl, i0, i1, k1, p1⟩
  rw [Pen.add_int]
  refine ⟨trivial, ?_⟩
  refine Mp.Ok.mono (draw_alphabet_ok p1 (by omega) (1 + i) (by omega) (by omega)) ?_
  rintro r s2 ⟨al, rfl, ha, k2, p2⟩
  refine ⟨trivial, ?_⟩
  refine Mp.Ok.mono (draw_machine_ok p2 (by omega) al (by rw [cps_len]; have := ha.2.1; omega) 6 (by omega) (by omega)) ?_
  rintro r s3 ⟨p, sts, rfl, hp, h1, h6, hst, k3, p3⟩
  exact q al p sts s3 ha hp h1 (by omega) hst (p3.mono (by omega))
theorem mach_good {st : Store} {ms : List Nat} {al p : Str} {sts : List Pen.SD} (ha : AlOk al) (hp : p ∈ shorts) (h6 : sts.length ≤ 6) (hst : ∀ s ∈ sts, StOk al.cps.toList.length sts.length s) : Sm st ms 5 W0 (machD al p sts) :=
  mach_sm (by omega) (by omega) ha.2.1 (by have := ha.2.1; omega) (al_signs ha) hp h6 (by omega) hst
theorem isit_ok {st : Store} {al p : Str} {sts : List Pen.SD} {o0 o1 o2 o4 o5 o6 o7 o8 o9 : Option D} {N Bk C : DSt → Store → Prop} {T : D → Store → Prop}
    (ha : AlOk al) (hp : p ∈ shorts) (h1 : 1 ≤ sts.length) (h6 : sts.length ≤ 6) (hst : ∀ s ∈ sts, StOk al.cps.toList.length sts.length s)
    (q : ∀ st', Keep [] st st' → N [o0, o1, o2, some (machD al p sts), o4, o5, o6, o7, o8, o9] st') :
    wS b_isit [o0, o1, o2, some (machD al p sts), o4, o5, o6, o7, o8, o9] st N T Bk C := by
  unfold b_isit
  simp only [wS_seq, wS_if, wS_asg, wS_ret, wS_expr, wS_skip, wS_par, wS_retN, wS_brk, wS_cnt, wE_C, wE_v, slot_zero, slot_succ, wE_1, wE_2, wE_nil, wE_cons, wE_tup, wE_lst, wE_call, Ok_callN, wE_if, wE_tval, wE_tb1, wE_tand, wE_tor, wE_tnot, wE_and, wE_or, wE_not, wE_chain, wE_bm, wE_repr, wE_sl, wE_pN, wE_tyes, wE_it, wE_dict0, Ok_gNm, Ok_gTp, Ok_gNil, Ok_gCons, Ok_gSb, Ok_ok, isB_bl, truth_bl, List.set_cons_zero, List.set_cons_succ, List.map_cons, List.map_nil, List.cons_append, List.nil_append, List.replicate_succ, List.replicate_zero, List.length_cons, List.length_nil, wipeD, wE_pS, intOf_int, wE_enum, wE_sort, wE_range1]
  refine ⟨trivial, ?_⟩
  refine Mp.Ok.mono (is_machine_ok (good0 (st := st) (ms := []) (mach_good ha hp h6 hst)).val.deep) ?_
  rintro r s1 ⟨rfl, k1⟩
  rw [mach_ok ha hp h1 hst]
  have i1 : ∀ (Q : D → Store → Prop), Ok (isD true (.bl true) (.bl true) s1) Q = Q (.bl false) s1 := fun _ => rfl
  rw [i1]
  simp only [isB_bl, Ok_ok]
  exact ⟨fun h => (nomatch h), fun _ => q s1 k1⟩
theorem turn_ok {st : Store} {pen : Nat} {B : Int} {o0 o2 o3 o4 o5 o6 o7 o8 o9 : Option D} {N Bk C : DSt → Store → Prop} {T : D → Store → Prop} (hP : PenAt st pen B) (hB : B < 600000)
    (q : ∀ o3 o4 o5 o6 o7 o8 o9 st', PenAt st' pen (B + 2000) → N [o0, some (.loc pen), o2, o3, o4, o5, o6, o7, o8, o9] st') :
    wS b_turn [o0, some (.loc pen), o2, o3, o4, o5, o6, o7, o8, o9] st N T Bk C := by
  unfold b_turn
  rw [wS_seq]
  refine mach_ok2 hP (by omega) fun al p sts s1 ha hp h1 h6 hst p1 => ?_
  rw [wS_seq]
  refine isit_ok ha hp h1 h6 hst fun s2 k2 => ?_
  have p2 := p1.keep k2
  rw [wS_seq]
  refine vals1_ok p2 (by omega) (mach_good ha hp h6 hst) fun L vs s3 l1 l2 e3 hL hv k3 p3 => ?_
  rw [wS_seq]
  refine vals2_ok p3 (by omega) e3 l1 l2 hL hv fun vs s4 l4 e4 hv k4 p4 => ?_
  rw [wS_seq]
  refine vals3_ok p4 e4 l4 hL hv ha h1 h6 hst fun vs s5 l5 e5 hv k5 p5 => ?_
  rw [wS_seq]
  refine vals4_ok p5 e5 l5 hL hv fun vs s6 l6 e6 hv k6 p6 => ?_
  rw [wS_seq]
  refine vals5_ok p6 (by omega) e6 l6 hL hv ha hp h6 hst fun L2 vs s7 l7 e7 hL2 hv k7 p7 => ?_
  rw [wS_seq]
  refine vals6_ok (vs := vs) p7 (by omega) fun w s8 hw k8 p8 => ?_
  rw [wS_seq]
  refine vals7_ok p8 (by omega) (k8.get e7 (by simp; omega)) l7 hL2 (fun x hx => (hv x hx).keep (k8.mono (by simp))) ha hp h6 hst hw fun L3 vs s9 e9 hL3 hv k9 p9 => ?_
  rw [wS_seq]
  refine ask_ok e9 (fun x hx => (hv x hx).val) fun o7 o8 s10 k10 => ?_
  refine runs_ok (p9.keep k10) (by omega) ha hp h1 hst fun o4 o9 s11 k11 p11 => ?_
  exact q _ _ _ _ _ _ _ _ (p11.mono (by omega))
end K50
end
section
set_option Elab.async false
set_option linter.all false
set_option maxRecDepth 100000
set_option maxHeartbeats 4000000
/-! K50: the walk. Printed by gen.py. -/
namespace K50
open PySem PySem.Spec PyProof.Rows L2 Mp
def top (i : Nat) : Stmt := PySem.Challenge.pw_placeblind_k50_machines_recognized_and_r.main.body.getD i (.Pass ⟨0, 0, 0, 0⟩)
abbrev s_is_integer : Stmt := top 4
abbrev N_is_integer : List Str := ["value"]
abbrev ps_is_integer : List Str := ["value"]
theorem sc_is_integer : FnScope N_is_integer ps_is_integer (defScope s_is_integer) := ⟨rfl, rfl, rfl, by decide +kernel, rfl, by decide +kernel, by decide +kernel⟩
abbrev s_is_index : Stmt := top 5
abbrev N_is_index : List Str := ["value", "size"]
abbrev ps_is_index : List Str := ["value", "size"]
theorem sc_is_index : FnScope N_is_index ps_is_index (defScope s_is_index) := ⟨rfl, rfl, rfl, by decide +kernel, rfl, by decide +kernel, by decide +kernel⟩
abbrev s_is_character : Stmt := top 6
abbrev N_is_character : List Str := ["value"]
abbrev ps_is_character : List Str := ["value"]
theorem sc_is_character : FnScope N_is_character ps_is_character (defScope s_is_character) := ⟨rfl, rfl, rfl, by decide +kernel, rfl, by decide +kernel, by decide +kernel⟩
abbrev s_is_alphabet : Stmt := top 7
abbrev N_is_alphabet : List Str := ["value", "letter"]
abbrev ps_is_alphabet : List Str := ["value"]
theorem sc_is_alphabet : FnScope N_is_alphabet ps_is_alphabet (defScope s_is_alphabet) := ⟨rfl, rfl, rfl, by decide +kernel, rfl, by decide +kernel, by decide +kernel⟩
abbrev s_is_text : Stmt := top 10
abbrev N_is_text : List Str := ["value", "character"]
abbrev ps_is_text : List Str := ["value"]
theorem sc_is_text : FnScope N_is_text ps_is_text (defScope s_is_text) := ⟨rfl, rfl, rfl, by decide +kernel, rfl, by decide +kernel, by decide +kernel⟩
abbrev s_is_step : Stmt := top 11
abbrev N_is_step : List Str := ["value", "size"]
abbrev ps_is_step : List Str := ["value", "size"]
theorem sc_is_step : FnScope N_is_step ps_is_step (defScope s_is_step) := ⟨rfl, rfl, rfl, by decide +kernel, rfl, by decide +kernel, by decide +kernel⟩
abbrev s_is_end : Stmt := top 12
abbrev N_is_end : List Str := ["value"]
abbrev ps_is_end : List Str := ["value"]
theorem sc_is_end : FnScope N_is_end ps_is_end (defScope s_is_end) := ⟨rfl, rfl, rfl, by decide +kernel, rfl, by decide +kernel, by decide +kernel⟩
abbrev s_is_state : Stmt := top 13
abbrev N_is_state : List Str := ["value", "letters", "size", "step"]
abbrev ps_is_state : List Str := ["value", "letters", "size"]
theorem sc_is_state : FnScope N_is_state ps_is_state (defScope s_is_state) := ⟨rfl, rfl, rfl, by decide +kernel, rfl, by decide +kernel, by decide +kernel⟩
abbrev s_is_machine : Stmt := top 14
abbrev N_is_machine : List Str := ["value", "alphabet", "prefix", "states", "state"]
abbrev ps_is_machine : List Str := ["value"]
theorem sc_is_machine : FnScope N_is_machine ps_is_machine (defScope s_is_machine) := ⟨rfl, rfl, rfl, by decide +kernel, rfl, by decide +kernel, by decide +kernel⟩
abbrev s_run_machine : Stmt := top 15
abbrev N_run_machine : List Str := ["machine", "text", "alphabet", "output", "states", "index", "letter", "emitted", "last", "ending"]
abbrev ps_run_machine : List Str := ["machine", "text"]
theorem sc_run_machine : FnScope N_run_machine ps_run_machine (defScope s_run_machine) := ⟨rfl, rfl, rfl, by decide +kernel, rfl, by decide +kernel, by decide +kernel⟩
abbrev s__law_open : Stmt := top 17
abbrev N__law_open : List Str := ["_law_script", "_law_cells", "_law_k", "_law_cell"]
abbrev ps__law_open : List Str := ["_law_script"]
theorem sc__law_open : FnScope N__law_open ps__law_open (defScope s__law_open) := ⟨rfl, rfl, rfl, by decide +kernel, rfl, by decide +kernel, by decide +kernel⟩
abbrev s__law_spread : Stmt := top 18
abbrev N__law_spread : List Str := ["_law_cell", "_law_at", "_law_primes", "_law_one", "_law_two", "_law_three"]
abbrev ps__law_spread : List Str := ["_law_cell", "_law_at"]
theorem sc__law_spread : FnScope N__law_spread ps__law_spread (defScope s__law_spread) := ⟨rfl, rfl, rfl, by decide +kernel, rfl, by decide +kernel, by decide +kernel⟩
abbrev s__law_take : Stmt := top 19
abbrev N__law_take : List Str := ["_law_pen", "_law_amount", "_law_at", "_law_cell", "_law_found"]
abbrev ps__law_take : List Str := ["_law_pen", "_law_amount"]
theorem sc__law_take : FnScope N__law_take ps__law_take (defScope s__law_take) := ⟨rfl, rfl, rfl, by decide +kernel, rfl, by decide +kernel, by decide +kernel⟩
abbrev s__law_same : Stmt := top 20
abbrev N__law_same : List Str := ["_law_found", "_law_due", "_law_one", "_law_other"]
abbrev ps__law_same : List Str := ["_law_found", "_law_due"]
theorem sc__law_same : FnScope N__law_same ps__law_same (defScope s__law_same) := ⟨rfl, rfl, rfl, by decide +kernel, rfl, by decide +kernel, by decide +kernel⟩
abbrev s__law_draw_alphabet : Stmt := top 21
abbrev N__law_draw_alphabet : List Str := ["_law_pen", "_law_size", "_law_pool", "_law_first", "_law_stride", "_law_k"]
abbrev ps__law_draw_alphabet : List Str := ["_law_pen", "_law_size"]
theorem sc__law_draw_alphabet : FnScope N__law_draw_alphabet ps__law_draw_alphabet (defScope s__law_draw_alphabet) := ⟨rfl, rfl, rfl, by decide +kernel, rfl, by decide +kernel, by decide +kernel⟩
abbrev s__law_draw_text : Stmt := top 22
abbrev N__law_draw_text : List Str := ["_law_pen", "_law_alphabet", "_law_most", "_law_k"]
abbrev ps__law_draw_text : List Str := ["_law_pen", "_law_alphabet", "_law_most"]
theorem sc__law_draw_text : FnScope N__law_draw_text ps__law_draw_text (defScope s__law_draw_text) := ⟨rfl, rfl, rfl, by decide +kernel, rfl, by decide +kernel, by decide +kernel⟩
abbrev s__law_draw_short : Stmt := top 23
abbrev N__law_draw_short : List Str := ["_law_pen"]
abbrev ps__law_draw_short : List Str := ["_law_pen"]
theorem sc__law_draw_short : FnScope N__law_draw_short ps__law_draw_short (defScope s__law_draw_short) := ⟨rfl, rfl, rfl, by decide +kernel, rfl, by decide +kernel, by decide +kernel⟩
abbrev s__law_draw_machine : Stmt := top 24
abbrev N__law_draw_machine : List Str := ["_law_pen", "_law_alphabet", "_law_size", "_law_amount", "_law_states", "_law_index", "_law_steps", "_law_letter"]
abbrev ps__law_draw_machine : List Str := ["_law_pen", "_law_alphabet", "_law_size"]
theorem sc__law_draw_machine : FnScope N__law_draw_machine ps__law_draw_machine (defScope s__law_draw_machine) := ⟨rfl, rfl, rfl, by decide +kernel, rfl, by decide +kernel, by decide +kernel⟩
abbrev s__law_outcome : Stmt := top 25
abbrev N__law_outcome : List Str := ["_law_machine", "_law_text", "_law_output", "_law_index", "_law_letter", "_law_emitted", "_law_last", "_law_ending"]
abbrev ps__law_outcome : List Str := ["_law_machine", "_law_text"]
theorem sc__law_outcome : FnScope N__law_outcome ps__law_outcome (defScope s__law_outcome) := ⟨rfl, rfl, rfl, by decide +kernel, rfl, by decide +kernel, by decide +kernel⟩
abbrev s__law_is_index : Stmt := top 27
abbrev N__law_is_index : List Str := ["_law_value", "_law_size"]
abbrev ps__law_is_index : List Str := ["_law_value", "_law_size"]
theorem sc__law_is_index : FnScope N__law_is_index ps__law_is_index (defScope s__law_is_index) := ⟨rfl, rfl, rfl, by decide +kernel, rfl, by decide +kernel, by decide +kernel⟩
abbrev s__law_is_text : Stmt := top 28
abbrev N__law_is_text : List Str := ["_law_value", "_law_sign"]
abbrev ps__law_is_text : List Str := ["_law_value"]
theorem sc__law_is_text : FnScope N__law_is_text ps__law_is_text (defScope s__law_is_text) := ⟨rfl, rfl, rfl, by decide +kernel, rfl, by decide +kernel, by decide +kernel⟩
abbrev s__law_is_pair : Stmt := top 29
abbrev N__law_is_pair : List Str := ["_law_value"]
abbrev ps__law_is_pair : List Str := ["_law_value"]
theorem sc__law_is_pair : FnScope N__law_is_pair ps__law_is_pair (defScope s__law_is_pair) := ⟨rfl, rfl, rfl, by decide +kernel, rfl, by decide +kernel, by decide +kernel⟩
abbrev s__law_is_state : Stmt := top 30
abbrev N__law_is_state : List Str := ["_law_value", "_law_letters", "_law_size", "_law_step"]
abbrev ps__law_is_state : List Str := ["_law_value", "_law_letters", "_law_size"]
theorem sc__law_is_state : FnScope N__law_is_state ps__law_is_state (defScope s__law_is_state) := ⟨rfl, rfl, rfl, by decide +kernel, rfl, by decide +kernel, by decide +kernel⟩
abbrev s__law_is_machine : Stmt := top 31
abbrev N__law_is_machine : List Str := ["_law_value", "_law_one"]
abbrev ps__law_is_machine : List Str := ["_law_value"]
theorem sc__law_is_machine : FnScope N__law_is_machine ps__law_is_machine (defScope s__law_is_machine) := ⟨rfl, rfl, rfl, by decide +kernel, rfl, by decide +kernel, by decide +kernel⟩
abbrev s__law_bend : Stmt := top 32
abbrev N__law_bend : List Str := ["_law_pen", "_law_value", "_law_some", "_law_k", "_law_way"]
abbrev ps__law_bend : List Str := ["_law_pen", "_law_value"]
theorem sc__law_bend : FnScope N__law_bend ps__law_bend (defScope s__law_bend) := ⟨rfl, rfl, rfl, by decide +kernel, rfl, by decide +kernel, by decide +kernel⟩
abbrev s_law : Stmt := top 33
abbrev N_law : List Str := ["_law_script", "_law_pen", "_law_turn", "_law_machine", "_law_again", "_law_values", "_law_wrong", "_law_value", "_law_seen", "_law_text"]
abbrev ps_law : List Str := ["_law_script"]
theorem sc_law : FnScope N_law ps_law (defScope s_law) := ⟨rfl, rfl, rfl, by decide +kernel, rfl, by decide +kernel, by decide +kernel⟩
structure Tx (K : PySem.W.Frag) (mg : Str → Option Value) (cl : Str → Addr) where
  f_is_integer : Fd K mg "is_integer" s_is_integer ps_is_integer
  f_is_index : Fd K mg "is_index" s_is_index ps_is_index
  f_is_character : Fd K mg "is_character" s_is_character ps_is_character
  f_is_alphabet : Fd K mg "is_alphabet" s_is_alphabet ps_is_alphabet
  f_is_text : Fd K mg "is_text" s_is_text ps_is_text
  f_is_step : Fd K mg "is_step" s_is_step ps_is_step
  f_is_end : Fd K mg "is_end" s_is_end ps_is_end
  f_is_state : Fd K mg "is_state" s_is_state ps_is_state
  f_is_machine : Fd K mg "is_machine" s_is_machine ps_is_machine
  f_run_machine : Fd K mg "run_machine" s_run_machine ps_run_machine
  f__law_open : Fd K mg "_law_open" s__law_open ps__law_open
  f__law_spread : Fd K mg "_law_spread" s__law_spread ps__law_spread
  f__law_take : Fd K mg "_law_take" s__law_take ps__law_take
  f__law_same : Fd K mg "_law_same" s__law_same ps__law_same
  f__law_draw_alphabet : Fd K mg "_law_draw_alphabet" s__law_draw_alphabet ps__law_draw_alphabet
  f__law_draw_text : Fd K mg "_law_draw_text" s__law_draw_text ps__law_draw_text
  f__law_draw_short : Fd K mg "_law_draw_short" s__law_draw_short ps__law_draw_short
  f__law_draw_machine : Fd K mg "_law_draw_machine" s__law_draw_machine ps__law_draw_machine
  f__law_outcome : Fd K mg "_law_outcome" s__law_outcome ps__law_outcome
  f__law_is_index : Fd K mg "_law_is_index" s__law_is_index ps__law_is_index
  f__law_is_text : Fd K mg "_law_is_text" s__law_is_text ps__law_is_text
  f__law_is_pair : Fd K mg "_law_is_pair" s__law_is_pair ps__law_is_pair
  f__law_is_state : Fd K mg "_law_is_state" s__law_is_state ps__law_is_state
  f__law_is_machine : Fd K mg "_law_is_machine" s__law_is_machine ps__law_is_machine
  f__law_bend : Fd K mg "_law_bend" s__law_bend ps__law_bend
  f_law : Fd K mg "law" s_law ps_law
  n_ENDINGS : ∃ u, mg "ENDINGS" = some (.ref u) ∧ ∀ H, SqT K H u (List.map V.str ["halt", "fault"])
  n_FIRST_CHARACTER : ∃ t, mg "FIRST_CHARACTER" = some (.str "!" t)
  n_LAST_CHARACTER : ∃ t, mg "LAST_CHARACTER" = some (.str "~" t)
  n_MAX_LETTERS : ∃ t, mg "MAX_LETTERS" = some (.int 3 t)
  n_all : mg "all" = none
  n_bool : mg "bool" = none
  n_enumerate : mg "enumerate" = none
  n_int : mg "int" = none
  n_isinstance : mg "isinstance" = none
  n_len : mg "len" = none
  n_list : mg "list" = none
  n_range : mg "range" = none
  n_repr : mg "repr" = none
  n_set : mg "set" = none
  n_sorted : mg "sorted" = none
  n_str : mg "str" = none
  n_tuple : mg "tuple" = none
  n_zip : mg "zip" = none
section
variable {P : Program} {w : World} {K : PySem.W.Frag} {mg : Str → Option Value} {base : Heap} {cl : Str → Addr}
theorem ok_is_integer (T : Tx K mg cl) : FnG P w K mg base CX0 1 T.f_is_integer.a T.f_is_integer.fd ps_is_integer (spN ⟨K, cl⟩ 1 F_is_integer) :=
  funN T.f_is_integer.F sc_is_integer rfl rfl fun cdv A outer s H E hr hg => by
    have hu64 := hr.units
    have hu1 := hu_of hr
    unfold b_is_integer
    exact (mss_one (ms_ret (me_and (me_isi T.n_isinstance T.n_int bb_int (me_var 0)) (me_one (me_not (me_isi T.n_isinstance T.n_bool bb_bool (me_var 0)))))))
theorem ok_is_index (T : Tx K mg cl) : FnG P w K mg base CX0 2 T.f_is_index.a T.f_is_index.fd ps_is_index (spN ⟨K, cl⟩ 2 F_is_index) :=
  funN T.f_is_index.F sc_is_index rfl rfl fun cdv A outer s H E hr hg => by
    have hu64 := hr.units
    have hu1 := hu_of hr
    unfold b_is_index
    exact (mss_one (ms_ret (me_and (me_call (ok_is_integer T) (hr.mono (by omega)) hg T.f_is_integer.m T.f_is_integer.k T.f_is_integer.b (ma_cons (me_var 0) ma_nil)) (me_one (me_chain or_le or_lt me_int (me_var 0) (me_var 1))))))
theorem ok_is_character (T : Tx K mg cl) : FnG P w K mg base CX0 1 T.f_is_character.a T.f_is_character.fd ps_is_character (spN ⟨K, cl⟩ 1 F_is_character) :=
  funN T.f_is_character.F sc_is_character rfl rfl fun cdv A outer s H E hr hg => by
    have hu64 := hr.units
    have hu1 := hu_of hr
    unfold b_is_character
    exact (mss_one (ms_ret (me_and (me_isi T.n_isinstance T.n_str bb_str (me_var 0)) (me_and (me_cmp (or_eq hu64) (me_callB cr_lenD T.n_len bb_len (ma_cons (me_var 0) ma_nil)) me_int) (me_one (me_chain or_le or_le (me_kStr T.n_FIRST_CHARACTER) (me_var 0) (me_kStr T.n_LAST_CHARACTER)))))))
theorem ok_is_alphabet (T : Tx K mg cl) : FnG P w K mg base CX0 2 T.f_is_alphabet.a T.f_is_alphabet.fd ps_is_alphabet (spN ⟨K, cl⟩ 1 F_is_alphabet) :=
  funN T.f_is_alphabet.F sc_is_alphabet rfl rfl fun cdv A outer s H E hr hg => by
    have hu64 := hr.units
    have hu1 := hu_of hr
    unfold b_is_alphabet
    exact (mss_cons (ms_if (mw_or (mt_not (mt_val (me_isi T.n_isinstance T.n_str bb_str (me_var 0)))) (mw_or1 (mt_not (mt_chain or_le or_le me_int (me_callB cr_lenD T.n_len bb_len (ma_cons (me_var 0) ma_nil)) (me_kInt T.n_MAX_LETTERS))))).pt
 (mss_one (ms_ret me_bl))
 mss_nil)
 (mss_one (ms_ret (me_and (me_callB (cr_allD rfl) T.n_all bb_all (ma_cons (me_lcv rfl sc_is_alphabet.nd (mi_any (me_var 0)) (blkOk_by (N := N_is_alphabet) (sc := (defScope s_is_alphabet)) (own := [("letter", 1)]) (by decide +kernel)) (fun _ _ _ _ _ => (mgw_name (i := 1) sc_is_alphabet.nd)) (fun _ _ _ _ _ => mts_nil) (fun _ _ _ _ _ => (me_call (ok_is_character T) (hr.mono (by omega)) hg T.f_is_character.m T.f_is_character.k T.f_is_character.b (ma_cons (me_var 1) ma_nil)))) ma_nil)) (me_one (me_cmp (or_eq hu64) (me_callTy (cr_listD rfl) T.n_list bb_list (ma_cons (me_var 0) ma_nil)) (me_sortSet rfl T.n_sorted T.n_set (me_var 0))))))))
theorem ok_is_text (T : Tx K mg cl) : FnG P w K mg base CX0 1 T.f_is_text.a T.f_is_text.fd ps_is_text (spN ⟨K, cl⟩ 1 F_is_text) :=
  funN T.f_is_text.F sc_is_text rfl rfl fun cdv A outer s H E hr hg => by
    have hu64 := hr.units
    have hu1 := hu_of hr
    unfold b_is_text
    exact (mss_cons (ms_if (mt_not (mt_val (me_isi T.n_isinstance T.n_str bb_str (me_var 0))))
 (mss_one (ms_ret me_bl))
 mss_nil)
 (mss_one (ms_ret (me_callB (cr_allD rfl) T.n_all bb_all (ma_cons (me_lcv rfl sc_is_text.nd (mi_any (me_var 0)) (blkOk_by (N := N_is_text) (sc := (defScope s_is_text)) (own := [("character", 1)]) (by decide +kernel)) (fun _ _ _ _ _ => (mgw_name (i := 1) sc_is_text.nd)) (fun _ _ _ _ _ => mts_nil) (fun _ _ _ _ _ => (me_chain or_le or_le (me_kStr T.n_FIRST_CHARACTER) (me_var 1) (me_kStr T.n_LAST_CHARACTER)))) ma_nil)))))
theorem ok_is_step (T : Tx K mg cl) : FnG P w K mg base CX0 3 T.f_is_step.a T.f_is_step.fd ps_is_step (spN ⟨K, cl⟩ 2 F_is_step) :=
  funN T.f_is_step.F sc_is_step rfl rfl fun cdv A outer s H E hr hg => by
    have hu64 := hr.units
    have hu1 := hu_of hr
    unfold b_is_step
    exact (mss_one (ms_ret (me_and (me_isi T.n_isinstance T.n_tuple bb_tuple (me_var 0)) (me_and (me_cmp (or_eq hu64) (me_callB cr_lenD T.n_len bb_len (ma_cons (me_var 0) ma_nil)) me_int) (me_and (me_call (ok_is_text T) (hr.mono (by omega)) hg T.f_is_text.m T.f_is_text.k T.f_is_text.b (ma_cons (me_ix hu1 (me_var 0) me_int) ma_nil)) (me_one (me_call (ok_is_index T) (hr.mono (by omega)) hg T.f_is_index.m T.f_is_index.k T.f_is_index.b (ma_cons (me_ix hu1 (me_var 0) me_int) (ma_cons (me_var 1) ma_nil)))))))))
theorem ok_is_end (T : Tx K mg cl) : FnG P w K mg base CX0 2 T.f_is_end.a T.f_is_end.fd ps_is_end (spN ⟨K, cl⟩ 1 F_is_end) :=
  funN T.f_is_end.F sc_is_end rfl rfl fun cdv A outer s H E hr hg => by
    have hu64 := hr.units
    have hu1 := hu_of hr
    unfold b_is_end
    exact (mss_one (ms_ret (me_and (me_isi T.n_isinstance T.n_tuple bb_tuple (me_var 0)) (me_and (me_cmp (or_eq hu64) (me_callB cr_lenD T.n_len bb_len (ma_cons (me_var 0) ma_nil)) me_int) (me_and (me_call (ok_is_text T) (hr.mono (by omega)) hg T.f_is_text.m T.f_is_text.k T.f_is_text.b (ma_cons (me_ix hu1 (me_var 0) me_int) ma_nil)) (me_one (me_in hu64 (me_ix hu1 (me_var 0) me_int) (me_kTupS T.n_ENDINGS))))))))
theorem ok_is_state (T : Tx K mg cl) : FnG P w K mg base CX0 4 T.f_is_state.a T.f_is_state.fd ps_is_state (spN ⟨K, cl⟩ 3 F_is_state) :=
  funN T.f_is_state.F sc_is_state rfl rfl fun cdv A outer s H E hr hg => by
    have hu64 := hr.units
    have hu1 := hu_of hr
    unfold b_is_state
    exact (mss_cons (ms_if (mw_or (mt_not (mt_val (me_isi T.n_isinstance T.n_tuple bb_tuple (me_var 0)))) (mw_or (mt_cmp (or_ne hu64) (me_callB cr_lenD T.n_len bb_len (ma_cons (me_var 0) ma_nil)) me_int) (mw_or1 (mt_not (mt_val (me_isi T.n_isinstance T.n_tuple bb_tuple (me_ix hu1 (me_var 0) me_int))))))).pt
 (mss_one (ms_ret me_bl))
 mss_nil)
 (mss_cons (ms_if (mw_or (mt_cmp (or_ne hu64) (me_callB cr_lenD T.n_len bb_len (ma_cons (me_ix hu1 (me_var 0) me_int) ma_nil)) (me_var 1)) (mw_or1 (mt_not (mt_val (me_callB (cr_allD rfl) T.n_all bb_all (ma_cons (me_lcv rfl sc_is_state.nd (mi_any (me_ix hu1 (me_var 0) me_int)) (blkOk_by (N := N_is_state) (sc := (defScope s_is_state)) (own := [("step", 3)]) (by decide +kernel)) (fun _ _ _ _ _ => (mgw_name (i := 3) sc_is_state.nd)) (fun _ _ _ _ _ => mts_nil) (fun _ _ _ _ _ => (me_call (ok_is_step T) (hr.mono (by omega)) hg T.f_is_step.m T.f_is_step.k T.f_is_step.b (ma_cons (me_var 3) (ma_cons (me_var 2) ma_nil))))) ma_nil)))))).pt
 (mss_one (ms_ret me_bl))
 mss_nil)
 (mss_one (ms_ret (me_call (ok_is_end T) (hr.mono (by omega)) hg T.f_is_end.m T.f_is_end.k T.f_is_end.b (ma_cons (me_ix hu1 (me_var 0) me_int) ma_nil))))))
theorem ok_is_machine (T : Tx K mg cl) : FnG P w K mg base CX0 5 T.f_is_machine.a T.f_is_machine.fd ps_is_machine (spN ⟨K, cl⟩ 1 F_is_machine) :=
  funN T.f_is_machine.F sc_is_machine rfl rfl fun cdv A outer s H E hr hg => by
    have hu64 := hr.units
    have hu1 := hu_of hr
    unfold b_is_machine
    exact (mss_cons (ms_if (mw_or (mt_not (mt_val (me_isi T.n_isinstance T.n_tuple bb_tuple (me_var 0)))) (mw_or (mt_cmp (or_ne hu64) (me_callB cr_lenD T.n_len bb_len (ma_cons (me_var 0) ma_nil)) me_int) (mw_or (mt_not (mt_val (me_call (ok_is_alphabet T) (hr.mono (by omega)) hg T.f_is_alphabet.m T.f_is_alphabet.k T.f_is_alphabet.b (ma_cons (me_ix hu1 (me_var 0) me_int) ma_nil)))) (mw_or1 (mt_not (mt_val (me_call (ok_is_text T) (hr.mono (by omega)) hg T.f_is_text.m T.f_is_text.k T.f_is_text.b (ma_cons (me_ix hu1 (me_var 0) me_int) ma_nil)))))))).pt
 (mss_one (ms_ret me_bl))
 mss_nil)
 (mss_cons (ms_asg (me_var 0) (mg_tup rfl (mgs_cons (mg_name (i := 1) sc_is_machine.nd) (mgs_cons (mg_name (i := 2) sc_is_machine.nd) (mgs_cons (mg_name (i := 3) sc_is_machine.nd) mgs_nil)))))
 (mss_cons (ms_if (mw_or (mt_not (mt_val (me_isi T.n_isinstance T.n_tuple bb_tuple (me_var 3)))) (mw_or1 (mt_cmp (or_eq hu64) (me_var 3) (me_tup ma_nil)))).pt
 (mss_one (ms_ret me_bl))
 mss_nil)
 (mss_one (ms_ret (me_callB (cr_allD rfl) T.n_all bb_all (ma_cons (me_lcv rfl sc_is_machine.nd (mi_any (me_var 3)) (blkOk_by (N := N_is_machine) (sc := (defScope s_is_machine)) (own := [("state", 4)]) (by decide +kernel)) (fun _ _ _ _ _ => (mgw_name (i := 4) sc_is_machine.nd)) (fun _ _ _ _ _ => mts_nil) (fun _ _ _ _ _ => (me_call (ok_is_state T) (hr.mono (by omega)) hg T.f_is_state.m T.f_is_state.k T.f_is_state.b (ma_cons (me_var 4) (ma_cons (me_callB cr_lenD T.n_len bb_len (ma_cons (me_var 1) ma_nil)) (ma_cons (me_callB cr_lenD T.n_len bb_len (ma_cons (me_var 3) ma_nil)) ma_nil)))))) ma_nil)))))))
theorem ok_run_machine (T : Tx K mg cl) : FnG P w K mg base CX0 1 T.f_run_machine.a T.f_run_machine.fd ps_run_machine (spN ⟨K, cl⟩ 2 F_run_machine) :=
  funN T.f_run_machine.F sc_run_machine rfl rfl fun cdv A outer s H E hr hg => by
    have hu64 := hr.units
    have hu1 := hu_of hr
    unfold b_run_machine
    exact (mss_cons (ms_asg (me_var 0) (mg_tup rfl (mgs_cons (mg_name (i := 2) sc_run_machine.nd) (mgs_cons (mg_name (i := 3) sc_run_machine.nd) (mgs_cons (mg_name (i := 4) sc_run_machine.nd) mgs_nil)))))
 (mss_cons (ms_asg me_int (mg_name (i := 5) sc_run_machine.nd))
 (mss_cons (ms_for PassesOwn.never rfl (mi_any (me_var 1)) (mg_name (i := 6) sc_run_machine.nd)
 (mss_cons (ms_asg (me_ix hu1 (me_ix hu1 (me_ix hu1 (me_var 4) (me_var 5)) me_int) (me_bm (.inr (.inl rfl)) PySem.F.plainAttrs_str PySem.F.slot_str_index PySem.F.type_str_index mt_sindexD (me_var 2) (ma_cons (me_var 6) ma_nil))) (mg_tup rfl (mgs_cons (mg_name (i := 7) sc_run_machine.nd) (mgs_cons (mg_name (i := 5) sc_run_machine.nd) mgs_nil))))
 (mss_one (ms_aug (i := 3) sc_run_machine.nd ir_add (me_var 7)))))
 (mss_cons (ms_asg (me_ix hu1 (me_ix hu1 (me_var 4) (me_var 5)) me_int) (mg_tup rfl (mgs_cons (mg_name (i := 8) sc_run_machine.nd) (mgs_cons (mg_name (i := 9) sc_run_machine.nd) mgs_nil))))
 (mss_one (ms_ret (me_tup (ma_cons (me_op2 or_add (me_var 3) (me_var 8)) (ma_cons (me_var 9) ma_nil)))))))))
theorem ok__law_open (T : Tx K mg cl) : FnG P w K mg base CX0 1 T.f__law_open.a T.f__law_open.fd ps__law_open (spN ⟨K, cl⟩ 1 F__law_open) :=
  funN T.f__law_open.F sc__law_open rfl rfl fun cdv A outer s H E hr hg => by
    have hu64 := hr.units
    have hu1 := hu_of hr
    unfold b__law_open
    exact (mss_cons (ms_asg (me_callTy (cr_listD rfl) T.n_list bb_list (ma_cons (me_sl (me_var 0) mp_none (mp_some me_int)) ma_nil)) (mg_name (i := 1) sc__law_open.nd))
 (mss_cons (ms_for PassesOwn.never rfl (mi_enum T.n_enumerate (me_sl (me_var 0) (mp_some me_int) (mp_some me_int))) (mg_tup rfl (mgs_cons (mg_name (i := 2) sc__law_open.nd) (mgs_cons (mg_name (i := 3) sc__law_open.nd) mgs_nil)))
 (mss_one (ms_asg (me_op2 or_add (me_ix hu1 (me_var 1) (me_op2 or_mod (me_var 2) me_int)) (me_var 3)) (mg_sub hu1 (me_var 1) (me_op2 or_mod (me_var 2) me_int)))))
 (mss_one (ms_ret (me_lst (ma_cons (me_var 1) (ma_cons me_int (ma_cons me_int ma_nil))))))))
theorem ok__law_spread (T : Tx K mg cl) : FnG P w K mg base CX0 1 T.f__law_spread.a T.f__law_spread.fd ps__law_spread (spN ⟨K, cl⟩ 2 F__law_spread) :=
  funN T.f__law_spread.F sc__law_spread rfl rfl fun cdv A outer s H E hr hg => by
    have hu64 := hr.units
    have hu1 := hu_of hr
    unfold b__law_spread
    exact (mss_cons (ms_if (mt_cmp or_ge (me_var 0) (me_op2 or_pow me_int me_int))
 (mss_one (ms_ret (me_var 0)))
 mss_nil)
 (mss_cons (ms_asg (me_lst (ma_cons me_int (ma_cons me_int (ma_cons me_int (ma_cons me_int (ma_cons me_int (ma_cons me_int (ma_cons me_int (ma_cons me_int ma_nil))))))))) (mg_name (i := 2) sc__law_spread.nd))
 (mss_cons (ms_asg (me_op2 or_add (me_var 2) (me_lst (ma_cons me_int (ma_cons me_int (ma_cons me_int (ma_cons me_int (ma_cons me_int ma_nil))))))) (mg_name (i := 2) sc__law_spread.nd))
 (mss_cons (ms_asg (me_op2 or_mod (me_op2 or_pow (me_op2 or_add (me_op2 or_add (me_op2 or_mul (me_op2 or_mod (me_var 0) me_int) (me_op2 or_add (me_op2 or_mul me_int (me_var 1)) me_int)) (me_op2 or_mul (me_var 1) me_int)) me_int) me_int) (me_ix hu1 (me_var 2) (me_op2 or_mod (me_var 1) me_int))) (mg_name (i := 3) sc__law_spread.nd))
 (mss_cons (ms_asg (me_op2 or_mod (me_op2 or_pow (me_op2 or_add (me_op2 or_add (me_op2 or_mul (me_var 3) (me_op2 or_add (me_var 1) me_int)) (me_op2 or_mod (me_var 0) me_int)) me_int) me_int) (me_ix hu1 (me_var 2) (me_op2 or_mod (me_op2 or_add (me_var 1) me_int) me_int))) (mg_name (i := 4) sc__law_spread.nd))
 (mss_cons (ms_asg (me_op2 or_mod (me_op2 or_pow (me_op2 or_add (me_op2 or_add (me_var 4) (me_op2 or_mod (me_var 3) me_int)) (me_var 1)) me_int) (me_ix hu1 (me_var 2) (me_op2 or_mod (me_op2 or_add (me_var 1) me_int) me_int))) (mg_name (i := 5) sc__law_spread.nd))
 (mss_one (ms_ret (me_op2 or_add (me_op2 or_mul (me_op2 or_add (me_op2 or_mul (me_var 3) me_int) (me_var 4)) me_int) (me_var 5))))))))))
theorem ok__law_take (T : Tx K mg cl) : FnG P w K mg base CX0 2 T.f__law_take.a T.f__law_take.fd ps__law_take (spN ⟨K, cl⟩ 2 F__law_take) :=
  funN T.f__law_take.F sc__law_take rfl rfl fun cdv A outer s H E hr hg => by
    have hu64 := hr.units
    have hu1 := hu_of hr
    unfold b__law_take
    exact (mss_cons (ms_if (mt_cmp or_lt (me_ix hu1 (me_var 0) me_int) (me_var 1))
 (mss_cons (ms_asg (me_ix hu1 (me_var 0) me_int) (mg_name (i := 2) sc__law_take.nd))
 (mss_cons (ms_asg me_int (mg_name (i := 3) sc__law_take.nd))
 (mss_cons (ms_if (mt_cmp or_lt (me_var 2) (me_callB cr_lenD T.n_len bb_len (ma_cons (me_ix hu1 (me_var 0) me_int) ma_nil)))
 (mss_one (ms_asg (me_ix hu1 (me_ix hu1 (me_var 0) me_int) (me_var 2)) (mg_name (i := 3) sc__law_take.nd)))
 (mss_one (ms_if (mt_cmp or_gt (me_callB cr_lenD T.n_len bb_len (ma_cons (me_ix hu1 (me_var 0) me_int) ma_nil)) me_int)
 (mss_one (ms_asg (me_op2 or_mod (me_ix hu1 (me_ix hu1 (me_var 0) me_int) (me_op2 or_mod (me_op2 or_add (me_op2 or_mul (me_var 2) me_int) me_int) (me_callB cr_lenD T.n_len bb_len (ma_cons (me_ix hu1 (me_var 0) me_int) ma_nil)))) (me_op2 or_add (me_op2 or_pow me_int me_int) (me_var 2))) (mg_name (i := 3) sc__law_take.nd)))
 mss_nil)))
 (mss_cons (ms_asg (me_op2 or_add (me_var 2) me_int) (mg_sub hu1 (me_var 0) me_int))
 (mss_one (ms_asg (me_call (ok__law_spread T) (hr.mono (by omega)) hg T.f__law_spread.m T.f__law_spread.k T.f__law_spread.b (ma_cons (me_var 3) (ma_cons (me_var 2) ma_nil))) (mg_sub hu1 (me_var 0) me_int)))))))
 mss_nil)
 (mss_cons (ms_asg (me_op2 or_mod (me_ix hu1 (me_var 0) me_int) (me_var 1)) (mg_name (i := 4) sc__law_take.nd))
 (mss_cons (ms_asg (me_op2 or_fdiv (me_ix hu1 (me_var 0) me_int) (me_var 1)) (mg_sub hu1 (me_var 0) me_int))
 (mss_one (ms_ret (me_var 4))))))
theorem ok__law_sameR (T : Tx K mg cl) : ∀ k : Nat, FnG P w K mg base CX0 (1 + k) T.f__law_same.a T.f__law_same.fd ps__law_same (spN ⟨K, cl⟩ 2 (F__law_sameR k))
  | 0 => FnG.none rfl
  | k + 1 => funN (body := b__law_same (F__law_sameR k)) T.f__law_same.F sc__law_same rfl rfl fun cdv A outer s H E hr hg => by
    have hu64 := hr.units
    have hu1 := hu_of hr
    unfold b__law_same
    exact (mss_cons (ms_if (mw_or (mt_cmp or_is (me_var 1) me_non) (mw_or1 (mt_cmp or_is (me_var 0) me_non))).pt
 (mss_one (ms_ret (me_and (me_cmp or_is (me_var 1) me_non) (me_one (me_cmp or_is (me_var 0) me_non)))))
 mss_nil)
 (mss_cons (ms_if (mw_or (mt_val (me_isi T.n_isinstance T.n_bool bb_bool (me_var 1))) (mw_or1 (mt_val (me_isi T.n_isinstance T.n_bool bb_bool (me_var 0))))).pt
 (mss_one (ms_ret (me_and (me_isi T.n_isinstance T.n_bool bb_bool (me_var 1)) (me_and (me_isi T.n_isinstance T.n_bool bb_bool (me_var 0)) (me_one (me_cmp (or_eq hu64) (me_var 0) (me_var 1)))))))
 mss_nil)
 (mss_cons (ms_if (mt_val (me_isi2 T.n_isinstance T.n_int bb_int T.n_str bb_str (me_var 1)))
 (mss_cons (ms_if (mt_cmp (or_ne hu64) (me_isi T.n_isinstance T.n_int bb_int (me_var 0)) (me_isi T.n_isinstance T.n_int bb_int (me_var 1)))
 (mss_one (ms_ret me_bl))
 mss_nil)
 (mss_one (ms_ret (me_and (me_isi2 T.n_isinstance T.n_int bb_int T.n_str bb_str (me_var 0)) (me_one (me_cmp (or_eq hu64) (me_var 0) (me_var 1)))))))
 mss_nil)
 (mss_cons (ms_if (mw_or (mt_cmp (or_ne hu64) (me_isi T.n_isinstance T.n_tuple bb_tuple (me_var 1)) (me_isi T.n_isinstance T.n_tuple bb_tuple (me_var 0))) (mw_or1 (mt_cmp (or_ne hu64) (me_isi T.n_isinstance T.n_list bb_list (me_var 1)) (me_isi T.n_isinstance T.n_list bb_list (me_var 0))))).pt
 (mss_one (ms_ret me_bl))
 mss_nil)
 (mss_cons (ms_if (mt_cmp (or_ne hu64) (me_callB cr_lenD T.n_len bb_len (ma_cons (me_var 0) ma_nil)) (me_callB cr_lenD T.n_len bb_len (ma_cons (me_var 1) ma_nil)))
 (mss_one (ms_ret me_bl))
 mss_nil)
 (mss_one (ms_ret (me_nin hu64 me_bl (me_lcv rfl sc__law_same.nd (mi_zip T.n_zip (me_var 0) (me_var 1)) (blkOk_by (N := N__law_same) (sc := (defScope s__law_same)) (own := [("_law_one", 2), ("_law_other", 3)]) (by decide +kernel)) (fun _ _ _ _ _ => (mgw_tup rfl (mgsw_cons (mgw_name (i := 2) sc__law_same.nd) (mgsw_cons (mgw_name (i := 3) sc__law_same.nd) mgsw_nil)))) (fun _ _ _ _ _ => mts_nil) (fun _ _ _ _ _ => (me_call (ok__law_sameR T k) hr hg T.f__law_same.m T.f__law_same.k T.f__law_same.b (ma_cons (me_var 2) (ma_cons (me_var 3) ma_nil)))))))))))))
theorem ok__law_same (T : Tx K mg cl) : FnG P w K mg base CX0 13 T.f__law_same.a T.f__law_same.fd ps__law_same (spN ⟨K, cl⟩ 2 F__law_same) := ok__law_sameR T 12
theorem ok__law_draw_alphabet (T : Tx K mg cl) : FnG P w K mg base CX0 3 T.f__law_draw_alphabet.a T.f__law_draw_alphabet.fd ps__law_draw_alphabet (spN ⟨K, cl⟩ 2 F__law_draw_alphabet) :=
  funN T.f__law_draw_alphabet.F sc__law_draw_alphabet rfl rfl fun cdv A outer s H E hr hg => by
    have hu64 := hr.units
    have hu1 := hu_of hr
    unfold b__law_draw_alphabet
    exact (mss_cons (ms_if (mt_cmp (or_eq hu64) (me_call (ok__law_take T) (hr.mono (by omega)) hg T.f__law_take.m T.f__law_take.k T.f__law_take.b (ma_cons (me_var 0) (ma_cons me_int ma_nil))) me_int)
 (mss_one (ms_ret (me_ix hu1 (me_lst (ma_cons me_str (ma_cons me_str (ma_cons me_str ma_nil)))) (me_op2 or_sub (me_var 1) me_int))))
 mss_nil)
 (mss_cons (ms_asg me_str (mg_name (i := 2) sc__law_draw_alphabet.nd))
 (mss_cons (ms_asg (me_tup (ma_cons (me_call (ok__law_take T) (hr.mono (by omega)) hg T.f__law_take.m T.f__law_take.k T.f__law_take.b (ma_cons (me_var 0) (ma_cons (me_callB cr_lenD T.n_len bb_len (ma_cons (me_var 2) ma_nil)) ma_nil))) (ma_cons (me_op2 or_add me_int (me_op2 or_mul me_int (me_call (ok__law_take T) (hr.mono (by omega)) hg T.f__law_take.m T.f__law_take.k T.f__law_take.b (ma_cons (me_var 0) (ma_cons me_int ma_nil))))) ma_nil))) (mg_tup rfl (mgs_cons (mg_name (i := 3) sc__law_draw_alphabet.nd) (mgs_cons (mg_name (i := 4) sc__law_draw_alphabet.nd) mgs_nil))))
 (mss_one (ms_ret (me_bm (.inr (.inl rfl)) PySem.F.plainAttrs_str PySem.F.slot_str_join PySem.F.type_str_join mt_joinD me_str (ma_cons (me_sortSet rfl T.n_sorted T.n_set (me_lcv rfl sc__law_draw_alphabet.nd (mi_range1 T.n_range (me_var 1)) (blkOk_by (N := N__law_draw_alphabet) (sc := (defScope s__law_draw_alphabet)) (own := [("_law_k", 5)]) (by decide +kernel)) (fun _ _ _ _ _ => (mgw_name (i := 5) sc__law_draw_alphabet.nd)) (fun _ _ _ _ _ => mts_nil) (fun _ _ _ _ _ => (me_ix hu1 (me_var 2) (me_op2 or_mod (me_op2 or_add (me_var 3) (me_op2 or_mul (me_var 4) (me_var 5))) (me_callB cr_lenD T.n_len bb_len (ma_cons (me_var 2) ma_nil))))))) ma_nil)))))))
theorem ok__law_draw_text (T : Tx K mg cl) : FnG P w K mg base CX0 3 T.f__law_draw_text.a T.f__law_draw_text.fd ps__law_draw_text (spN ⟨K, cl⟩ 3 F__law_draw_text) :=
  funN T.f__law_draw_text.F sc__law_draw_text rfl rfl fun cdv A outer s H E hr hg => by
    have hu64 := hr.units
    have hu1 := hu_of hr
    unfold b__law_draw_text
    exact (mss_one (ms_ret (me_bm (.inr (.inl rfl)) PySem.F.plainAttrs_str PySem.F.slot_str_join PySem.F.type_str_join mt_joinD me_str (ma_cons (me_lcv rfl sc__law_draw_text.nd (mi_range1 T.n_range (me_call (ok__law_take T) (hr.mono (by omega)) hg T.f__law_take.m T.f__law_take.k T.f__law_take.b (ma_cons (me_var 0) (ma_cons (me_op2 or_add (me_var 2) me_int) ma_nil)))) (blkOk_by (N := N__law_draw_text) (sc := (defScope s__law_draw_text)) (own := [("_law_k", 3)]) (by decide +kernel)) (fun _ _ _ _ _ => (mgw_name (i := 3) sc__law_draw_text.nd)) (fun _ _ _ _ _ => mts_nil) (fun _ _ _ _ _ => (me_ix hu1 (me_var 1) (me_call (ok__law_take T) (hr.mono (by omega)) hg T.f__law_take.m T.f__law_take.k T.f__law_take.b (ma_cons (me_var 0) (ma_cons (me_callB cr_lenD T.n_len bb_len (ma_cons (me_var 1) ma_nil)) ma_nil)))))) ma_nil))))
theorem ok__law_draw_short (T : Tx K mg cl) : FnG P w K mg base CX0 3 T.f__law_draw_short.a T.f__law_draw_short.fd ps__law_draw_short (spN ⟨K, cl⟩ 1 F__law_draw_short) :=
  funN T.f__law_draw_short.F sc__law_draw_short rfl rfl fun cdv A outer s H E hr hg => by
    have hu64 := hr.units
    have hu1 := hu_of hr
    unfold b__law_draw_short
    exact (mss_one (ms_ret (me_ix hu1 (me_lst (ma_cons me_str (ma_cons me_str (ma_cons me_str (ma_cons me_str (ma_cons me_str (ma_cons me_str (ma_cons me_str (ma_cons me_str (ma_cons me_str (ma_cons me_str (ma_cons me_str (ma_cons me_str ma_nil))))))))))))) (me_call (ok__law_take T) (hr.mono (by omega)) hg T.f__law_take.m T.f__law_take.k T.f__law_take.b (ma_cons (me_var 0) (ma_cons me_int ma_nil))))))
theorem ok__law_draw_machine (T : Tx K mg cl) : FnG P w K mg base CX0 4 T.f__law_draw_machine.a T.f__law_draw_machine.fd ps__law_draw_machine (spN ⟨K, cl⟩ 3 F__law_draw_machine) :=
  funN T.f__law_draw_machine.F sc__law_draw_machine rfl rfl fun cdv A outer s H E hr hg => by
    have hu64 := hr.units
    have hu1 := hu_of hr
    unfold b__law_draw_machine
    exact (mss_cons (ms_asg (me_tup (ma_cons (me_op2 or_add me_int (me_call (ok__law_take T) (hr.mono (by omega)) hg T.f__law_take.m T.f__law_take.k T.f__law_take.b (ma_cons (me_var 0) (ma_cons (me_var 2) ma_nil)))) (ma_cons (me_lst ma_nil) ma_nil))) (mg_tup rfl (mgs_cons (mg_name (i := 3) sc__law_draw_machine.nd) (mgs_cons (mg_name (i := 4) sc__law_draw_machine.nd) mgs_nil))))
 (mss_cons (ms_for PassesOwn.never rfl (mi_range1 T.n_range (me_var 3)) (mg_name (i := 5) sc__law_draw_machine.nd)
 (mss_cons (ms_asg (me_callTy cr_tupD T.n_tuple bb_tuple (ma_cons (me_lcv rfl sc__law_draw_machine.nd (mi_any (me_var 1)) (blkOk_by (N := N__law_draw_machine) (sc := (defScope s__law_draw_machine)) (own := [("_law_letter", 7)]) (by decide +kernel)) (fun _ _ _ _ _ => (mgw_name (i := 7) sc__law_draw_machine.nd)) (fun _ _ _ _ _ => mts_nil) (fun _ _ _ _ _ => (me_tup (ma_cons (me_call (ok__law_draw_short T) (hr.mono (by omega)) hg T.f__law_draw_short.m T.f__law_draw_short.k T.f__law_draw_short.b (ma_cons (me_var 0) ma_nil)) (ma_cons (me_call (ok__law_take T) (hr.mono (by omega)) hg T.f__law_take.m T.f__law_take.k T.f__law_take.b (ma_cons (me_var 0) (ma_cons (me_var 3) ma_nil))) ma_nil))))) ma_nil)) (mg_name (i := 6) sc__law_draw_machine.nd))
 (mss_one (ms_expr (me_bm (.inl rfl) PySem.F.plainAttrs_list PySem.F.slot_list_append PySem.F.type_list_append mt_appendD (me_var 4) (ma_cons (me_tup (ma_cons (me_var 6) (ma_cons (me_tup (ma_cons (me_call (ok__law_draw_short T) (hr.mono (by omega)) hg T.f__law_draw_short.m T.f__law_draw_short.k T.f__law_draw_short.b (ma_cons (me_var 0) ma_nil)) (ma_cons (me_ix hu1 (me_lst (ma_cons me_str (ma_cons me_str (ma_cons me_str (ma_cons me_str ma_nil))))) (me_call (ok__law_take T) (hr.mono (by omega)) hg T.f__law_take.m T.f__law_take.k T.f__law_take.b (ma_cons (me_var 0) (ma_cons me_int ma_nil)))) ma_nil))) ma_nil))) ma_nil))))))
 (mss_one (ms_ret (me_tup (ma_cons (me_var 1) (ma_cons (me_call (ok__law_draw_short T) (hr.mono (by omega)) hg T.f__law_draw_short.m T.f__law_draw_short.k T.f__law_draw_short.b (ma_cons (me_var 0) ma_nil)) (ma_cons (me_callTy cr_tupD T.n_tuple bb_tuple (ma_cons (me_var 4) ma_nil)) ma_nil))))))))
theorem ok__law_outcome (T : Tx K mg cl) : FnG P w K mg base CX0 1 T.f__law_outcome.a T.f__law_outcome.fd ps__law_outcome (spN ⟨K, cl⟩ 2 F__law_outcome) :=
  funN T.f__law_outcome.F sc__law_outcome rfl rfl fun cdv A outer s H E hr hg => by
    have hu64 := hr.units
    have hu1 := hu_of hr
    unfold b__law_outcome
    exact (mss_cons (ms_par (i := 2) (j := 3) rfl sc__law_outcome.nd (ma_cons (me_ix hu1 (me_var 0) me_int) (ma_cons me_int ma_nil)))
 (mss_cons (ms_for PassesOwn.never rfl (mi_any (me_var 1)) (mg_name (i := 4) sc__law_outcome.nd)
 (mss_cons (ms_asg (me_ix hu1 (me_ix hu1 (me_ix hu1 (me_ix hu1 (me_var 0) me_int) (me_var 3)) me_int) (me_bm (.inr (.inl rfl)) PySem.F.plainAttrs_str PySem.F.slot_str_index PySem.F.type_str_index mt_sindexD (me_ix hu1 (me_var 0) me_int) (ma_cons (me_var 4) ma_nil))) (mg_tup rfl (mgs_cons (mg_name (i := 5) sc__law_outcome.nd) (mgs_cons (mg_name (i := 3) sc__law_outcome.nd) mgs_nil))))
 (mss_one (ms_asg (me_op2 or_add (me_var 2) (me_var 5)) (mg_name (i := 2) sc__law_outcome.nd)))))
 (mss_cons (ms_asg (me_ix hu1 (me_ix hu1 (me_ix hu1 (me_var 0) me_int) (me_var 3)) me_int) (mg_tup rfl (mgs_cons (mg_name (i := 6) sc__law_outcome.nd) (mgs_cons (mg_name (i := 7) sc__law_outcome.nd) mgs_nil))))
 (mss_one (ms_ret (me_tup (ma_cons (me_op2 or_add (me_var 2) (me_var 6)) (ma_cons (me_var 7) ma_nil))))))))
theorem ok__law_is_index (T : Tx K mg cl) : FnG P w K mg base CX0 1 T.f__law_is_index.a T.f__law_is_index.fd ps__law_is_index (spN ⟨K, cl⟩ 2 F__law_is_index) :=
  funN T.f__law_is_index.F sc__law_is_index rfl rfl fun cdv A outer s H E hr hg => by
    have hu64 := hr.units
    have hu1 := hu_of hr
    unfold b__law_is_index
    exact (mss_one (ms_ret (me_and (me_isi T.n_isinstance T.n_int bb_int (me_var 0)) (me_and (me_not (me_isi T.n_isinstance T.n_bool bb_bool (me_var 0))) (me_one (me_chain or_le or_lt me_int (me_var 0) (me_var 1)))))))
theorem ok__law_is_text (T : Tx K mg cl) : FnG P w K mg base CX0 1 T.f__law_is_text.a T.f__law_is_text.fd ps__law_is_text (spN ⟨K, cl⟩ 1 F__law_is_text) :=
  funN T.f__law_is_text.F sc__law_is_text rfl rfl fun cdv A outer s H E hr hg => by
    have hu64 := hr.units
    have hu1 := hu_of hr
    unfold b__law_is_text
    exact (mss_one (ms_ret (me_and (me_isi T.n_isinstance T.n_str bb_str (me_var 0)) (me_one (me_cmp (or_eq hu64) (me_lcv rfl sc__law_is_text.nd (mi_any (me_var 0)) (blkOk_by (N := N__law_is_text) (sc := (defScope s__law_is_text)) (own := [("_law_sign", 1)]) (by decide +kernel)) (fun _ _ _ _ _ => (mgw_name (i := 1) sc__law_is_text.nd)) (fun _ _ _ _ _ => (mts_one (mt_not (mt_chain or_le or_le me_str (me_var 1) me_str)))) (fun _ _ _ _ _ => (me_var 1))) (me_lst ma_nil))))))
theorem ok__law_is_pair (T : Tx K mg cl) : FnG P w K mg base CX0 1 T.f__law_is_pair.a T.f__law_is_pair.fd ps__law_is_pair (spN ⟨K, cl⟩ 1 F__law_is_pair) :=
  funN T.f__law_is_pair.F sc__law_is_pair rfl rfl fun cdv A outer s H E hr hg => by
    have hu64 := hr.units
    have hu1 := hu_of hr
    unfold b__law_is_pair
    exact (mss_one (ms_ret (me_and (me_isi T.n_isinstance T.n_tuple bb_tuple (me_var 0)) (me_one (me_cmp (or_eq hu64) (me_callB cr_lenD T.n_len bb_len (ma_cons (me_var 0) ma_nil)) me_int)))))
theorem ok__law_is_state (T : Tx K mg cl) : FnG P w K mg base CX0 2 T.f__law_is_state.a T.f__law_is_state.fd ps__law_is_state (spN ⟨K, cl⟩ 3 F__law_is_state) :=
  funN T.f__law_is_state.F sc__law_is_state rfl rfl fun cdv A outer s H E hr hg => by
    have hu64 := hr.units
    have hu1 := hu_of hr
    unfold b__law_is_state
    exact (mss_cons (ms_if (mw_or (mt_not (mt_val (me_call (ok__law_is_pair T) (hr.mono (by omega)) hg T.f__law_is_pair.m T.f__law_is_pair.k T.f__law_is_pair.b (ma_cons (me_var 0) ma_nil)))) (mw_or (mt_not (mt_val (me_isi T.n_isinstance T.n_tuple bb_tuple (me_ix hu1 (me_var 0) me_int)))) (mw_or1 (mt_cmp (or_ne hu64) (me_callB cr_lenD T.n_len bb_len (ma_cons (me_ix hu1 (me_var 0) me_int) ma_nil)) (me_var 1))))).pt
 (mss_one (ms_ret me_bl))
 mss_nil)
 (mss_cons (ms_for PassesOwn.never rfl (mi_any (me_ix hu1 (me_var 0) me_int)) (mg_name (i := 3) sc__law_is_state.nd)
 (mss_one (ms_if (mw_or (mt_not (mt_val (me_call (ok__law_is_pair T) (hr.mono (by omega)) hg T.f__law_is_pair.m T.f__law_is_pair.k T.f__law_is_pair.b (ma_cons (me_var 3) ma_nil)))) (mw_or (mt_not (mt_val (me_call (ok__law_is_text T) (hr.mono (by omega)) hg T.f__law_is_text.m T.f__law_is_text.k T.f__law_is_text.b (ma_cons (me_ix hu1 (me_var 3) me_int) ma_nil)))) (mw_or1 (mt_not (mt_val (me_call (ok__law_is_index T) (hr.mono (by omega)) hg T.f__law_is_index.m T.f__law_is_index.k T.f__law_is_index.b (ma_cons (me_ix hu1 (me_var 3) me_int) (ma_cons (me_var 2) ma_nil)))))))).pt
 (mss_one (ms_ret me_bl))
 mss_nil)))
 (mss_one (ms_ret (me_and (me_call (ok__law_is_pair T) (hr.mono (by omega)) hg T.f__law_is_pair.m T.f__law_is_pair.k T.f__law_is_pair.b (ma_cons (me_ix hu1 (me_var 0) me_int) ma_nil)) (me_and (me_call (ok__law_is_text T) (hr.mono (by omega)) hg T.f__law_is_text.m T.f__law_is_text.k T.f__law_is_text.b (ma_cons (me_ix hu1 (me_ix hu1 (me_var 0) me_int) me_int) ma_nil)) (me_one (me_in hu64 (me_repr hg hu64 T.n_repr (me_ix hu1 (me_ix hu1 (me_var 0) me_int) me_int)) (me_lst (ma_cons me_str (ma_cons me_str ma_nil)))))))))))
theorem ok__law_is_machine (T : Tx K mg cl) : FnG P w K mg base CX0 3 T.f__law_is_machine.a T.f__law_is_machine.fd ps__law_is_machine (spN ⟨K, cl⟩ 1 F__law_is_machine) :=
  funN T.f__law_is_machine.F sc__law_is_machine rfl rfl fun cdv A outer s H E hr hg => by
    have hu64 := hr.units
    have hu1 := hu_of hr
    unfold b__law_is_machine
    exact (mss_cons (ms_if (mw_or (mt_not (mt_val (me_isi T.n_isinstance T.n_tuple bb_tuple (me_var 0)))) (mw_or (mt_cmp (or_ne hu64) (me_callB cr_lenD T.n_len bb_len (ma_cons (me_var 0) ma_nil)) me_int) (mw_or (mt_not (mt_val (me_call (ok__law_is_text T) (hr.mono (by omega)) hg T.f__law_is_text.m T.f__law_is_text.k T.f__law_is_text.b (ma_cons (me_ix hu1 (me_var 0) me_int) ma_nil)))) (mw_or1 (mt_not (mt_val (me_call (ok__law_is_text T) (hr.mono (by omega)) hg T.f__law_is_text.m T.f__law_is_text.k T.f__law_is_text.b (ma_cons (me_ix hu1 (me_var 0) me_int) ma_nil)))))))).pt
 (mss_one (ms_ret me_bl))
 mss_nil)
 (mss_cons (ms_if (mw_or (mt_not (mt_chain or_le or_le me_int (me_callB cr_lenD T.n_len bb_len (ma_cons (me_ix hu1 (me_var 0) me_int) ma_nil)) me_int)) (mw_or1 (mt_cmp (or_ne hu64) (me_callTy (cr_listD rfl) T.n_list bb_list (ma_cons (me_ix hu1 (me_var 0) me_int) ma_nil)) (me_sortSet rfl T.n_sorted T.n_set (me_ix hu1 (me_var 0) me_int))))).pt
 (mss_one (ms_ret me_bl))
 mss_nil)
 (mss_cons (ms_if (mw_or (mt_not (mt_val (me_isi T.n_isinstance T.n_tuple bb_tuple (me_ix hu1 (me_var 0) me_int)))) (mw_or1 (mt_cmp (or_eq hu64) (me_ix hu1 (me_var 0) me_int) (me_tup ma_nil)))).pt
 (mss_one (ms_ret me_bl))
 mss_nil)
 (mss_one (ms_ret (me_nin hu64 me_bl (me_lcv rfl sc__law_is_machine.nd (mi_any (me_ix hu1 (me_var 0) me_int)) (blkOk_by (N := N__law_is_machine) (sc := (defScope s__law_is_machine)) (own := [("_law_one", 1)]) (by decide +kernel)) (fun _ _ _ _ _ => (mgw_name (i := 1) sc__law_is_machine.nd)) (fun _ _ _ _ _ => mts_nil) (fun _ _ _ _ _ => (me_call (ok__law_is_state T) (hr.mono (by omega)) hg T.f__law_is_state.m T.f__law_is_state.k T.f__law_is_state.b (ma_cons (me_var 1) (ma_cons (me_callB cr_lenD T.n_len bb_len (ma_cons (me_ix hu1 (me_var 0) me_int) ma_nil)) (ma_cons (me_callB cr_lenD T.n_len bb_len (ma_cons (me_ix hu1 (me_var 0) me_int) ma_nil)) ma_nil))))))))))))
theorem ok__law_bendR (T : Tx K mg cl) : ∀ k : Nat, FnG P w K mg base CX0 (3 + k) T.f__law_bend.a T.f__law_bend.fd ps__law_bend (spN ⟨K, cl⟩ 2 (F__law_bendR k))
  | 0 => FnG.none rfl
  | k + 1 => funN (body := b__law_bend (F__law_bendR k)) T.f__law_bend.F sc__law_bend rfl rfl fun cdv A outer s H E hr hg => by
    have hu64 := hr.units
    have hu1 := hu_of hr
    unfold b__law_bend
    exact (mss_cons (ms_if (mw_or (mt_not (mt_val (me_isi T.n_isinstance T.n_tuple bb_tuple (me_var 1)))) (mw_or (mt_cmp (or_eq hu64) (me_var 1) (me_tup ma_nil)) (mw_or1 (mt_cmp (or_eq hu64) (me_call (ok__law_take T) (hr.mono (Nat.le_trans (by decide : 2 ≤ 3) (Nat.le_add_right 3 k))) hg T.f__law_take.m T.f__law_take.k T.f__law_take.b (ma_cons (me_var 0) (ma_cons me_int ma_nil))) me_int)))).pt
 (mss_cons (ms_asg (me_lst (ma_cons me_non (ma_cons me_bl (ma_cons me_bl (ma_cons me_int (ma_cons me_int (ma_cons me_int (ma_cons me_int (ma_cons (me_un ur_neg me_int) (ma_cons me_str (ma_cons me_str (ma_cons me_str (ma_cons me_str (ma_cons me_str (ma_cons me_str (ma_cons me_str (ma_cons me_str (ma_cons (me_tup ma_nil) (ma_cons (me_lst ma_nil) (ma_cons me_dict0 ma_nil)))))))))))))))))))) (mg_name (i := 2) sc__law_bend.nd))
 (mss_one (ms_ret (me_ix hu1 (me_op2 or_add (me_var 2) (me_lst (ma_cons me_str (ma_cons me_str (ma_cons me_str ma_nil))))) (me_call (ok__law_take T) (hr.mono (Nat.le_trans (by decide : 2 ≤ 3) (Nat.le_add_right 3 k))) hg T.f__law_take.m T.f__law_take.k T.f__law_take.b (ma_cons (me_var 0) (ma_cons me_int ma_nil)))))))
 mss_nil)
 (mss_cons (ms_par (i := 3) (j := 4) rfl sc__law_bend.nd (ma_cons (me_call (ok__law_take T) (hr.mono (Nat.le_trans (by decide : 2 ≤ 3) (Nat.le_add_right 3 k))) hg T.f__law_take.m T.f__law_take.k T.f__law_take.b (ma_cons (me_var 0) (ma_cons (me_callB cr_lenD T.n_len bb_len (ma_cons (me_var 1) ma_nil)) ma_nil))) (ma_cons (me_call (ok__law_take T) (hr.mono (Nat.le_trans (by decide : 2 ≤ 3) (Nat.le_add_right 3 k))) hg T.f__law_take.m T.f__law_take.k T.f__law_take.b (ma_cons (me_var 0) (ma_cons me_int ma_nil))) ma_nil)))
 (mss_cons (ms_if (mt_cmp or_lt (me_var 4) me_int)
 (mss_one (ms_ret (me_op2 or_add (me_op2 or_add (me_sl (me_var 1) mp_none (mp_some (me_var 3))) (me_tup (ma_cons (me_call (ok__law_bendR T k) hr hg T.f__law_bend.m T.f__law_bend.k T.f__law_bend.b (ma_cons (me_var 0) (ma_cons (me_ix hu1 (me_var 1) (me_var 3)) ma_nil))) ma_nil))) (me_sl (me_var 1) (mp_some (me_op2 or_add (me_var 3) me_int)) mp_none))))
 mss_nil)
 (mss_one (ms_ret (me_ix hu1 (me_lst (ma_cons (me_op2 or_add (me_sl (me_var 1) mp_none (mp_some (me_var 3))) (me_sl (me_var 1) (mp_some (me_op2 or_add (me_var 3) me_int)) mp_none)) (ma_cons (me_op2 or_add (me_sl (me_var 1) mp_none (mp_some (me_op2 or_add (me_var 3) me_int))) (me_sl (me_var 1) (mp_some (me_var 3)) mp_none)) (ma_cons (me_callTy (cr_listD rfl) T.n_list bb_list (ma_cons (me_var 1) ma_nil)) ma_nil)))) (me_op2 or_sub (me_var 4) me_int)))))))
theorem ok__law_bend (T : Tx K mg cl) : FnG P w K mg base CX0 15 T.f__law_bend.a T.f__law_bend.fd ps__law_bend (spN ⟨K, cl⟩ 2 F__law_bend) := ok__law_bendR T 12
theorem ok_law (T : Tx K mg cl) : FnG P w K mg base CX0 16 T.f_law.a T.f_law.fd ps_law (spN ⟨K, cl⟩ 1 F_law) :=
  funN T.f_law.F sc_law rfl rfl fun cdv A outer s H E hr hg => by
    have hu64 := hr.units
    have hu1 := hu_of hr
    unfold b_law
    exact (mss_cons (ms_asg (me_call (ok__law_open T) (hr.mono (by omega)) hg T.f__law_open.m T.f__law_open.k T.f__law_open.b (ma_cons (me_var 0) ma_nil)) (mg_name (i := 1) sc_law.nd))
 (mss_cons (ms_for PassesOwn.never rfl (mi_range1 T.n_range me_int) (mg_name (i := 2) sc_law.nd)
 (mss_cons (ms_asg (me_call (ok__law_draw_machine T) (hr.mono (by omega)) hg T.f__law_draw_machine.m T.f__law_draw_machine.k T.f__law_draw_machine.b (ma_cons (me_var 1) (ma_cons (me_call (ok__law_draw_alphabet T) (hr.mono (by omega)) hg T.f__law_draw_alphabet.m T.f__law_draw_alphabet.k T.f__law_draw_alphabet.b (ma_cons (me_var 1) (ma_cons (me_op2 or_add me_int (me_call (ok__law_take T) (hr.mono (by omega)) hg T.f__law_take.m T.f__law_take.k T.f__law_take.b (ma_cons (me_var 1) (ma_cons me_int ma_nil)))) ma_nil))) (ma_cons me_int ma_nil)))) (mg_name (i := 3) sc_law.nd))
 (mss_cons (ms_if (mt_cmp or_isnot (me_call (ok_is_machine T) (hr.mono (by omega)) hg T.f_is_machine.m T.f_is_machine.k T.f_is_machine.b (ma_cons (me_var 3) ma_nil)) me_bl)
 (mss_one (ms_ret me_bl))
 mss_nil)
 (mss_cons (ms_asg (me_op2 or_add (me_lst (ma_cons (me_var 3) ma_nil)) (me_lcv rfl sc_law.nd (mi_range1 T.n_range me_int) (blkOk_by (N := N_law) (sc := (defScope s_law)) (own := [("_law_again", 4)]) (by decide +kernel)) (fun _ _ _ _ _ => (mgw_name (i := 4) sc_law.nd)) (fun _ _ _ _ _ => mts_nil) (fun _ _ _ _ _ => (me_call (ok__law_bend T) (hr.mono (by omega)) hg T.f__law_bend.m T.f__law_bend.k T.f__law_bend.b (ma_cons (me_var 1) (ma_cons (me_var 3) ma_nil)))))) (mg_name (i := 5) sc_law.nd))
 (mss_cons (ms_expr (me_bm (.inl rfl) PySem.F.plainAttrs_list PySem.F.slot_list_append PySem.F.type_list_append mt_appendD (me_var 5) (ma_cons (me_call (ok__law_bend T) (hr.mono (by omega)) hg T.f__law_bend.m T.f__law_bend.k T.f__law_bend.b (ma_cons (me_var 1) (ma_cons (me_ix hu1 (me_var 5) (me_un ur_neg me_int)) ma_nil))) ma_nil)))
 (mss_cons (ms_expr (me_bm (.inl rfl) PySem.F.plainAttrs_list PySem.F.slot_list_append PySem.F.type_list_append mt_appendD (me_var 5) (ma_cons (me_tup (ma_cons (me_ix hu1 (me_var 3) me_int) (ma_cons (me_op2 or_mul me_str me_int) (ma_cons (me_op2 or_mul (me_ix hu1 (me_var 3) me_int) me_int) ma_nil)))) ma_nil)))
 (mss_cons (ms_expr (me_bm (.inl rfl) PySem.F.plainAttrs_list PySem.F.slot_list_append PySem.F.type_list_append mt_appendD (me_var 5) (ma_cons (me_tup (ma_cons me_str (ma_cons me_str (ma_cons (me_op2 or_mul (me_tup (ma_cons (me_tup (ma_cons (me_tup (ma_cons (me_tup (ma_cons (me_op2 or_mul me_str me_int) (ma_cons me_int ma_nil))) ma_nil)) (ma_cons (me_tup (ma_cons (me_op2 or_mul me_str me_int) (ma_cons me_str ma_nil))) ma_nil))) ma_nil)) me_int) ma_nil)))) ma_nil)))
 (mss_cons (ms_asg (me_op2 or_add (me_var 5) (me_lst (ma_cons (me_call (ok__law_draw_machine T) (hr.mono (by omega)) hg T.f__law_draw_machine.m T.f__law_draw_machine.k T.f__law_draw_machine.b (ma_cons (me_var 1) (ma_cons me_str (ma_cons me_int ma_nil)))) (ma_cons (me_tup (ma_cons (me_tup (ma_cons (me_ix hu1 (me_var 3) me_int) ma_nil)) (ma_cons (me_ix hu1 (me_var 3) me_int) (ma_cons (me_ix hu1 (me_var 3) me_int) ma_nil)))) ma_nil)))) (mg_name (i := 5) sc_law.nd))
 (mss_cons (ms_asg (me_ix hu1 (me_lst (ma_cons me_str (ma_cons me_str (ma_cons me_str (ma_cons me_str (ma_cons me_str (ma_cons me_str ma_nil))))))) (me_call (ok__law_take T) (hr.mono (by omega)) hg T.f__law_take.m T.f__law_take.k T.f__law_take.b (ma_cons (me_var 1) (ma_cons me_int ma_nil)))) (mg_name (i := 6) sc_law.nd))
 (mss_cons (ms_asg (me_op2 or_add (me_var 5) (me_lst (ma_cons (me_call (ok__law_draw_machine T) (hr.mono (by omega)) hg T.f__law_draw_machine.m T.f__law_draw_machine.k T.f__law_draw_machine.b (ma_cons (me_var 1) (ma_cons (me_var 6) (ma_cons me_int ma_nil)))) (ma_cons (me_tup (ma_cons (me_callTy (cr_listD rfl) T.n_list bb_list (ma_cons (me_ix hu1 (me_var 3) me_int) ma_nil)) (ma_cons (me_ix hu1 (me_var 3) me_int) (ma_cons (me_ix hu1 (me_var 3) me_int) ma_nil)))) ma_nil)))) (mg_name (i := 5) sc_law.nd))
 (mss_cons (ms_for PassesOwn.never rfl (mi_any (me_var 5)) (mg_name (i := 7) sc_law.nd)
 (mss_cons (ms_asg (me_repr hg hu64 T.n_repr (me_var 7)) (mg_name (i := 8) sc_law.nd))
 (mss_one (ms_if (mw_or (mt_not (mt_val (me_call (ok__law_same T) (hr.mono (by omega)) hg T.f__law_same.m T.f__law_same.k T.f__law_same.b (ma_cons (me_call (ok_is_machine T) (hr.mono (by omega)) hg T.f_is_machine.m T.f_is_machine.k T.f_is_machine.b (ma_cons (me_var 7) ma_nil)) (ma_cons (me_call (ok__law_is_machine T) (hr.mono (by omega)) hg T.f__law_is_machine.m T.f__law_is_machine.k T.f__law_is_machine.b (ma_cons (me_var 7) ma_nil)) ma_nil))))) (mw_or1 (mt_cmp (or_ne hu64) (me_repr hg hu64 T.n_repr (me_var 7)) (me_var 8)))).pt
 (mss_one (ms_ret me_bl))
 mss_nil))))
 (mss_one (ms_for PassesOwn.never rfl (mi_range1 T.n_range me_int) (mg_name (i := 4) sc_law.nd)
 (mss_cons (ms_asg (me_op2 or_mul (me_call (ok__law_draw_text T) (hr.mono (by omega)) hg T.f__law_draw_text.m T.f__law_draw_text.k T.f__law_draw_text.b (ma_cons (me_var 1) (ma_cons (me_ix hu1 (me_var 3) me_int) (ma_cons me_int ma_nil)))) (me_ix hu1 (me_lst (ma_cons me_int (ma_cons me_int (ma_cons me_int ma_nil)))) (me_call (ok__law_take T) (hr.mono (by omega)) hg T.f__law_take.m T.f__law_take.k T.f__law_take.b (ma_cons (me_var 1) (ma_cons me_int ma_nil))))) (mg_name (i := 9) sc_law.nd))
 (mss_one (ms_if (mt_not (mt_val (me_call (ok__law_same T) (hr.mono (by omega)) hg T.f__law_same.m T.f__law_same.k T.f__law_same.b (ma_cons (me_call (ok_run_machine T) (hr.mono (by omega)) hg T.f_run_machine.m T.f_run_machine.k T.f_run_machine.b (ma_cons (me_var 3) (ma_cons (me_var 9) ma_nil))) (ma_cons (me_call (ok__law_outcome T) (hr.mono (by omega)) hg T.f__law_outcome.m T.f__law_outcome.k T.f__law_outcome.b (ma_cons (me_var 3) (ma_cons (me_var 9) ma_nil))) ma_nil)))))
 (mss_one (ms_ret me_bl))
 mss_nil))))))))))))))))
 (mss_one (ms_ret me_bl))))
end
end K50
end
section
set_option Elab.async false
set_option linter.all false
set_option maxRecDepth 100000
set_option maxHeartbeats 1000000
/-! K50: the law's plain part. -/
namespace K50
open PySem PySem.Spec PyProof.Rows L2 Mp Pen
theorem law_split : b_law = sSeq (sAsg (mCall (callN 1 F__law_open) (mCons (mVar 0) mNil)) (gNm 1)) (sSeq (sFor (mRange1 (mC (.int 5))) (gNm 2) b_turn) (sRet (mC (.bl true)))) := rfl
theorem law_ok (ns : List Int) : Ok (F_law [.kl (ns.map .int)] []) fun r _ => r = .bl true := by
  unfold F_law
  rw [Ok_fn]
  refine ⟨rfl, ?_⟩
  rw [law_split]
  rw [wS_seq]
  simp only [wS_seq, wS_if, wS_asg, wS_ret, wS_expr, wS_skip, wS_par, wS_retN, wS_brk, wS_cnt, wE_C, wE_v, slot_zero, slot_succ, wE_1, wE_2, wE_nil, wE_cons, wE_tup, wE_lst, wE_call, Ok_callN, wE_if, wE_tval, wE_tb1, wE_tand, wE_tor, wE_tnot, wE_and, wE_or, wE_not, wE_chain, wE_bm, wE_repr, wE_sl, wE_pN, wE_tyes, wE_it, wE_dict0, Ok_gNm, Ok_gTp, Ok_gNil, Ok_gCons, Ok_gSb, Ok_ok, isB_bl, truth_bl, List.set_cons_zero, List.set_cons_succ, List.map_cons, List.map_nil, List.cons_append, List.nil_append, List.replicate_succ, List.replicate_zero, List.length_cons, List.length_nil, wipeD, wE_pS, intOf_int, wE_enum, wE_sort, wE_range1]
  refine ⟨trivial, ?_⟩
  refine Mp.Ok.mono (open_ok ns) ?_
  rintro r s1 ⟨pen, rfl, p1⟩
  refine wS_for ?_
  simp only [wS_seq, wS_if, wS_asg, wS_ret, wS_expr, wS_skip, wS_par, wS_retN, wS_brk, wS_cnt, wE_C, wE_v, slot_zero, slot_succ, wE_1, wE_2, wE_nil, wE_cons, wE_tup, wE_lst, wE_call, Ok_callN, wE_if, wE_tval, wE_tb1, wE_tand, wE_tor, wE_tnot, wE_and, wE_or, wE_not, wE_chain, wE_bm, wE_repr, wE_sl, wE_pN, wE_tyes, wE_it, wE_dict0, Ok_gNm, Ok_gTp, Ok_gNil, Ok_gCons, Ok_gSb, Ok_ok, isB_bl, truth_bl, List.set_cons_zero, List.set_cons_succ, List.map_cons, List.map_nil, List.cons_append, List.nil_append, List.replicate_succ, List.replicate_zero, List.length_cons, List.length_nil, wipeD, wE_pS, intOf_int, wE_enum, wE_sort, wE_range1]
  refine ⟨⟨by omega, by omega⟩, fun i ds s => ∃ o2 o3 o4 o5 o6 o7 o8 o9 : Option D, ds = [some (.kl (ns.map .int)), some (.loc pen), o2, o3, o4, o5, o6, o7, o8, o9] ∧ PenAt s pen (2000 * i), ⟨_, _, _, _, _, _, _, _, rfl, by simpa using p1⟩, (fun i ds s _ p hp => nomatch hp), ?_, ?_⟩
  · rintro i x ds s hx ⟨o2, o3, o4, o5, o6, o7, o8, o9, rfl, hp⟩
    obtain ⟨rfl, hi⟩ := range_item hx
    have hi5 : i < 5 := hi
    simp only [Ok_gNm, List.set_cons_zero, List.set_cons_succ]
    exact turn_ok hp (by omega) fun o3 o4 o5 o6 o7 o8 o9 st' p' => ⟨_, _, _, _, _, _, _, _, rfl, p'.mono (by simp; omega)⟩
  · rintro ds s ⟨o2, o3, o4, o5, o6, o7, o8, o9, rfl, hp⟩
    simp only [wS_seq, wS_if, wS_asg, wS_ret, wS_expr, wS_skip, wS_par, wS_retN, wS_brk, wS_cnt, wE_C, wE_v, slot_zero, slot_succ, wE_1, wE_2, wE_nil, wE_cons, wE_tup, wE_lst, wE_call, Ok_callN, wE_if, wE_tval, wE_tb1, wE_tand, wE_tor, wE_tnot, wE_and, wE_or, wE_not, wE_chain, wE_bm, wE_repr, wE_sl, wE_pN, wE_tyes, wE_it, wE_dict0, Ok_gNm, Ok_gTp, Ok_gNil, Ok_gCons, Ok_gSb, Ok_ok, isB_bl, truth_bl, List.set_cons_zero, List.set_cons_succ, List.map_cons, List.map_nil, List.cons_append, List.nil_append, List.replicate_succ, List.replicate_zero, List.length_cons, List.length_nil, wipeD, wE_pS, intOf_int, wE_enum, wE_sort, wE_range1]
theorem law_true : ∀ ns : List Int, ns.length ≤ 63 → ∃ st, F_law [.kl (ns.map .int)] [] = .ok (.bl true) st := fun ns _ => by
  obtain ⟨r, st, e, rfl⟩ := (law_ok ns).ex
  exact ⟨st, e⟩
end K50
end
section
set_option Elab.async false
set_option linter.all false
set_option maxRecDepth 100000
set_option maxHeartbeats 4000000
/-! K50: the end. Printed by gen.py. -/
namespace K50
open PySem PySem.Spec PyProof.Rows L2 Mp
theorem all_mk {l : PySem.W.OpenLaw} {w : World} {K : PySem.W.Frag} {mg : Str → Option Value} {fa : Addr} (hfa : mg "law" = some (.ref fa)) (T : Tx K mg fun _ => 0) :
    ∃ fd : FuncData, (∀ (s : Shared) (v : Value), BindsTo s fd ⟨[v], []⟩ [("_law_script", v)]) ∧ ∀ base : Heap, K.In base → base.Ns mainGlobals mg → FnG l.prog w K mg base CX0 16 fa fd ["_law_script"] (spN ⟨K, fun _ => 0⟩ 1 F_law) := by
  have e := hfa.symm.trans T.f_law.m
  cases e
  exact ⟨T.f_law.fd, fun s v => .of_eq (T.f_law.hb [v] rfl), fun base _ _ => ok_law T⟩
theorem walk {l : PySem.W.OpenLaw} {q : Program} {loose : List Str} {XP : (Str → Option Value) → Heap → Prop} {YP : World → Heap → Prop} {d : DefRec} {K : Params → PySem.W.Frag} (hn : l.most = some 63) (hdf : d.params.defaults = [])
    (hY : ∀ (w : World) (h : Heap), YP w h → (K w.params).In h)
    (F : ∀ (w : World) (mg : Str → Option Value) (fa : Addr) (h : Heap), (K w.params).In h → h.Ns mainGlobals mg → mg d.name = some (.ref fa) →
      ∃ fd : FuncData, (∀ (s : Shared) (u : Value), BindsTo s fd ⟨[u], []⟩ [("_law_script", u)]) ∧ ∀ base : Heap, (K w.params).In base → base.Ns mainGlobals mg → FnG l.prog w (K w.params) mg base CX0 16 fa fd ["_law_script"] (spN ⟨K w.params, fun _ => 0⟩ 1 F_law)) :
    PySem.W.WalkO q loose XP YP l.row.toRowW d [] (fun f vs => PySem.call f vs) :=
  walkG (n := 63) (k := 16) (x := "_law_script") (sp := fun w => spN ⟨K w.params, fun _ => 0⟩ 1 F_law) hn (by decide) hdf ⟨rfl, by decide, by decide⟩ hY F (fun w H a ns hl hO hS => end_of law_true H a ns hl hO hS)
end K50
open PySem PySem.W PyProof.Rows in
set_option maxRecDepth 100000 in
set_option maxHeartbeats 0 in
theorem PySem.Challenge.cw_placeblind_k50_machines_recognized_and_r_holds : PySem.Challenge.rw_placeblind_k50_machines_recognized_and_r.Holds := by
  w_on; o_law; k_head; (case hw => w_witness2)
  k_fill
  refine K50.walk (l := PySem.Challenge.rw_placeblind_k50_machines_recognized_and_r) rfl rfl (fun w h Y => PySem.W.kIn_of Y) ?F
  case F =>
    intro w mg fa h KX G hmg
    refine' K50.all_mk hmg (K50.Tx.mk (Mp.Fd.of KX G ?a_is_integer ?l_is_integer ?c_is_integer ?k_is_integer (fun _ _ _ _ _ _ us hl => match us, hl with | [_], _ => rfl))
      (Mp.Fd.of KX G ?a_is_index ?l_is_index ?c_is_index ?k_is_index (fun _ _ _ _ _ _ us hl => match us, hl with | [_, _], _ => rfl))
      (Mp.Fd.of KX G ?a_is_character ?l_is_character ?c_is_character ?k_is_character (fun _ _ _ _ _ _ us hl => match us, hl with | [_], _ => rfl))
      (Mp.Fd.of KX G ?a_is_alphabet ?l_is_alphabet ?c_is_alphabet ?k_is_alphabet (fun _ _ _ _ _ _ us hl => match us, hl with | [_], _ => rfl))
      (Mp.Fd.of KX G ?a_is_text ?l_is_text ?c_is_text ?k_is_text (fun _ _ _ _ _ _ us hl => match us, hl with | [_], _ => rfl))
      (Mp.Fd.of KX G ?a_is_step ?l_is_step ?c_is_step ?k_is_step (fun _ _ _ _ _ _ us hl => match us, hl with | [_, _], _ => rfl))
      (Mp.Fd.of KX G ?a_is_end ?l_is_end ?c_is_end ?k_is_end (fun _ _ _ _ _ _ us hl => match us, hl with | [_], _ => rfl))
      (Mp.Fd.of KX G ?a_is_state ?l_is_state ?c_is_state ?k_is_state (fun _ _ _ _ _ _ us hl => match us, hl with | [_, _, _], _ => rfl))
      (Mp.Fd.of KX G ?a_is_machine ?l_is_machine ?c_is_machine ?k_is_machine (fun _ _ _ _ _ _ us hl => match us, hl with | [_], _ => rfl))
      (Mp.Fd.of KX G ?a_run_machine ?l_run_machine ?c_run_machine ?k_run_machine (fun _ _ _ _ _ _ us hl => match us, hl with | [_, _], _ => rfl))
      (Mp.Fd.of KX G ?a__law_open ?l__law_open ?c__law_open ?k__law_open (fun _ _ _ _ _ _ us hl => match us, hl with | [_], _ => rfl))
      (Mp.Fd.of KX G ?a__law_spread ?l__law_spread ?c__law_spread ?k__law_spread (fun _ _ _ _ _ _ us hl => match us, hl with | [_, _], _ => rfl))
      (Mp.Fd.of KX G ?a__law_take ?l__law_take ?c__law_take ?k__law_take (fun _ _ _ _ _ _ us hl => match us, hl with | [_, _], _ => rfl))
      (Mp.Fd.of KX G ?a__law_same ?l__law_same ?c__law_same ?k__law_same (fun _ _ _ _ _ _ us hl => match us, hl with | [_, _], _ => rfl))
      (Mp.Fd.of KX G ?a__law_draw_alphabet ?l__law_draw_alphabet ?c__law_draw_alphabet ?k__law_draw_alphabet (fun _ _ _ _ _ _ us hl => match us, hl with | [_, _], _ => rfl))
      (Mp.Fd.of KX G ?a__law_draw_text ?l__law_draw_text ?c__law_draw_text ?k__law_draw_text (fun _ _ _ _ _ _ us hl => match us, hl with | [_, _, _], _ => rfl))
      (Mp.Fd.of KX G ?a__law_draw_short ?l__law_draw_short ?c__law_draw_short ?k__law_draw_short (fun _ _ _ _ _ _ us hl => match us, hl with | [_], _ => rfl))
      (Mp.Fd.of KX G ?a__law_draw_machine ?l__law_draw_machine ?c__law_draw_machine ?k__law_draw_machine (fun _ _ _ _ _ _ us hl => match us, hl with | [_, _, _], _ => rfl))
      (Mp.Fd.of KX G ?a__law_outcome ?l__law_outcome ?c__law_outcome ?k__law_outcome (fun _ _ _ _ _ _ us hl => match us, hl with | [_, _], _ => rfl))
      (Mp.Fd.of KX G ?a__law_is_index ?l__law_is_index ?c__law_is_index ?k__law_is_index (fun _ _ _ _ _ _ us hl => match us, hl with | [_, _], _ => rfl))
      (Mp.Fd.of KX G ?a__law_is_text ?l__law_is_text ?c__law_is_text ?k__law_is_text (fun _ _ _ _ _ _ us hl => match us, hl with | [_], _ => rfl))
      (Mp.Fd.of KX G ?a__law_is_pair ?l__law_is_pair ?c__law_is_pair ?k__law_is_pair (fun _ _ _ _ _ _ us hl => match us, hl with | [_], _ => rfl))
      (Mp.Fd.of KX G ?a__law_is_state ?l__law_is_state ?c__law_is_state ?k__law_is_state (fun _ _ _ _ _ _ us hl => match us, hl with | [_, _, _], _ => rfl))
      (Mp.Fd.of KX G ?a__law_is_machine ?l__law_is_machine ?c__law_is_machine ?k__law_is_machine (fun _ _ _ _ _ _ us hl => match us, hl with | [_], _ => rfl))
      (Mp.Fd.of KX G ?a__law_bend ?l__law_bend ?c__law_bend ?k__law_bend (fun _ _ _ _ _ _ us hl => match us, hl with | [_, _], _ => rfl))
      (Mp.Fd.of KX G ?a_law ?l_law ?c_law ?k_law (fun _ _ _ _ _ _ us hl => match us, hl with | [_], _ => rfl))
      (Mp.cTupS KX G ?n_ENDINGS ?l_ENDINGS ?hc_ENDINGS ?hd_ENDINGS ?hz_ENDINGS ?hv_ENDINGS)
      (Mp.cStr KX G ?n_FIRST_CHARACTER)
      (Mp.cStr KX G ?n_LAST_CHARACTER)
      (Mp.cInt KX G ?n_MAX_LETTERS)
      (Mp.cNone KX G ?n_all)
      (Mp.cNone KX G ?n_bool)
      (Mp.cNone KX G ?n_enumerate)
      (Mp.cNone KX G ?n_int)
      (Mp.cNone KX G ?n_isinstance)
      (Mp.cNone KX G ?n_len)
      (Mp.cNone KX G ?n_list)
      (Mp.cNone KX G ?n_range)
      (Mp.cNone KX G ?n_repr)
      (Mp.cNone KX G ?n_set)
      (Mp.cNone KX G ?n_sorted)
      (Mp.cNone KX G ?n_str)
      (Mp.cNone KX G ?n_tuple)
      (Mp.cNone KX G ?n_zip))
    (case a_is_integer => k_is)
    (case l_is_integer => k_is)
    (case c_is_integer => k_is)
    (case k_is_integer => k_is)
    (case a_is_index => k_is)
    (case l_is_index => k_is)
    (case c_is_index => k_is)
    (case k_is_index => k_is)
    (case a_is_character => k_is)
    (case l_is_character => k_is)
    (case c_is_character => k_is)
    (case k_is_character => k_is)
    (case a_is_alphabet => k_is)
    (case l_is_alphabet => k_is)
    (case c_is_alphabet => k_is)
    (case k_is_alphabet => k_is)
    (case a_is_text => k_is)
    (case l_is_text => k_is)
    (case c_is_text => k_is)
    (case k_is_text => k_is)
    (case a_is_step => k_is)
    (case l_is_step => k_is)
    (case c_is_step => k_is)
    (case k_is_step => k_is)
    (case a_is_end => k_is)
    (case l_is_end => k_is)
    (case c_is_end => k_is)
    (case k_is_end => k_is)
    (case a_is_state => k_is)
    (case l_is_state => k_is)
    (case c_is_state => k_is)
    (case k_is_state => k_is)
    (case a_is_machine => k_is)
    (case l_is_machine => k_is)
    (case c_is_machine => k_is)
    (case k_is_machine => k_is)
    (case a_run_machine => k_is)
    (case l_run_machine => k_is)
    (case c_run_machine => k_is)
    (case k_run_machine => k_is)
    (case a__law_open => k_is)
    (case l__law_open => k_is)
    (case c__law_open => k_is)
    (case k__law_open => k_is)
    (case a__law_spread => k_is)
    (case l__law_spread => k_is)
    (case c__law_spread => k_is)
    (case k__law_spread => k_is)
    (case a__law_take => k_is)
    (case l__law_take => k_is)
    (case c__law_take => k_is)
    (case k__law_take => k_is)
    (case a__law_same => k_is)
    (case l__law_same => k_is)
    (case c__law_same => k_is)
    (case k__law_same => k_is)
    (case a__law_draw_alphabet => k_is)
    (case l__law_draw_alphabet => k_is)
    (case c__law_draw_alphabet => k_is)
    (case k__law_draw_alphabet => k_is)
    (case a__law_draw_text => k_is)
    (case l__law_draw_text => k_is)
    (case c__law_draw_text => k_is)
    (case k__law_draw_text => k_is)
    (case a__law_draw_short => k_is)
    (case l__law_draw_short => k_is)
    (case c__law_draw_short => k_is)
    (case k__law_draw_short => k_is)
    (case a__law_draw_machine => k_is)
    (case l__law_draw_machine => k_is)
    (case c__law_draw_machine => k_is)
    (case k__law_draw_machine => k_is)
    (case a__law_outcome => k_is)
    (case l__law_outcome => k_is)
    (case c__law_outcome => k_is)
    (case k__law_outcome => k_is)
    (case a__law_is_index => k_is)
    (case l__law_is_index => k_is)
    (case c__law_is_index => k_is)
    (case k__law_is_index => k_is)
    (case a__law_is_text => k_is)
    (case l__law_is_text => k_is)
    (case c__law_is_text => k_is)
    (case k__law_is_text => k_is)
    (case a__law_is_pair => k_is)
    (case l__law_is_pair => k_is)
    (case c__law_is_pair => k_is)
    (case k__law_is_pair => k_is)
    (case a__law_is_state => k_is)
    (case l__law_is_state => k_is)
    (case c__law_is_state => k_is)
    (case k__law_is_state => k_is)
    (case a__law_is_machine => k_is)
    (case l__law_is_machine => k_is)
    (case c__law_is_machine => k_is)
    (case k__law_is_machine => k_is)
    (case a__law_bend => k_is)
    (case l__law_bend => k_is)
    (case c__law_bend => k_is)
    (case k__law_bend => k_is)
    (case a_law => k_is)
    (case l_law => k_is)
    (case c_law => k_is)
    (case k_law => k_is)
    (case n_ENDINGS => k_is)
    (case l_ENDINGS => k_is)
    (case hc_ENDINGS => rfl)
    (case hd_ENDINGS => rfl)
    (case hz_ENDINGS => decide)
    (case hv_ENDINGS => repeat (first | exact .nil | refine .cons ⟨_, rfl⟩ ?_))
    (case n_FIRST_CHARACTER => k_is)
    (case n_LAST_CHARACTER => k_is)
    (case n_MAX_LETTERS => k_is)
    (case n_all => k_is)
    (case n_bool => k_is)
    (case n_enumerate => k_is)
    (case n_int => k_is)
    (case n_isinstance => k_is)
    (case n_len => k_is)
    (case n_list => k_is)
    (case n_range => k_is)
    (case n_repr => k_is)
    (case n_set => k_is)
    (case n_sorted => k_is)
    (case n_str => k_is)
    (case n_tuple => k_is)
    (case n_zip => k_is)
end
