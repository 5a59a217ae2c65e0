import PyProof.Rows.All
import Wide.All
import OpenK.AllK
import Wide.FinOn
import HandS.ForMost
import HandS.ForExc
import HandS.TryMany
import HandS.Flow
import HandS.Style
import HandS.Wide
import HandS.IsInst
import HandS.SetKeys
import HandS.TupSets
import HandS.Zip
import HandS.TupAny
import HandS.TupMul
import KE.SortData
import KE.KDictKeyed
import KE.DatumIndex
import KE.DataEq
import KE.DataFind
import HandS.Strs
import HandS.Text
import HandS.Conv
import HandS.Defaults
import HandS.Comp
import HandS.Iter
import HandS.ExcOwn
import HandS.WordsExc
import KE.GoesEnum
import KE.GoesMore
import HandS.TryOnly
import HandS.HeadEnd
import HandS.HeadHook1
import HandS.HeadHook2
import HandS.Head0
import HandS.Head1
import HandS.Head2
import KE.KStateDown
import PySem.Challenge.RW_wirewebs_k44_leadings_judged
set_option Elab.async false
set_option linter.all false
set_option maxRecDepth 100000
namespace Pw
open PySem PySem.Spec PyProof.Rows L2

/-! ## data, the store, how they stand in a heap -/
/-- a value as data: what never changes any more is a tree; what may still change is a place of the store -/
inductive D where
  | non | bl (b : Bool) | int (i : Int) | str (x : Str)
  | tup (xs : List D) | lst (xs : List D) | dct (ks vs : List D)
  | ref (l : Nat)
  deriving Inhabited
/-- an object that may change -/
inductive MO where
  | lst (xs : List D) | dct (ks vs : List D)
  deriving Inhabited
abbrev Sto := List MO
abbrev Ev := List (Option D)
/-- an exception: its class by name, its fields -/
structure Xc where
  cls : Str
  fs : List (Str × D)

/-- where the store's objects stand (m); objects of the machine that no datum may be (r) -/
structure Pl where
  m : List Addr
  r : List Addr
def kD : Key → D
  | .inl i => .int i
  | .inr x => .str x

/-- a tuple whose object is known: no dict of its own -/
def TupAt (K : PySem.W.Frag) (H : Hp) (a : Addr) (vs : List V) : Prop :=
  (∃ o, H a = some (.frz o (.tup vs)) ∧ o.dict = none) ∨
    ∃ (o : Obj) (its : Array Value) (n : Nat), K.lookup a = some o ∧ o.cls = .type "tuple" ∧ o.dict = none ∧ o.data = .seq its n ∧ its.size ≤ sizeLine ∧ Vals vs its.toList
theorem TupAt.sq {K : PySem.W.Frag} {H : Hp} {a : Addr} {vs : List V} (h : TupAt K H a vs) : SqT K H a vs := by
  rcases h with ⟨o, h, _⟩ | ⟨o, its, n, h1, h2, _, h3, h4, h5⟩
  · exact .inl (.inr ⟨o, h⟩)
  · exact .inr ⟨o, its, n, h1, h2, h3, h4, h5⟩
/-- a list that stays as it is: pinned, or written -/
def LstF (K : PySem.W.Frag) (H : Hp) (a : Addr) (vs : List V) : Prop :=
  (∃ o, H a = some (.frz o (.lst vs))) ∨
    ∃ (o : Obj) (its : Array Value) (n : Nat), K.lookup a = some o ∧ o.cls = .type "list" ∧ o.dict = none ∧ o.data = .seq its n ∧ its.size ≤ sizeLine ∧ Vals vs its.toList
theorem LstF.sq {K : PySem.W.Frag} {H : Hp} {a : Addr} {vs : List V} (h : LstF K H a vs) : SqL K H a vs := by
  rcases h with h | h
  · exact .inl (.inr h)
  · exact .inr h
mutual
inductive RelD (K : PySem.W.Frag) (H : Hp) (M : Pl) : D → V → Prop
  | non : RelD K H M .non .non
  | bl (b : Bool) : RelD K H M (.bl b) (.bl b)
  | int (i : Int) : RelD K H M (.int i) (.int i)
  | str (x : Str) : RelD K H M (.str x) (.str x)
  | tup {a : Addr} {vs : List V} {ds : List D} : TupAt K H a vs → RelDs K H M ds vs → RelD K H M (.tup ds) (.ref a)
  | lst {a : Addr} {vs : List V} {ds : List D} : Rd H a (.lst vs) → a ∉ M.m → a ∉ M.r → RelDs K H M ds vs → RelD K H M (.lst ds) (.ref a)
  | lstF {a : Addr} {vs : List V} {ds : List D} : LstF K H a vs → RelDs K H M ds vs → RelD K H M (.lst ds) (.ref a)
  | dctK {a : Addr} {kvs : List (Key × V)} {ks ds : List D} : H a = some (.dK kvs) → a ∉ M.m → a ∉ M.r → ks = (kvs.map (·.1)).map kD → RelDs K H M ds (kvs.map (·.2)) → RelD K H M (.dct ks ds) (.ref a)
  | ref {l : Nat} {a : Addr} : M.m[l]? = some a → RelD K H M (.ref l) (.ref a)
inductive RelDs (K : PySem.W.Frag) (H : Hp) (M : Pl) : List D → List V → Prop
  | nil : RelDs K H M [] []
  | cons {d : D} {v : V} {ds : List D} {vs : List V} : RelD K H M d v → RelDs K H M ds vs → RelDs K H M (d :: ds) (v :: vs)
end

/-- what stood stands: the store has grown, all else that was tracked is as it was -/
structure Ext (H : Hp) (M : Pl) (H' : Hp) (M' : Pl) : Prop where
  pre : ∃ T, M'.m = M.m ++ T
  res : M'.r = M.r
  keep : ∀ a o, a ∉ M.m → H a = some o → H' a = some o ∧ a ∉ M'.m
  tups : ∀ a xs, H a = some (.tup xs) → H' a = some (.tup xs)
  frzs : ∀ a o u, H a = some (.frz o u) → H' a = some (.frz o u)
theorem Ext.refl (H : Hp) (M : Pl) : Ext H M H M := ⟨⟨[], by simp⟩, rfl, fun _ _ n h => ⟨h, n⟩, fun _ _ h => h, fun _ _ _ h => h⟩
theorem Ext.trans {H H1 H2 : Hp} {M M1 M2 : Pl} (a : Ext H M H1 M1) (b : Ext H1 M1 H2 M2) : Ext H M H2 M2 := by
  obtain ⟨T, e⟩ := a.pre
  obtain ⟨T', e'⟩ := b.pre
  refine ⟨⟨T ++ T', by rw [e', e, List.append_assoc]⟩, b.res.trans a.res, fun x o n h => ?_, fun x xs h => b.tups _ _ (a.tups _ _ h), fun x o u h => b.frzs _ _ _ (a.frzs _ _ _ h)⟩
  obtain ⟨h1, n1⟩ := a.keep x o n h
  exact b.keep x o n1 h1
theorem Ext.get {H H' : Hp} {M M' : Pl} (a : Ext H M H' M') {l : Nat} {x : Addr} (h : M.m[l]? = some x) : M'.m[l]? = some x := by
  obtain ⟨T, e⟩ := a.pre
  have : l < M.m.length := by
    rcases Nat.lt_or_ge l M.m.length with z | z
    · exact z
    · rw [List.getElem?_eq_none z] at h; cases h
  rw [e]; rw [List.getElem?_append_left this]; exact h

section
variable {K : PySem.W.Frag} {H H' : Hp} {M M' : Pl}
theorem Ext.sqT (a : Ext H M H' M') {x : Addr} {vs : List V} (h : TupAt K H x vs) : TupAt K H' x vs := by
  rcases h with ⟨o, h, q⟩ | h
  · exact .inl ⟨o, a.frzs _ _ _ h, q⟩
  · exact .inr h
theorem Ext.sqT' (a : Ext H M H' M') {x : Addr} {vs : List V} (h : SqT K H x vs) : SqT K H' x vs := by
  rcases h with (h | ⟨o, h⟩) | h
  · exact .inl (.inl (a.tups _ _ h))
  · exact .inl (.inr ⟨o, a.frzs _ _ _ h⟩)
  · exact .inr h
theorem Ext.lstF (a : Ext H M H' M') {x : Addr} {vs : List V} (h : LstF K H x vs) : LstF K H' x vs := by
  rcases h with ⟨o, h⟩ | h
  · exact .inl ⟨o, a.frzs _ _ _ h⟩
  · exact .inr h
theorem Ext.rdL (a : Ext H M H' M') {x : Addr} {vs : List V} (h : Rd H x (.lst vs)) (n : x ∉ M.m) : Rd H' x (.lst vs) ∧ x ∉ M'.m := by
  rcases h with h | ⟨o, h⟩
  · obtain ⟨h1, n1⟩ := a.keep _ _ n h; exact ⟨.inl h1, n1⟩
  · obtain ⟨h1, n1⟩ := a.keep _ _ n h; exact ⟨.inr ⟨o, h1⟩, n1⟩
mutual
theorem RelD.mono (x : Ext H M H' M') : ∀ {d : D} {v : V}, RelD K H M d v → RelD K H' M' d v
  | _, _, .non => .non
  | _, _, .bl b => .bl b
  | _, _, .int i => .int i
  | _, _, .str z => .str z
  | _, _, .tup h r => .tup (x.sqT h) (RelDs.mono x r)
  | _, _, .lst h n q r => let z := x.rdL h n; .lst z.1 z.2 (by rw [x.res]; exact q) (RelDs.mono x r)
  | _, _, .lstF h r => .lstF (x.lstF h) (RelDs.mono x r)
  | _, _, .dctK h n q e r => let z := x.keep _ _ n h; .dctK z.1 z.2 (by rw [x.res]; exact q) e (RelDs.mono x r)
  | _, _, .ref h => .ref (x.get h)
theorem RelDs.mono (x : Ext H M H' M') : ∀ {ds : List D} {vs : List V}, RelDs K H M ds vs → RelDs K H' M' ds vs
  | _, _, .nil => .nil
  | _, _, .cons h r => .cons (RelD.mono x h) (RelDs.mono x r)
end
theorem RelDs.length : ∀ {ds : List D} {vs : List V}, RelDs K H M ds vs → ds.length = vs.length
  | _, _, .nil => rfl
  | _, _, .cons _ r => by simp [RelDs.length r]
theorem RelDs.get : ∀ {ds : List D} {vs : List V} {i : Nat} {d : D}, RelDs K H M ds vs → ds[i]? = some d → ∃ v, vs[i]? = some v ∧ RelD K H M d v
  | _, _, _, _, .nil, e => by simp at e
  | _, _, 0, _, .cons r _, e => by simp at e; subst e; exact ⟨_, rfl, r⟩
  | _, _, i + 1, d, .cons _ t, e => by
    obtain ⟨v, h1, h2⟩ := RelDs.get (i := i) (d := d) t (by simpa using e)
    exact ⟨v, by simpa using h1, h2⟩
theorem RelDs.getV : ∀ {ds : List D} {vs : List V} {i : Nat} {v : V}, RelDs K H M ds vs → vs[i]? = some v → ∃ d, ds[i]? = some d ∧ RelD K H M d v
  | _, _, _, _, .nil, e => by simp at e
  | _, _, 0, _, .cons r _, e => by simp at e; subst e; exact ⟨_, rfl, r⟩
  | _, _, i + 1, d, .cons _ t, e => by
    obtain ⟨v, h1, h2⟩ := RelDs.getV (i := i) (v := d) t (by simpa using e)
    exact ⟨v, by simpa using h1, h2⟩
theorem RelDs.append : ∀ {ds es : List D} {vs us : List V}, RelDs K H M ds vs → RelDs K H M es us → RelDs K H M (ds ++ es) (vs ++ us)
  | _, _, _, _, .nil, s => s
  | _, _, _, _, .cons r t, s => .cons r (RelDs.append t s)
theorem RelDs.set {d : D} {v : V} (r : RelD K H M d v) : ∀ {ds : List D} {vs : List V} (i : Nat), RelDs K H M ds vs → RelDs K H M (ds.set i d) (vs.set i v)
  | _, _, _, .nil => .nil
  | _, _, 0, .cons _ t => .cons r t
  | _, _, i + 1, .cons q t => .cons q (RelDs.set r i t)
theorem RelDs.take : ∀ {ds : List D} {vs : List V} (n : Nat), RelDs K H M ds vs → RelDs K H M (ds.take n) (vs.take n)
  | _, _, 0, _ => .nil
  | _, _, _ + 1, .nil => .nil
  | _, _, n + 1, .cons r t => .cons r (RelDs.take n t)
theorem RelDs.drop : ∀ {ds : List D} {vs : List V} (n : Nat), RelDs K H M ds vs → RelDs K H M (ds.drop n) (vs.drop n)
  | _, _, 0, r => r
  | _, _, _ + 1, .nil => .nil
  | _, _, n + 1, .cons _ t => RelDs.drop n t
theorem RelDs.eraseIdx : ∀ {ds : List D} {vs : List V} (i : Nat), RelDs K H M ds vs → RelDs K H M (ds.eraseIdx i) (vs.eraseIdx i)
  | _, _, _, .nil => .nil
  | _, _, 0, .cons _ t => t
  | _, _, i + 1, .cons r t => .cons r (RelDs.eraseIdx i t)
theorem RelDs.reverse {ds : List D} {vs : List V} (h : RelDs K H M ds vs) : RelDs K H M ds.reverse vs.reverse := by
  induction h using RelDs.rec (motive_1 := fun _ _ _ => True) with
  | nil => exact .nil
  | cons r _ _ ih => rw [List.reverse_cons, List.reverse_cons]; exact ih.append (.cons r .nil)
  | _ => trivial
end

/-! ### the store -/
def RelM (K : PySem.W.Frag) (H : Hp) (M : Pl) : MO → HO → Prop
  | .lst xs, o => ∃ vs, o = .lst vs ∧ RelDs K H M xs vs
  | .dct ks ds, o => ∃ kvs : List (Key × V), o = .dK kvs ∧ ks = (kvs.map (·.1)).map kD ∧ RelDs K H M ds (kvs.map (·.2))
structure RelS (K : PySem.W.Frag) (H : Hp) (M : Pl) (S : Sto) : Prop where
  len : M.m.length = S.length
  nd : M.m.Nodup
  apart : ∀ a ∈ M.r, a ∉ M.m ∧ ∃ o, H a = some o
  at_ : ∀ (l : Nat) (a : Addr) (m : MO), M.m[l]? = some a → S[l]? = some m → ∃ o, H a = some o ∧ RelM K H M m o
section
variable {K : PySem.W.Frag} {H H' : Hp} {M M' : Pl} {S : Sto}
theorem RelM.mono (x : Ext H M H' M') : ∀ {m : MO} {o : HO}, RelM K H M m o → RelM K H' M' m o
  | .lst xs, o, ⟨vs, e, r⟩ => ⟨vs, e, r.mono x⟩
  | .dct ks ds, o, ⟨kvs, e, e2, r⟩ => ⟨kvs, e, e2, r.mono x⟩
theorem RelM.kind {m : MO} {o : HO} (h : RelM K H M m o) : (∃ vs, o = .lst vs) ∨ (∃ kvs, o = .dK kvs) := by
  cases m with
  | lst xs => obtain ⟨vs, e, _⟩ := h; exact .inl ⟨vs, e⟩
  | dct ks ds =>
    obtain ⟨kvs, e, _⟩ := h
    exact .inr ⟨kvs, e⟩
theorem RelM.mut {m : MO} {o : HO} (h : RelM K H M m o) : Mut (some o) := by
  rcases h.kind with ⟨_, rfl⟩ | ⟨_, rfl⟩ <;> trivial
theorem RelS.tracked (r : RelS K H M S) {a : Addr} (h : a ∈ M.m) : ∃ o, H a = some o ∧ ((∃ vs, o = .lst vs) ∨ (∃ kvs, o = .dK kvs)) := by
  obtain ⟨l, hl, e⟩ := List.getElem_of_mem h
  have h1 : M.m[l]? = some a := by rw [List.getElem?_eq_getElem hl, e]
  have h2 : l < S.length := by rw [← r.len]; exact hl
  obtain ⟨o, ho, q⟩ := r.at_ l a S[l] h1 (List.getElem?_eq_getElem h2)
  exact ⟨o, ho, q.kind⟩
theorem RelS.lt (r : RelS K H M S) {l : Nat} {a : Addr} (h : M.m[l]? = some a) : ∃ m, S[l]? = some m := by
  have : l < M.m.length := by
    rcases Nat.lt_or_ge l M.m.length with z | z
    · exact z
    · rw [List.getElem?_eq_none z] at h; cases h
  exact ⟨S[l]'(by rw [← r.len]; exact this), List.getElem?_eq_getElem _⟩
/-- a new thing, not in the store -/
theorem Ext.new {p : Addr} {o : HO} (h : H p = none) : Ext H M (upd H p o) M :=
  ⟨⟨[], by simp⟩, rfl, fun a u n e => ⟨by rw [upd_ne (ne_of_none e h)]; exact e, n⟩, fun a xs e => by rw [upd_ne (ne_of_none e h)]; exact e, fun a x u e => by rw [upd_ne (ne_of_none e h)]; exact e⟩
/-- .. put into the store -/
theorem Ext.newB {p : Addr} {o : HO} (h : H p = none) : Ext H M (upd H p o) ⟨M.m ++ [p], M.r⟩ :=
  ⟨⟨[p], rfl⟩, rfl, fun a u n e => ⟨by rw [upd_ne (ne_of_none e h)]; exact e, by
    simp only [List.mem_append, List.mem_singleton, not_or]; exact ⟨n, ne_of_none e h⟩⟩, fun a xs e => by rw [upd_ne (ne_of_none e h)]; exact e, fun a x u e => by rw [upd_ne (ne_of_none e h)]; exact e⟩
theorem RelS.mono (r : RelS K H M S) (x : Ext H M H' M) (k : ∀ a o, a ∈ M.m → H a = some o → H' a = some o) : RelS K H' M S :=
  ⟨r.len, r.nd, fun a h => let ⟨n, o, e⟩ := r.apart a h; ⟨n, o, (x.keep a o n e).1⟩, fun l a m h1 h2 => by
    obtain ⟨o, ho, q⟩ := r.at_ l a m h1 h2
    exact ⟨o, k a o (List.mem_of_getElem? h1) ho, q.mono x⟩⟩
theorem RelS.new {p : Addr} {o : HO} (r : RelS K H M S) (h : H p = none) : RelS K (upd H p o) M S :=
  r.mono (Ext.new h) fun a u _ e => by rw [upd_ne (ne_of_none e h)]; exact e
theorem RelS.newB {p : Addr} {o : HO} {m : MO} (r : RelS K H M S) (h : H p = none) (q : RelM K H M m o) : RelS K (upd H p o) ⟨M.m ++ [p], M.r⟩ (S ++ [m]) := by
  have x : Ext H M (upd H p o) ⟨M.m ++ [p], M.r⟩ := Ext.newB h
  have np : p ∉ M.m := fun z => by obtain ⟨u, e, _⟩ := r.tracked z; rw [h] at e; cases e
  refine ⟨by simp [r.len], ?_, fun a ha => ?_, fun l a m' h1 h2 => ?_⟩
  · rw [List.nodup_append]
    exact ⟨r.nd, by simp, fun a ha b hb => by simp at hb; subst hb; exact fun e => np (e ▸ ha)⟩
  · obtain ⟨n, u, e⟩ := r.apart a ha
    exact ⟨(x.keep a u n e).2, u, (x.keep a u n e).1⟩
  · rcases Nat.lt_trichotomy l M.m.length with hl | hl | hl
    · rw [List.getElem?_append_left hl] at h1
      rw [List.getElem?_append_left (by rw [← r.len]; exact hl)] at h2
      obtain ⟨u, hu, z⟩ := r.at_ l a m' h1 h2
      exact ⟨u, by rw [upd_ne (ne_of_none hu h)]; exact hu, z.mono x⟩
    · subst hl
      rw [List.getElem?_append_right (Nat.le_refl _)] at h1
      rw [List.getElem?_append_right (by rw [r.len]; exact Nat.le_refl _), r.len] at h2
      simp at h1 h2
      subst h1 h2
      exact ⟨o, upd_same, q.mono x⟩
    · rw [List.getElem?_eq_none (by simp; omega)] at h1; cases h1
/-- an object of the store changes -/
theorem Ext.write {l : Nat} {a : Addr} {o : HO} (r : RelS K H M S) (h : M.m[l]? = some a) : Ext H M (upd H a o) M := by
  have ha : a ∈ M.m := List.mem_of_getElem? h
  obtain ⟨u, hu, k⟩ := r.tracked ha
  refine ⟨⟨[], by simp⟩, rfl, fun b v n e => ⟨by rw [upd_ne (show b ≠ a from fun z => n (by rw [z]; exact ha))]; exact e, n⟩, fun b xs e => ?_, fun b x v e => ?_⟩
  · rw [upd_ne (show b ≠ a from fun z => by subst z; rw [hu] at e; cases e; rcases k with ⟨_, z⟩ | ⟨_, z⟩ <;> cases z)]; exact e
  · rw [upd_ne (show b ≠ a from fun z => by subst z; rw [hu] at e; cases e; rcases k with ⟨_, z⟩ | ⟨_, z⟩ <;> cases z)]; exact e
theorem RelS.write {l : Nat} {a : Addr} {o : HO} {m : MO} (r : RelS K H M S) (h : M.m[l]? = some a) (q : RelM K H M m o) : RelS K (upd H a o) M (S.set l m) := by
  have x : Ext H M (upd H a o) M := Ext.write r h
  refine ⟨by simp [r.len], r.nd, fun a ha => let ⟨n, u, e⟩ := r.apart a ha; ⟨n, u, (x.keep a u n e).1⟩, fun j b m' h1 h2 => ?_⟩
  by_cases hj : j = l
  · subst hj
    rw [h] at h1; cases h1
    obtain ⟨m0, hm0⟩ := r.lt h
    have hlt : j < S.length := by
      rcases Nat.lt_or_ge j S.length with z | z
      · exact z
      · rw [List.getElem?_eq_none z] at hm0; cases hm0
    rw [List.getElem?_set_self hlt] at h2
    cases h2
    exact ⟨o, upd_same, q.mono x⟩
  · rw [List.getElem?_set_ne (Ne.symm hj)] at h2
    obtain ⟨u, hu, z⟩ := r.at_ j b m' h1 h2
    refine ⟨u, ?_, z.mono x⟩
    rw [upd_ne]
    · exact hu
    · intro e
      subst e
      have l1 : j < M.m.length := by
        rcases Nat.lt_or_ge j M.m.length with z | z
        · exact z
        · rw [List.getElem?_eq_none z] at h1; cases h1
      exact hj ((List.getElem?_inj l1 r.nd).mp (h1.trans h.symm))
end
end Pw

set_option Elab.async false
set_option linter.all false
set_option maxRecDepth 100000
namespace Pw
open PySem PySem.Spec PyProof.Rows L2

/-! ## results -/
inductive R (α : Type) where
  | ok (a : α) (S : Sto) | exc (x : Xc) (S : Sto) | bad
def R.bind {α β : Type} : R α → (α → Sto → R β) → R β
  | .ok a S, f => f a S
  | .exc x S, _ => .exc x S
  | .bad, _ => .bad
@[simp] theorem R.bind_ok {α β : Type} (a : α) (S : Sto) (f : α → Sto → R β) : (R.ok a S).bind f = f a S := (rfl)
@[simp] theorem R.bind_exc {α β : Type} (x : Xc) (S : Sto) (f : α → Sto → R β) : (R.exc x S).bind f = .exc x S := (rfl)
@[simp] theorem R.bind_bad {α β : Type} (f : α → Sto → R β) : (R.bad : R α).bind f = .bad := (rfl)
def R.opt {α : Type} (S : Sto) : Option α → R α
  | some a => .ok a S
  | none => .bad
@[simp] theorem R.opt_some {α : Type} (S : Sto) (a : α) : R.opt S (some a) = .ok a S := (rfl)
@[simp] theorem R.opt_none {α : Type} (S : Sto) : R.opt S (none : Option α) = .bad := (rfl)

/-! ## data operations -/
mutual
def D.toPy : D → Option PyData
  | .non => some .none
  | .bl b => some (.bool b)
  | .int i => some (.int i)
  | .str x => some (.str x)
  | .tup xs => (D.toPys xs).map .tuple
  | .lst xs => (D.toPys xs).map .list
  | .dct _ _ => none
  | .ref _ => none
def D.toPys : List D → Option (List PyData)
  | [] => some []
  | x :: xs => match D.toPy x, D.toPys xs with
    | some p, some ps => some (p :: ps)
    | _, _ => none
end
/-- what a place of the store holds, as a frozen thing (one level) -/
def rd (S : Sto) : D → D
  | .ref l => match S[l]? with
    | some (.lst xs) => .lst xs
    | some (.dct ks vs) => .dct ks vs
    | none => .ref l
  | d => d
def rdM (l : Nat) : Option MO → D
  | some (.lst xs) => .lst xs
  | some (.dct ks vs) => .dct ks vs
  | none => .ref l
@[simp] theorem rd_ref (S : Sto) (l : Nat) : rd S (.ref l) = rdM l S[l]? := by
  unfold rd rdM; rfl
@[simp] theorem rdM_lst (l : Nat) (xs : List D) : rdM l (some (.lst xs)) = .lst xs := (rfl)
@[simp] theorem rdM_dct (l : Nat) (xs ys : List D) : rdM l (some (.dct xs ys)) = .dct xs ys := (rfl)
@[simp] theorem rd_non (S : Sto) : rd S .non = .non := (rfl)
@[simp] theorem rd_bl (S : Sto) (b : Bool) : rd S (.bl b) = .bl b := (rfl)
@[simp] theorem rd_int (S : Sto) (b : Int) : rd S (.int b) = .int b := (rfl)
@[simp] theorem rd_str (S : Sto) (b : Str) : rd S (.str b) = .str b := (rfl)
@[simp] theorem rd_tup (S : Sto) (b : List D) : rd S (.tup b) = .tup b := (rfl)
@[simp] theorem rd_lst (S : Sto) (b : List D) : rd S (.lst b) = .lst b := (rfl)
@[simp] theorem rd_dct (S : Sto) (b c : List D) : rd S (.dct b c) = .dct b c := (rfl)
/-- a sequence that is read -/
def seqOf (S : Sto) (d : D) : Option (List D) :=
  match rd S d with
  | .tup xs => some xs
  | .lst xs => some xs
  | _ => none
def lstOf (S : Sto) (d : D) : Option (List D) :=
  match rd S d with
  | .lst xs => some xs
  | _ => none
def strBig (x : Str) : Bool := decide (x.length ≤ sizeLine)
def truth (S : Sto) (d : D) : Option Bool :=
  match rd S d with
  | .non => some false
  | .bl b => some b
  | .int i => some (i != 0)
  | .str x => if strBig x then some ((x.length : Int) != 0) else none
  | .tup xs => some (!xs.isEmpty)
  | .lst xs => some (!xs.isEmpty)
  | _ => none
/-- as data -/
def pyd (S : Sto) (d : D) : Option PyData := (rd S d).toPy
/-- == of data -/
def deq (S : Sto) (a b : D) : Option Bool :=
  match pyd S a, pyd S b with
  | some p, some q => if min p.depth q.depth ≤ 60 then some (PyData.eqv p q) else none
  | _, _ => none
/-- what is asked of a sequence and a datum -/
def inSeq {α : Type} (S : Sto) (x : D) (xs : List D) (f : List PyData → PyData → Option α) : Option α :=
  match pyd S x, D.toPys xs with
  | some p, some ps => if min (PyData.depthAll ps) p.depth ≤ 60 then f ps p else none
  | _, _ => none
def small64 (i : Int) : Bool := decide (-(2 ^ 64) < i) && decide (i < 2 ^ 64)
def mulOk (i j : Int) : Bool := small64 i || small64 j || (decide (i.natAbs < 2 ^ 2000) && decide (j.natAbs < 2 ^ 2000))

inductive BOp where | add | sub | mul | fdiv | mod | pow
  deriving DecidableEq
/-- a list that was just made: frozen, or put into the store -/
def mkL (bx : Bool) (xs : List D) (S : Sto) : R D :=
  if xs.length ≤ sizeLine then (if bx then .ok (.ref S.length) (S ++ [.lst xs]) else .ok (.lst xs) S) else .bad
def bAdd (bx : Bool) (S : Sto) : D → D → R D
  | .int i, b => match b with | .int j => .ok (.int (i + j)) S | _ => .bad
  | .str x, b => match b with | .str y => if x.length + y.length ≤ sizeLine then .ok (.str (x ++ y)) S else .bad | _ => .bad
  | .tup xs, b => match b with | .tup ys => if xs.length + ys.length ≤ sizeLine then .ok (.tup (xs ++ ys)) S else .bad | _ => .bad
  | .lst xs, b => match b with | .lst ys => mkL bx (xs ++ ys) S | _ => .bad
  | _, _ => .bad
def bMul (S : Sto) : D → D → R D
  | .int i, b => match b with | .int j => if mulOk i j then .ok (.int (i * j)) S else .bad | _ => .bad
  | .tup xs, b => match b with | .int k => if 2 ≤ k ∧ k ≤ 1000 ∧ xs.length ≤ 1000 then .ok (.tup (List.replicate k.toNat xs).flatten) S else .bad | _ => .bad
  | _, _ => .bad
def bInt (S : Sto) (f : Int → Int → Option Int) : D → D → R D
  | .int i, b => match b with | .int j => R.opt S ((f i j).map .int) | _ => .bad
  | _, _ => .bad
def binop (o : BOp) (bx : Bool) (a b : D) (S : Sto) : R D :=
  match o with
  | .add => bAdd bx S (rd S a) (rd S b)
  | .mul => bMul S (rd S a) (rd S b)
  | .sub => bInt S (fun i j => some (i - j)) a b
  | .fdiv => bInt S (fun i j => if 0 < j ∧ j < 1073741824 then some (i / j) else none) a b
  | .mod => bInt S (fun i j => if 0 < j then some (i % j) else none) a b
  | .pow => bInt S (fun i j => if 0 ≤ j ∧ j ≤ 1000000 ∧ i.natAbs < 2 ^ 64 then some (i ^ j.toNat) else none) a b
inductive COp where | eq | ne | lt | le | gt | ge | isin | notin
  deriving DecidableEq
def anyEq (S : Sto) (x : D) (xs : List D) : Option Bool := inSeq S x xs fun ps p => some (ps.any fun y => PyData.eqv y p)
def dkey : D → Option Key
  | .int i => some (.inl i)
  | .str x => some (.inr x)
  | _ => none
def isPlainKeys (ks : List D) : Bool := ks.all fun k => (dkey k).isSome
def keyEq (a b : D) : Bool := decide (dkey a = dkey b)
def dGet (k : D) : List D → List D → Option D
  | x :: ks, v :: vs => if keyEq x k then some v else dGet k ks vs
  | _, _ => none
/-- the key fits the dict's keys -/
def keyFits (k : D) (ks : List D) : Bool := (dkey k).isSome && isPlainKeys ks
def cmpop (o : COp) (a b : D) (S : Sto) : Option Bool :=
  match o with
  | .eq => deq S a b
  | .ne => (deq S a b).map (!·)
  | .lt => match a, b with
    | .int i, .int j => some (decide (i < j))
    | .str x, .str y => some (decide (x.cps.toList < y.cps.toList))
    | _, _ => none
  | .le => match a, b with | .int i, .int j => some (decide (i ≤ j)) | _, _ => none
  | .gt => match a, b with | .int i, .int j => some (decide (j < i)) | _, _ => none
  | .ge => match a, b with | .int i, .int j => some (decide (j ≤ i)) | _, _ => none
  | .isin => match rd S b with
    | .tup xs => anyEq S a xs
    | .lst xs => anyEq S a xs
    | .dct ks vs => if keyFits a ks then some (dGet a ks vs).isSome else none
    | .str y => match a with | .str x => some (!(Builtin.Str.occurrences y x 0 y.length 1).isEmpty) | _ => none
    | _ => none
  | .notin => match rd S b with
    | .tup xs => (anyEq S a xs).map (!·)
    | .lst xs => (anyEq S a xs).map (!·)
    | .dct ks vs => if keyFits a ks then some (!(dGet a ks vs).isSome) else none
    | .str y => match a with | .str x => some (!(!(Builtin.Str.occurrences y x 0 y.length 1).isEmpty)) | _ => none
    | _ => none
def isop (a c : D) : Option Bool :=
  match c, a with
  | .non, .non => some true
  | .non, _ => some false
  | .bl p, .bl q => some (decide (q = p))
  | .bl _, .int _ => some false
  | .bl _, .non => some false
  | .bl _, .str _ => some false
  | .bl _, .tup _ => some false
  | .bl _, .lst _ => some false
  | .bl _, .ref _ => some false
  | _, _ => none
inductive Ty where | int | bool | str | tuple | list | dict
  deriving DecidableEq
def tyIs (S : Sto) (d : D) (t : Ty) : Option Bool :=
  match rd S d with
  | .non => some false
  | .bl _ => some (decide (t = .bool) || decide (t = .int))
  | .int _ => some (decide (t = .int))
  | .str _ => some (decide (t = .str))
  | .tup _ => some (decide (t = .tuple))
  | .lst _ => some (decide (t = .list))
  | .dct _ _ => some (decide (t = .dict))
  | .ref _ => none
def index (S : Sto) (a b : D) : Option D :=
  match rd S a, b with
  | .tup xs, .int i => atI xs i
  | .lst xs, .int i => atI xs i
  | .str z, .int i => if strBig z then (atI z.cps.toList i).map fun c => D.str ⟨#[c]⟩ else none
  | .dct ks vs, k => if keyFits k ks then dGet k ks vs else none
  | _, _ => none
def cutD (xs : List D) (lo hi : Option Int) : List D := (xs.drop (HT.sIx xs.length 0 lo)).take (HT.sIx xs.length xs.length hi - HT.sIx xs.length 0 lo)
def asInt : D → Option (Option Int)
  | .int i => some (some i)
  | _ => none
def slice (bx : Bool) (a : D) (lo hi : Option Int) (S : Sto) : R D :=
  match rd S a with
  | .tup xs => .ok (.tup (cutD xs lo hi)) S
  | .lst xs => mkL bx (cutD xs lo hi) S
  | _ => .bad
def revd (bx : Bool) (a : D) (S : Sto) : R D :=
  match rd S a with
  | .tup xs => .ok (.tup xs.reverse) S
  | .lst xs => mkL bx xs.reverse S
  | _ => .bad

/-! ### sorting -/
def unPy (p : Option PyData) : PyData := p.getD .none
def pyOf (d : D) : PyData := unPy d.toPy
open Classical in
noncomputable def sortD (xs : List D) : Option (List D) :=
  if (∀ x ∈ xs, x.toPy.isSome = true) ∧ PySem.W.AllAlike (xs.map pyOf) ∧ PySem.W.Sortable (xs.map pyOf) ∧ xs.length ≤ sizeLine ∧ (∀ x ∈ xs, (pyOf x).depth ≤ 60) then
    some (xs.mergeSort (PySem.W.dataLe false pyOf)) else none
def ints? : List D → Option (List Int)
  | [] => some []
  | .int i :: xs => (ints? xs).map (i :: ·)
  | _ :: _ => none
def bools? : List D → Option (List Bool)
  | [] => some []
  | .bl i :: xs => (bools? xs).map (i :: ·)
  | _ :: _ => none
def strs? : List D → Option (List Str)
  | [] => some []
  | .str i :: xs => (strs? xs).map (i :: ·)
  | _ :: _ => none
def keys? : List D → Option (List Key)
  | [] => some []
  | x :: xs => match dkey x, keys? xs with | some k, some ks => some (k :: ks) | _, _ => none
inductive Pr where
  | len | tuple | list | dict | all | any | sum | max2 | min2 | sorted | lenSet | int | rangeL (n : Nat) | rangeT (n : Nat) | abs | count | indexOf | get | get2 | join | append | pop | popAt
  deriving DecidableEq
def rangeOf (n : Nat) : List D → Option (Int × Nat)
  | [.int j] => if n = 1 ∧ -(2 ^ 62) ≤ j ∧ j < 2 ^ 62 then some (0, j.toNat) else none
  | [.int i, .int j] => if n = 2 ∧ -(2 ^ 62) ≤ i ∧ i < 2 ^ 62 ∧ -(2 ^ 62) ≤ j ∧ j < 2 ^ 62 then some (i, (j - i).toNat) else none
  | _ => none
def rangeD (lo : Int) (n : Nat) : List D := (List.range n).map fun (k : Nat) => D.int (lo + (k : Int))
end Pw
namespace Pw
open PySem PySem.Spec PyProof.Rows L2
def idxOf (S : Sto) (k : D) (xs : List D) : Option Nat := inSeq S k xs fun ps p => PySem.SeqAt.dataPlace ps p
def countOf (S : Sto) (k : D) (xs : List D) : Option Nat := inSeq S k xs fun ps p => some (ps.countP fun y => PyData.eqv y p)
def pLen (S : Sto) (d : D) : R D := match rd S d with
    | .str x => if strBig x then .ok (.int x.length) S else .bad
    | .tup xs => .ok (.int xs.length) S
    | .lst xs => .ok (.int xs.length) S
    | .dct ks vs => if isPlainKeys ks then .ok (.int ks.length) S else .bad
    | _ => .bad
def pTuple (S : Sto) (d : D) : R D := match rd S d with
    | .tup xs => .ok (.tup xs) S
    | .lst xs => .ok (.tup xs) S
    | _ => .bad
def pGet (S : Sto) (d k x : D) : R D := match rd S d with
    | .dct ks vs => if keyFits k ks then .ok ((dGet k ks vs).getD x) S else .bad
    | _ => .bad
def pInt (S : Sto) (d : D) : R D := match d with
    | .int i => .ok (.int i) S
    | .bl b => .ok (.int (if b then 1 else 0)) S
    | _ => .bad
def pMM (S : Sto) (f : Int → Int → Int) (a b : D) : R D := match a with
  | .int i => match b with | .int j => .ok (.int (f i j)) S | _ => .bad
  | _ => .bad
def pJoin (S : Sto) (a d : D) : R D := match a with
  | .str sep => match (seqOf S d).bind strs? with
    | some xs => if (xs.map (·.length)).sum + xs.length * sep.length ≤ 16777216 then .ok (.str (Txt.join sep xs)) S else .bad
    | none => .bad
  | _ => .bad
def R.o {α : Type} (o : Option α) (f : α → R D) : R D := match o with | some a => f a | none => .bad
@[simp] theorem R.o_some {α : Type} (a : α) (f : α → R D) : R.o (some a) f = f a := (rfl)
@[simp] theorem R.o_none {α : Type} (f : α → R D) : R.o none f = .bad := (rfl)
def dAppend (x y : D) (S : Sto) : R D := match x with
    | .ref l => match S[l]? with
      | some (.lst xs) => if xs.length < sizeLine then .ok .non (S.set l (.lst (xs ++ [y]))) else .bad
      | _ => .bad
    | _ => .bad
def dPop (x : D) (S : Sto) : R D := match x with
    | .ref l => match S[l]? with
      | some (.lst xs) => R.o (xs[xs.length - 1]?) fun y => .ok y (S.set l (.lst xs.dropLast))
      | _ => .bad
    | _ => .bad
def dPopAt (x y : D) (S : Sto) : R D := match x with
    | .ref l => match y with
      | .int i => match S[l]? with
        | some (.lst xs) => R.o (ixN xs.length i) fun k => R.o xs[k]? fun z => if -(2 ^ 63) ≤ i ∧ i < 2 ^ 63 then .ok z (S.set l (.lst (xs.eraseIdx k))) else .bad
        | _ => .bad
      | _ => .bad
    | _ => .bad
/-- the kind of thing -/
def kd (S : Sto) (d : D) : Nat := match rd S d with
  | .lst _ => 1
  | .tup _ => 2
  | .dct _ _ => 3
  | .str _ => 4
  | _ => 0
/-- the kinds that have the method -/
def Pr.kindOk : Pr → Nat → Bool
  | .append, k => k == 1
  | .pop, k => k == 1
  | .popAt, k => k == 1
  | .indexOf, k => k == 1 || k == 2
  | .count, k => k == 1
  | .get, k => k == 3
  | .get2, k => k == 3
  | .join, k => k == 4
  | _, _ => false
/-- a built-in of values -/
noncomputable def prim1 (p : Pr) (bx : Bool) (d : D) (S : Sto) : R D :=
  match p with
  | .len => pLen S d
  | .tuple => pTuple S d
  | .list => R.o (seqOf S d) fun xs => mkL bx xs S
  | .all => R.o ((lstOf S d).bind bools?) fun bs => .ok (.bl (bs.all id)) S
  | .any => R.o ((lstOf S d).bind bools?) fun bs => .ok (.bl (bs.any id)) S
  | .sum => R.o ((lstOf S d).bind ints?) fun ns => .ok (.int ns.sum) S
  | .sorted => R.o ((seqOf S d).bind sortD) fun xs => mkL bx xs S
  | .int => pInt S d
  | .abs => match d with | .int i => .ok (.int (if i < 0 then -i else i)) S | _ => .bad
  | .pop => dPop d S
  | _ => .bad
def prim2 (p : Pr) (bx : Bool) (d k : D) (S : Sto) : R D :=
  match p with
  | .max2 => pMM S (fun i j => if j > i then j else i) d k
  | .min2 => pMM S (fun i j => if j < i then j else i) d k
  | .indexOf => R.o ((seqOf S d).bind (idxOf S k)) fun i => .ok (.int i) S
  | .count => R.o ((lstOf S d).bind (countOf S k)) fun i => .ok (.int i) S
  | .get => pGet S d k .non
  | .join => pJoin S d k
  | .append => dAppend d k S
  | .popAt => dPopAt d k S
  | _ => .bad
noncomputable def prim (p : Pr) (bx : Bool) (as : List D) (S : Sto) : R D :=
  match p with
  | .rangeL n => R.o (rangeOf n as) fun q => if q.2 ≤ sizeLine then mkL bx (rangeD q.1 q.2) S else .bad
  | .rangeT n => R.o (rangeOf n as) fun q => if q.2 ≤ sizeLine then .ok (.tup (rangeD q.1 q.2)) S else .bad
  | p => match as with
    | [d] => prim1 p bx d S
    | [d, k] => prim2 p bx d k S
    | [d, k, x] => match p with | .get2 => pGet S d k x | _ => .bad
    | _ => .bad

/-! ## the language -/
/-- a target -/
inductive Tg where
  | n (i : Nat) | tu (ts : List Tg)
mutual
inductive E where
  | v (i : Nat) | k (d : D) | g (i : Nat)
  | bin (o : BOp) (bx : Bool) (a b : E)
  | neg (a : E)
  | cmp (o : COp) (a b : E) | cmp2 (o o' : COp) (a b c : E)
  | isk (ng : Bool) (a : E) (c : D)
  | and (a b : E) | or (a b : E) | not (a : E)
  | ite (c a b : E)
  | call (f : Nat) (as : List E) | callk (f : Nat) (as bs : List E) (ord : List Nat)
  | pr (p : Pr) (bx : Bool) (as : List E)
  | isi (a : E) (t : Ty)
  | ix (a b : E) | sl (bx : Bool) (a : E) (lo hi : Option E) | rev (bx : Bool) (a : E)
  | tup (as : List E) | lst (bx : Bool) (as : List E)
  | dct0 (bx : Bool)
  | mth (p : Pr) (bx : Bool) (o : E) (as : List E)
  | comp (bx : Bool) (tg : Tg) (it : I) (own : List Nat) (ifs : Option E) (elt : E)
  | dcomp (bx : Bool) (tg : Tg) (it : I) (own : List Nat) (ke ve : E)
inductive I where
  | e (a : E) | rng (as : List E) | enum (a : E) | zip (a b : E)
end
inductive TgS where
  | g (t : Tg) | sub (o i : E)
inductive SI where
  | expr (e : E) | ret (e : E) | ret0 | asg (t : TgS) (e : E) | aug (i : Nat) (o : BOp) (e : E)
  | ite (c : E) (a b : List SI) | for_ (tg : Tg) (it : I) (b : List SI) | while_ (c : E) (b : List SI)
  | raise (c : Str) (fs : List (Str × E)) | pass
inductive SR where
  | nx (e : Ev) (S : Sto) | ret (d : D) (S : Sto) | exc (x : Xc) (e : Ev) (S : Sto) | bad

def tupOf (S : Sto) (d : D) : Option (List D) :=
  match rd S d with
  | .tup xs => some xs
  | _ => none
mutual
def Tg.put : Tg → D → Sto → Ev → Option Ev
  | .n i, d, _, e => if i < e.length then some (e.set i (some d)) else none
  | .tu ts, d, S, e => match seqOf S d with
    | some xs => if xs.length = ts.length then Tg.puts ts xs S e else none
    | none => none
def Tg.puts : List Tg → List D → Sto → Ev → Option Ev
  | [], [], _, e => some e
  | t :: ts, d :: ds, S, e => match Tg.put t d S e with
    | some e' => Tg.puts ts ds S e'
    | none => none
  | _, _, _, _ => none
end
def wipeE (e : Ev) : List Nat → Ev
  | [] => e
  | v :: vs => (wipeE e vs).set v none
/-- what is walked: the items, and the store's lists that must stay as they are meanwhile -/
structure Src where
  xs : List D
  gd : List (Nat × List D)
open Classical in
noncomputable def Src.stays (s : Src) (S : Sto) : Prop := ∀ p ∈ s.gd, S[p.1]? = some (.lst p.2)
def guardOf (d : D) (xs : List D) : List (Nat × List D) := match d with
  | .ref l => [(l, xs)]
  | _ => []
def chars (x : Str) : List D := x.cps.toList.map fun c => D.str ⟨#[c]⟩
def src1 (S : Sto) (d : D) : Option Src :=
  match rd S d with
  | .tup xs => some ⟨xs, []⟩
  | .lst xs => some ⟨xs, guardOf d xs⟩
  | .str x => some ⟨chars x, []⟩
  | _ => none
def enumD (xs : List D) : List D := (List.range xs.length).zipWith (fun (k : Nat) x => D.tup [.int (k : Int), x]) xs
def srcEnum (S : Sto) (d : D) : Option Src :=
  match rd S d with
  | .tup xs => some ⟨enumD xs, []⟩
  | .lst xs => some ⟨enumD xs, guardOf d xs⟩
  | _ => none
def isTup (S : Sto) (d : D) : Bool := match rd S d with | .tup _ => true | _ => false
def srcZip (S : Sto) (a b : D) : Option Src :=
  match rd S a, rd S b with
  | .tup xs, .tup ys => some ⟨List.zipWith (fun x y => D.tup [x, y]) xs ys, []⟩
  | .lst xs, .lst ys => some ⟨List.zipWith (fun x y => D.tup [x, y]) xs ys, guardOf a xs ++ guardOf b ys⟩
  | _, _ => none

/-- nothing is raised -/
def R.nox {α : Type} : R α → R α
  | .ok a S => .ok a S
  | .exc _ _ => .bad
  | .bad => .bad
@[simp] theorem R.nox_ok {α : Type} (a : α) (S : Sto) : (R.ok a S).nox = .ok a S := (rfl)
@[simp] theorem R.nox_exc {α : Type} (x : Xc) (S : Sto) : (R.exc x S : R α).nox = .bad := (rfl)
@[simp] theorem R.nox_bad {α : Type} : (R.bad : R α).nox = .bad := (rfl)
section
variable (C : Nat → List D → Sto → R D) (G : Nat → Option D)
open Classical in
/-- the turns of a comprehension -/
noncomputable def compLoop (tg : Tg) (own : List Nat) (src : Src) (e0 : Ev) (t : Ev → Sto → R Bool) (elt : Ev → Sto → R D) : List D → List D → Sto → R (List D)
  | [], acc, S => if src.stays S then .ok acc S else .bad
  | x :: xs, acc, S => if src.stays S then (match Tg.put tg x S (wipeE e0 own) with
    | some e1 => (t e1 S).nox.bind fun b S1 => if b then (elt e1 S1).nox.bind fun y S2 => if acc.length < sizeLine then compLoop tg own src e0 t elt xs (acc ++ [y]) S2 else .bad
      else compLoop tg own src e0 t elt xs acc S1
    | none => .bad) else .bad
/-- an expression's value, and its truth as a test -/
structure Den where
  v : Ev → Sto → R D
  t : Ev → Sto → R Bool
def ofV (v : Ev → Sto → R D) : Den := ⟨v, fun e S => (v e S).bind fun x S1 => R.opt S1 (truth S1 x)⟩
def dCmp2 (o o' : COp) (x y : D) (S : Sto) (c : Sto → R D) : R D := match cmpop o x y S with
    | some true => (c S).bind fun z S3 => R.opt S3 ((cmpop o' y z S3).map .bl)
    | some false => .ok (.bl false) S
    | none => .bad
def dAnd (x : D) (S : Sto) (c : R D) : R D := match truth S x with
    | some true => c
    | some false => .ok x S
    | none => .bad
def dOr (x : D) (S : Sto) (c : R D) : R D := match truth S x with
    | some true => .ok x S
    | some false => c
    | none => .bad
def dVar (i : Nat) (e : Ev) (S : Sto) : R D := match e[i]? with
    | some (some d) => .ok d S
    | _ => .bad
def dNeg (x : D) (S : Sto) : R D := match x with | .int i => .ok (.int (-i)) S | _ => .bad
mutual
noncomputable def den : E → Den
  | .v i => ofV fun e S => dVar i e S
  | .k d => ofV fun _ S => .ok d S
  | .g i => ofV fun _ S => R.opt S (G i)
  | .bin o bx a b => ofV fun e S => ((den a).v e S).bind fun x S1 => ((den b).v e S1).bind fun y S2 => binop o bx x y S2
  | .neg a => ofV fun e S => ((den a).v e S).bind dNeg
  | .cmp o a b => ofV fun e S => ((den a).v e S).bind fun x S1 => ((den b).v e S1).bind fun y S2 => R.opt S2 ((cmpop o x y S2).map .bl)
  | .cmp2 o o' a b c => ofV fun e S => ((den a).v e S).bind fun x S1 => ((den b).v e S1).bind fun y S2 => dCmp2 o o' x y S2 fun S => (den c).v e S
  | .isk ng a c => ofV fun e S => ((den a).v e S).bind fun x S1 => R.opt S1 ((isop x c).map fun b => .bl (if ng then !b else b))
  | .and a b => ⟨fun e S => ((den a).v e S).bind fun x S1 => dAnd x S1 ((den b).v e S1),
      fun e S => ((den a).t e S).bind fun x S1 => if x then (den b).t e S1 else .ok false S1⟩
  | .or a b => ⟨fun e S => ((den a).v e S).bind fun x S1 => dOr x S1 ((den b).v e S1),
      fun e S => ((den a).t e S).bind fun x S1 => if x then .ok true S1 else (den b).t e S1⟩
  | .not a => ⟨fun e S => ((den a).v e S).bind fun x S1 => R.opt S1 ((truth S1 x).map fun b => .bl (!b)), fun e S => ((den a).t e S).bind fun b S1 => .ok (!b) S1⟩
  | .ite c a b => ⟨fun e S => ((den c).t e S).bind fun t S1 => if t then (den a).v e S1 else (den b).v e S1,
      fun e S => ((den c).t e S).bind fun t S1 => if t then (den a).t e S1 else (den b).t e S1⟩
  | .call f as => ofV fun e S => (dens as e S).bind fun xs S1 => C f xs S1
  | .callk f as bs ord => ofV fun e S => (dens as e S).bind fun xs S1 => (dens bs e S1).bind fun ys S2 => C f (ord.map fun j => (xs ++ ys).getD j .non) S2
  | .pr p bx as => ofV fun e S => (dens as e S).bind fun xs S1 => prim p bx xs S1
  | .isi a t => ofV fun e S => ((den a).v e S).bind fun x S1 => R.opt S1 ((tyIs S1 x t).map .bl)
  | .ix a b => ofV fun e S => ((den a).v e S).bind fun x S1 => ((den b).v e S1).bind fun y S2 => R.opt S2 (index S2 x y)
  | .sl bx a lo hi => ofV fun e S => ((den a).v e S).bind fun x S1 => (denO lo e S1).bind fun l S2 => (denO hi e S2).bind fun h S3 => slice bx x l h S3
  | .rev bx a => ofV fun e S => ((den a).v e S).bind fun x S1 => revd bx x S1
  | .tup as => ofV fun e S => (dens as e S).bind fun xs S1 => if xs.length ≤ sizeLine then .ok (.tup xs) S1 else .bad
  | .lst bx as => ofV fun e S => (dens as e S).bind fun xs S1 => mkL bx xs S1
  | .dct0 bx => ofV fun _ S => if bx then .ok (.ref S.length) (S ++ [.dct [] []]) else .ok (.dct [] []) S
  | .mth p bx o as => ofV fun e S => ((den o).v e S).bind fun x S1 => if p.kindOk (kd S1 x) then (dens as e S1).bind fun ys S2 => if kd S1 x = kd S2 x then prim p bx (x :: ys) S2 else .bad else .bad
  | .comp bx tg it own ifs elt => ofV fun e S => (denI it e S).bind fun src S1 =>
      (compLoop tg own src e (denT ifs) (den elt).v src.xs [] S1).bind fun acc S2 => mkL bx acc S2
  | .dcomp .. => ofV fun _ _ => .bad
noncomputable def denT : Option E → Ev → Sto → R Bool
  | none, _, S => .ok true S
  | some a, e, S => (den a).t e S
noncomputable def denO : Option E → Ev → Sto → R (Option Int)
  | none, _, S => .ok none S
  | some a, e, S => ((den a).v e S).bind fun x S1 => R.opt S1 (asInt x)
noncomputable def dens : List E → Ev → Sto → R (List D)
  | [], _, S => .ok [] S
  | a :: as, e, S => ((den a).v e S).bind fun x S1 => (dens as e S1).bind fun xs S2 => .ok (x :: xs) S2
noncomputable def denI : I → Ev → Sto → R Src
  | .e a, e, S => ((den a).v e S).bind fun x S1 => R.opt S1 (src1 S1 x)
  | .rng as, e, S => (dens as e S).bind fun xs S1 => R.opt S1 ((rangeOf as.length xs).map fun q => ⟨rangeD q.1 q.2, []⟩)
  | .enum a, e, S => ((den a).v e S).bind fun x S1 => R.opt S1 (srcEnum S1 x)
  | .zip a b, e, S => ((den a).v e S).bind fun x S1 => ((den b).v e S1).bind fun y S2 => R.opt S2 (srcZip S2 x y)
end
end
end Pw
namespace Pw
example (C : Nat → List D → Sto → R D) (G : Nat → Option D) (a b : E) (e : Ev) (S : Sto) : (den C G (.and a b)).v e S = ((den C G a).v e S).bind fun x S1 => dAnd x S1 ((den C G b).v e S1) := rfl
end Pw
namespace Pw
open PySem PySem.Spec PyProof.Rows L2
/-! ## statements -/
def SR.then_ (r : SR) (f : Ev → Sto → SR) : SR := match r with
  | .nx e S => f e S
  | r => r
def R.st {α : Type} (r : R α) (e : Ev) (f : α → Sto → SR) : SR := match r with
  | .ok a S => f a S
  | .exc x S => .exc x e S
  | .bad => .bad
@[simp] theorem R.st_ok {α : Type} (a : α) (S : Sto) (e : Ev) (f : α → Sto → SR) : (R.ok a S).st e f = f a S := (rfl)
@[simp] theorem R.st_exc {α : Type} (x : Xc) (S : Sto) (e : Ev) (f : α → Sto → SR) : (R.exc x S : R α).st e f = .exc x e S := (rfl)
@[simp] theorem R.st_bad {α : Type} (e : Ev) (f : α → Sto → SR) : (R.bad : R α).st e f = .bad := (rfl)
@[simp] theorem SR.then_nx (e : Ev) (S : Sto) (f : Ev → Sto → SR) : (SR.nx e S).then_ f = f e S := (rfl)
@[simp] theorem SR.then_ret (d : D) (S : Sto) (f : Ev → Sto → SR) : (SR.ret d S).then_ f = .ret d S := (rfl)
@[simp] theorem SR.then_exc (x : Xc) (e : Ev) (S : Sto) (f : Ev → Sto → SR) : (SR.exc x e S).then_ f = .exc x e S := (rfl)
@[simp] theorem SR.then_bad (f : Ev → Sto → SR) : SR.bad.then_ f = .bad := (rfl)
def dput (k v : D) (ks vs : List D) : List D × List D :=
  if ks.any (fun x => keyEq x k) then (ks, List.zipWith (fun x u => if keyEq x k then v else u) ks vs) else (ks ++ [k], vs ++ [v])
def setItemD (o i v : D) (S : Sto) : Option Sto := match o with
  | .ref l => match S[l]? with
    | some (.lst xs) => match i with
      | .int k => (ixN xs.length k).map fun j => S.set l (.lst (xs.set j v))
      | _ => none
    | some (.dct ks vs) => if keyFits i ks && decide (ks.length < sizeLine) then some (S.set l (.dct (dput i v ks vs).1 (dput i v ks vs).2)) else none
    | none => none
  | _ => none
def optS (o : Option Ev) (f : Ev → SR) : SR := match o with
  | some e => f e
  | none => .bad
@[simp] theorem optS_some (e : Ev) (f : Ev → SR) : optS (some e) f = f e := (rfl)
def augop (o : BOp) (x y : D) (S : Sto) : R D := match o with
  | .add => match x with
    | .ref l => match S[l]? with
      | some (.lst xs) => match lstOf S y with
        | some ys => if xs.length + ys.length ≤ sizeLine then .ok (.ref l) (S.set l (.lst (xs ++ ys))) else .bad
        | none => .bad
      | _ => .bad
    | .lst _ => .bad
    | .dct _ _ => .bad
    | x => binop .add false x y S
  | .sub => bInt S (fun i j => some (i - j)) x y
  | _ => .bad
open Classical in
noncomputable def forLoop (tg : Tg) (src : Src) (body : Ev → Sto → SR) : List D → Ev → Sto → SR
  | [], e, S => if src.stays S then .nx e S else .bad
  | x :: xs, e, S => if src.stays S then optS (Tg.put tg x S e) fun e1 => (body e1 S).then_ fun e2 S2 => forLoop tg src body xs e2 S2 else .bad
def whileN (c : Ev → Sto → R Bool) (b : Ev → Sto → SR) : Nat → Ev → Sto → SR
  | 0, _, _ => .bad
  | n + 1, e, S => (c e S).st e fun t S1 => if t then (b e S1).then_ (fun e2 S2 => whileN c b n e2 S2) else .nx e S1
open Classical in
noncomputable def whileS (c : Ev → Sto → R Bool) (b : Ev → Sto → SR) (e : Ev) (S : Sto) : SR :=
  if h : ∃ n, whileN c b n e S ≠ .bad then whileN c b (choose h) e S else .bad
section
variable (C : Nat → List D → Sto → R D) (G : Nat → Option D)
mutual
noncomputable def denS : SI → Ev → Sto → SR
  | .expr a, e, S => ((den C G a).v e S).st e fun _ S1 => .nx e S1
  | .ret a, e, S => ((den C G a).v e S).st e fun x S1 => .ret x S1
  | .ret0, _, S => .ret .non S
  | .asg t a, e, S => ((den C G a).v e S).st e fun x S1 => match t with
    | .g t => optS (Tg.put t x S1 e) fun e1 => .nx e1 S1
    | .sub o i => ((den C G o).v e S1).st e fun ov S2 => ((den C G i).v e S2).st e fun iv S3 => match setItemD ov iv x S3 with
      | some S4 => .nx e S4
      | none => .bad
  | .aug i o a, e, S => (dVar i e S).st e fun x S1 => ((den C G a).v e S1).st e fun y S2 => (augop o x y S2).st e fun z S3 => if i < e.length then .nx (e.set i (some z)) S3 else .bad
  | .ite c a b, e, S => ((den C G c).t e S).st e fun t S1 => if t then denSs a e S1 else denSs b e S1
  | .for_ tg it b, e, S => (denI C G it e S).st e fun src S1 => forLoop tg src (denSs b) src.xs e S1
  | .while_ c b, e, S => whileS (den C G c).t (denSs b) e S
  | .raise _ _, _, _ => .bad
  | .pass, e, S => .nx e S
noncomputable def denSs : List SI → Ev → Sto → SR
  | [], e, S => .nx e S
  | s :: ss, e, S => (denS s e S).then_ fun e1 S1 => denSs ss e1 S1
end
end
theorem whileN_mono {c : Ev → Sto → R Bool} {b : Ev → Sto → SR} : ∀ (n : Nat) (e : Ev) (S : Sto), whileN c b n e S ≠ .bad → whileN c b (n + 1) e S = whileN c b n e S
  | 0, _, _, h => absurd rfl h
  | n + 1, e, S, h => by
    have ih := fun e S => whileN_mono (c := c) (b := b) n e S
    unfold whileN at h
    show ((c e S).st e fun t S1 => if t then (b e S1).then_ (fun e2 S2 => whileN c b (n + 1) e2 S2) else .nx e S1) = ((c e S).st e fun t S1 => if t then (b e S1).then_ (fun e2 S2 => whileN c b n e2 S2) else .nx e S1)
    cases hc : c e S with
    | ok t S1 =>
      rw [hc] at h
      simp only [R.st_ok] at h ⊢
      cases t with
      | false => rfl
      | true =>
        simp only [if_true] at h ⊢
        cases hb : b e S1 with
        | nx e2 S2 => rw [hb] at h; exact ih _ _ h
        | ret _ _ => rfl
        | exc _ _ _ => rfl
        | bad => rfl
    | exc _ _ => rfl
    | bad => rfl
theorem whileN_le {c : Ev → Sto → R Bool} {b : Ev → Sto → SR} {n m : Nat} {e : Ev} {S : Sto} (h : whileN c b n e S ≠ .bad) (hm : n ≤ m) : whileN c b m e S = whileN c b n e S := by
  induction m with
  | zero => cases Nat.le_zero.mp hm; rfl
  | succ m ih =>
    by_cases hn : n = m + 1
    · subst hn; rfl
    · have h1 := ih (by omega)
      rw [whileN_mono m e S (by rw [h1]; exact h), h1]
theorem whileS_of {c : Ev → Sto → R Bool} {b : Ev → Sto → SR} {n : Nat} {e : Ev} {S : Sto} (h : whileN c b n e S ≠ .bad) : whileS c b e S = whileN c b n e S := by
  unfold whileS
  have hx : ∃ n, whileN c b n e S ≠ .bad := ⟨n, h⟩
  rw [dif_pos hx]
  have hc := Classical.choose_spec hx
  rcases Nat.le_total n (Classical.choose hx) with q | q
  · exact whileN_le h q
  · exact (whileN_le hc q).symm
theorem whileS_ne {c : Ev → Sto → R Bool} {b : Ev → Sto → SR} {e : Ev} {S : Sto} (h : whileS c b e S ≠ .bad) : ∃ n, whileS c b e S = whileN c b n e S := by
  unfold whileS at h ⊢
  by_cases hx : ∃ n, whileN c b n e S ≠ .bad
  · rw [dif_pos hx] at h ⊢; exact ⟨_, rfl⟩
  · rw [dif_neg hx] at h; exact absurd rfl h
/-- one turn of a while -/
theorem whileS_turn {c : Ev → Sto → R Bool} {b : Ev → Sto → SR} {e e2 : Ev} {S S1 S2 : Sto} (hc : c e S = .ok true S1) (hb : b e S1 = .nx e2 S2) : whileS c b e S = whileS c b e2 S2 := by
  by_cases hx : ∃ n, whileN c b n e2 S2 ≠ .bad
  · obtain ⟨n, hn⟩ := hx
    have e1 : whileN c b (n + 1) e S = whileN c b n e2 S2 := by
      show (c e S).st e _ = _
      rw [hc]; simp [hb]
    rw [whileS_of hn, ← e1]
    exact whileS_of (by rw [e1]; exact hn)
  · have hy : ¬ ∃ n, whileN c b n e S ≠ .bad := by
      rintro ⟨n, hn⟩
      cases n with
      | zero => exact hn rfl
      | succ n =>
        refine hx ⟨n, ?_⟩
        have e1 : whileN c b (n + 1) e S = whileN c b n e2 S2 := by
          show (c e S).st e _ = _
          rw [hc]; simp [hb]
        rw [← e1]; exact hn
    unfold whileS
    rw [dif_neg hx, dif_neg hy]
theorem whileS_end {c : Ev → Sto → R Bool} {b : Ev → Sto → SR} {e : Ev} {S S1 : Sto} (hc : c e S = .ok false S1) : whileS c b e S = .nx e S1 := by
  have e1 : whileN c b 1 e S = .nx e S1 := by
    show (c e S).st e _ = _
    rw [hc]; simp
  rw [whileS_of (n := 1) (by rw [e1]; intro z; cases z), e1]
theorem whileS_ret {c : Ev → Sto → R Bool} {b : Ev → Sto → SR} {e : Ev} {S S1 S2 : Sto} {d : D} (hc : c e S = .ok true S1) (hb : b e S1 = .ret d S2) : whileS c b e S = .ret d S2 := by
  have e1 : whileN c b 1 e S = .ret d S2 := by
    show (c e S).st e _ = _
    rw [hc]; simp [hb]
  rw [whileS_of (n := 1) (by rw [e1]; intro z; cases z), e1]
theorem whileS_exc {c : Ev → Sto → R Bool} {b : Ev → Sto → SR} {e e2 : Ev} {S S1 S2 : Sto} {x : Xc} (hc : c e S = .ok true S1) (hb : b e S1 = .exc x e2 S2) : whileS c b e S = .exc x e2 S2 := by
  have e1 : whileN c b 1 e S = .exc x e2 S2 := by
    show (c e S).st e _ = _
    rw [hc]; simp [hb]
  rw [whileS_of (n := 1) (by rw [e1]; intro z; cases z), e1]

/-! ## a call: what was made in it and is told behind it is frozen; the rest of what was made goes -/
mutual
def frz1 (n : Nat) (S : Sto) (F : List D → Option (List D)) : D → Option D
  | .ref l => if l < n then some (.ref l) else match S[l]? with
    | some (.lst xs) => (F xs).map .lst
    | some (.dct ks vs) => (F vs).map (D.dct ks)
    | none => none
  | .tup xs => (frz1s n S F xs).map .tup
  | .lst xs => (frz1s n S F xs).map .lst
  | .dct ks vs => (frz1s n S F vs).map (D.dct ks)
  | .non => some .non
  | .bl b => some (.bl b)
  | .int i => some (.int i)
  | .str x => some (.str x)
def frz1s (n : Nat) (S : Sto) (F : List D → Option (List D)) : List D → Option (List D)
  | [] => some []
  | x :: xs => match frz1 n S F x, frz1s n S F xs with
    | some y, some ys => some (y :: ys)
    | _, _ => none
end
def frzs (n : Nat) (S : Sto) : Nat → List D → Option (List D)
  | 0 => frz1s n S fun _ => none
  | k + 1 => frz1s n S (frzs n S k)
def frz (n : Nat) (S : Sto) (d : D) : Option D := frz1 n S (frzs n S 6) d
mutual
/-- all places of the store in it are below n -/
def D.low (n : Nat) : D → Bool
  | .ref l => decide (l < n)
  | .tup xs => D.lows n xs
  | .lst xs => D.lows n xs
  | .dct ks vs => D.lows n vs
  | .non => true
  | .bl _ => true
  | .int _ => true
  | .str _ => true
def D.lows (n : Nat) : List D → Bool
  | [] => true
  | x :: xs => D.low n x && D.lows n xs
end
def MO.low (n : Nat) : MO → Bool
  | .lst xs => D.lows n xs
  | .dct _ vs => D.lows n vs
def OldOk (S S' : Sto) : Prop := ∀ l, l < S.length → S'[l]? = S[l]? ∨ ∃ m, S'[l]? = some m ∧ m.low S.length = true
open Classical in
noncomputable def close (S S' : Sto) (d : D) : D × Sto :=
  if S'.length ≤ S.length then (d, S') else match frz S.length S' d with
    | some d' => if OldOk S S' then (d', S'.take S.length) else (d, S')
    | none => (d, S')
open Classical in
noncomputable def closeX (S S' : Sto) (x : Xc) : Xc × Sto :=
  if S'.length ≤ S.length then (x, S') else match frz1s S.length S' (frzs S.length S' 6) (x.fs.map (·.2)) with
    | some ds => if OldOk S S' then (⟨x.cls, (x.fs.map (·.1)).zip ds⟩, S'.take S.length) else (x, S')
    | none => (x, S')
noncomputable def closeR (fz : Bool) (S : Sto) : SR → R D
  | .nx _ S' => .ok .non (if fz then (close S S' .non).2 else S')
  | .ret d S' => if fz then .ok (close S S' d).1 (close S S' d).2 else .ok d S'
  | .exc x _ S' => if fz then .exc (closeX S S' x).1 (closeX S S' x).2 else .exc x S'
  | .bad => .bad
structure Fn where
  slots : Nat
  pars : Nat
  /-- what is made in it is frozen at its end -/
  fz : Bool
  body : List SI
/-- a call of the f-th def, so many calls deep at most -/
noncomputable def callN (Fs : Nat → Option Fn) (G : Nat → Option D) : Nat → Nat → List D → Sto → R D
  | 0, _, _, _ => .bad
  | n + 1, f, ds, S => match Fs f with
    | some F => if ds.length = F.pars then closeR F.fz S (denSs (callN Fs G n) G F.body (ds.map some ++ List.replicate (F.slots - F.pars) none) S) else .bad
    | none => .bad
end Pw

set_option Elab.async false
set_option linter.all false
set_option maxRecDepth 100000
namespace Pw
open PySem PySem.Spec PyProof.Rows L2

/-! ## what is wanted -/
def RelX (K : PySem.W.Frag) (mg : Str → Option Value) (H : Hp) (M : Pl) (x : Xc) (cls : Value) (d : Option Addr) : Prop :=
  ∃ C, mg x.cls = some (.ref C) ∧ cls = .ref C ∧
    ((x.fs = [] ∧ d = none) ∨ ∃ dd vs, x.fs ≠ [] ∧ d = some dd ∧ H dd = some (.xd ((x.fs.map (·.1)).zip vs)) ∧ dd ∉ M.m ∧ dd ∉ M.r ∧ RelDs K H M (x.fs.map (·.2)) vs)
def WPE (K : PySem.W.Frag) (mg : Str → Option Value) (H : Hp) (M : Pl) (r : R D) (Q : VK) (E : XK) : Prop :=
  match r with
  | .ok d S' => ∀ v H' M', Ext H M H' M' → RelS K H' M' S' → RelD K H' M' d v → Q v H'
  | .exc x S' => ∀ cls dd H' M', Ext H M H' M' → RelS K H' M' S' → RelX K mg H' M' x cls dd → E cls dd H'
  | .bad => False
def WPT (K : PySem.W.Frag) (mg : Str → Option Value) (H : Hp) (M : Pl) (r : R Bool) (Q : Bool → Hp → Prop) (E : XK) : Prop :=
  match r with
  | .ok d S' => ∀ H' M', Ext H M H' M' → RelS K H' M' S' → Q d H'
  | .exc x S' => ∀ cls dd H' M', Ext H M H' M' → RelS K H' M' S' → RelX K mg H' M' x cls dd → E cls dd H'
  | .bad => False
def WPA (K : PySem.W.Frag) (mg : Str → Option Value) (H : Hp) (M : Pl) (r : R (List D)) (Q : List V → Hp → Prop) (E : XK) : Prop :=
  match r with
  | .ok d S' => ∀ v H' M', Ext H M H' M' → RelS K H' M' S' → RelDs K H' M' d v → Q v H'
  | .exc x S' => ∀ cls dd H' M', Ext H M H' M' → RelS K H' M' S' → RelX K mg H' M' x cls dd → E cls dd H'
  | .bad => False
/-- any result: what is told of it -/
def WPG (K : PySem.W.Frag) (mg : Str → Option Value) (H : Hp) (M : Pl) {α : Type} (r : R α) (Q : α → Sto → Hp → Pl → Prop) (E : XK) : Prop :=
  match r with
  | .ok a S' => ∀ H' M', Ext H M H' M' → RelS K H' M' S' → Q a S' H' M'
  | .exc x S' => ∀ cls dd H' M', Ext H M H' M' → RelS K H' M' S' → RelX K mg H' M' x cls dd → E cls dd H'
  | .bad => False
section
variable {K : PySem.W.Frag} {mg : Str → Option Value} {H H' : Hp} {M M' : Pl} {S : Sto} {E : XK}
theorem WPG.ext {α : Type} {r : R α} {Q : α → Sto → Hp → Pl → Prop} (x : Ext H M H' M') (h : WPG K mg H M r Q E) : WPG K mg H' M' r Q E := by
  cases r with
  | ok a S' => exact fun H2 M2 y => h H2 M2 (x.trans y)
  | exc z S' => exact fun c d H2 M2 y => h c d H2 M2 (x.trans y)
  | bad => exact h
theorem WPE.g {r : R D} {Q : VK} : WPE K mg H M r Q E ↔ WPG K mg H M r (fun d _ H' M' => ∀ v, RelD K H' M' d v → Q v H') E := by
  cases r with
  | ok a S' => exact ⟨fun h H2 M2 x s v r => h v H2 M2 x s r, fun h v H2 M2 x s r => h H2 M2 x s v r⟩
  | exc z S' => exact Iff.rfl
  | bad => exact Iff.rfl
theorem WPA.g {r : R (List D)} {Q : List V → Hp → Prop} : WPA K mg H M r Q E ↔ WPG K mg H M r (fun d _ H' M' => ∀ v, RelDs K H' M' d v → Q v H') E := by
  cases r with
  | ok a S' => exact ⟨fun h H2 M2 x s v r => h v H2 M2 x s r, fun h v H2 M2 x s r => h H2 M2 x s v r⟩
  | exc z S' => exact Iff.rfl
  | bad => exact Iff.rfl
theorem WPT.g {r : R Bool} {Q : Bool → Hp → Prop} : WPT K mg H M r Q E ↔ WPG K mg H M r (fun d _ H' M' => Q d H') E := by
  cases r with
  | ok a S' => exact Iff.rfl
  | exc z S' => exact Iff.rfl
  | bad => exact Iff.rfl
theorem WPE.ext {r : R D} {Q : VK} (x : Ext H M H' M') (h : WPE K mg H M r Q E) : WPE K mg H' M' r Q E := WPE.g.mpr ((WPE.g.mp h).ext x)
theorem WPT.ext {r : R Bool} {Q : Bool → Hp → Prop} (x : Ext H M H' M') (h : WPT K mg H M r Q E) : WPT K mg H' M' r Q E := WPT.g.mpr ((WPT.g.mp h).ext x)
theorem WPA.ext {r : R (List D)} {Q : List V → Hp → Prop} (x : Ext H M H' M') (h : WPA K mg H M r Q E) : WPA K mg H' M' r Q E := WPA.g.mpr ((WPA.g.mp h).ext x)
/-- one after the other: the first's end, told to the machine's next step -/
theorem WPE.bind {r : R D} {f : D → Sto → R D} {Q Q' : VK} (h : WPE K mg H M (r.bind f) Q E)
    (n : ∀ d S1 v H1 M1, Ext H M H1 M1 → RelS K H1 M1 S1 → RelD K H1 M1 d v → WPE K mg H1 M1 (f d S1) Q E → Q' v H1) : WPE K mg H M r Q' E := by
  cases r with
  | ok a S' => exact fun v H1 M1 x s r => n a S' v H1 M1 x s r (WPE.ext x h)
  | exc z S' => exact h
  | bad => exact h
theorem WPA.bindE {r : R (List D)} {f : List D → Sto → R D} {Q : VK} {Q' : List V → Hp → Prop} (h : WPE K mg H M (r.bind f) Q E)
    (n : ∀ d S1 v H1 M1, Ext H M H1 M1 → RelS K H1 M1 S1 → RelDs K H1 M1 d v → WPE K mg H1 M1 (f d S1) Q E → Q' v H1) : WPA K mg H M r Q' E := by
  cases r with
  | ok a S' => exact fun v H1 M1 x s r => n a S' v H1 M1 x s r (WPE.ext x h)
  | exc z S' => exact h
  | bad => exact h
theorem WPT.bindE {r : R Bool} {f : Bool → Sto → R D} {Q : VK} {Q' : Bool → Hp → Prop} (h : WPE K mg H M (r.bind f) Q E)
    (n : ∀ d S1 H1 M1, Ext H M H1 M1 → RelS K H1 M1 S1 → WPE K mg H1 M1 (f d S1) Q E → Q' d H1) : WPT K mg H M r Q' E := by
  cases r with
  | ok a S' => exact fun H1 M1 x s => n a S' H1 M1 x s (WPE.ext x h)
  | exc z S' => exact h
  | bad => exact h
theorem WPE.bindT {r : R D} {f : D → Sto → R Bool} {Q : Bool → Hp → Prop} {Q' : VK} (h : WPT K mg H M (r.bind f) Q E)
    (n : ∀ d S1 v H1 M1, Ext H M H1 M1 → RelS K H1 M1 S1 → RelD K H1 M1 d v → WPT K mg H1 M1 (f d S1) Q E → Q' v H1) : WPE K mg H M r Q' E := by
  cases r with
  | ok a S' => exact fun v H1 M1 x s r => n a S' v H1 M1 x s r (WPT.ext x h)
  | exc z S' => exact h
  | bad => exact h
theorem WPT.bind {r : R Bool} {f : Bool → Sto → R Bool} {Q Q' : Bool → Hp → Prop} (h : WPT K mg H M (r.bind f) Q E)
    (n : ∀ d S1 H1 M1, Ext H M H1 M1 → RelS K H1 M1 S1 → WPT K mg H1 M1 (f d S1) Q E → Q' d H1) : WPT K mg H M r Q' E := by
  cases r with
  | ok a S' => exact fun H1 M1 x s => n a S' H1 M1 x s (WPT.ext x h)
  | exc z S' => exact h
  | bad => exact h
theorem WPE.bindA {r : R D} {f : D → Sto → R (List D)} {Q : List V → Hp → Prop} {Q' : VK} (h : WPA K mg H M (r.bind f) Q E)
    (n : ∀ d S1 v H1 M1, Ext H M H1 M1 → RelS K H1 M1 S1 → RelD K H1 M1 d v → WPA K mg H1 M1 (f d S1) Q E → Q' v H1) : WPE K mg H M r Q' E := by
  cases r with
  | ok a S' => exact fun v H1 M1 x s r => n a S' v H1 M1 x s r (WPA.ext x h)
  | exc z S' => exact h
  | bad => exact h
theorem WPA.bind {r : R (List D)} {f : List D → Sto → R (List D)} {Q Q' : List V → Hp → Prop} (h : WPA K mg H M (r.bind f) Q E)
    (n : ∀ d S1 v H1 M1, Ext H M H1 M1 → RelS K H1 M1 S1 → RelDs K H1 M1 d v → WPA K mg H1 M1 (f d S1) Q E → Q' v H1) : WPA K mg H M r Q' E := by
  cases r with
  | ok a S' => exact fun v H1 M1 x s r => n a S' v H1 M1 x s r (WPA.ext x h)
  | exc z S' => exact h
  | bad => exact h
theorem WPE.opt {o : Option D} {Q : VK} (s : RelS K H M S) (h : WPE K mg H M (R.opt S o) Q E) : ∃ d, o = some d ∧ ∀ v H' M', Ext H M H' M' → RelS K H' M' S → RelD K H' M' d v → Q v H' := by
  cases o with
  | none => exact h.elim
  | some d => exact ⟨d, rfl, h⟩
end

/-- the slots -/
def RelE (K : PySem.W.Frag) (H : Hp) (M : Pl) (e : Ev) (σ : L2.St) : Prop := σ.length = e.length ∧ ∀ (i : Nat) (d : D), e[i]? = some (some d) → ∃ v, σ[i]? = some (some v) ∧ RelD K H M d v
theorem RelE.mono {K : PySem.W.Frag} {H H' : Hp} {M M' : Pl} {e : Ev} {σ : L2.St} (x : Ext H M H' M') (r : RelE K H M e σ) : RelE K H' M' e σ := ⟨r.1, fun i d h => let ⟨v, h1, h2⟩ := r.2 i d h; ⟨v, h1, h2.mono x⟩⟩
theorem RelE.set {K : PySem.W.Frag} {H : Hp} {M : Pl} {e : Ev} {σ : L2.St} {d : D} {v : V} (r : RelE K H M e σ) (i : Nat) (q : RelD K H M d v) : RelE K H M (e.set i (some d)) (σ.set i (some v)) := by
  refine ⟨by simp [r.1], fun j d' h => ?_⟩
  by_cases hj : j = i
  · subst hj
    by_cases hl : j < e.length
    · rw [List.getElem?_set_self hl] at h; cases h
      exact ⟨v, by rw [List.getElem?_set_self (by rw [r.1]; exact hl)], q⟩
    · rw [List.getElem?_eq_none (by simp; omega)] at h; cases h
  · rw [List.getElem?_set_ne (Ne.symm hj)] at h
    obtain ⟨u, h1, h2⟩ := r.2 j d' h
    exact ⟨u, by rw [List.getElem?_set_ne (Ne.symm hj)]; exact h1, h2⟩

/-! ## the judgements -/
/-- e does what v says -/
def DE (X : Cx) (e : Expr) (v : Ev → Sto → R D) : Prop := ∀ W, Takes X W → ∃ t, PE X e t ∧ ∀ (σ : L2.St) (H : Hp) (M : Pl) (env : Ev) (S : Sto) (Q : VK), RelE X.K H M env σ → RelS X.K H M S →
  WPE X.K X.mg H M (v env S) Q (fun c d H' => W c d σ H') → t σ H Q
def DT (X : Cx) (e : Expr) (v : Ev → Sto → R Bool) : Prop := ∀ W, Takes X W → ∃ t, PT X e t ∧ ∀ (σ : L2.St) (H : Hp) (M : Pl) (env : Ev) (S : Sto) (Q : Bool → Hp → Prop), RelE X.K H M env σ → RelS X.K H M S →
  WPT X.K X.mg H M (v env S) Q (fun c d H' => W c d σ H') → t σ H Q
def DA (X : Cx) (es : List Expr) (v : Ev → Sto → R (List D)) : Prop := ∀ W, Takes X W → ∃ t, PA X es t ∧ ∀ (σ : L2.St) (H : Hp) (M : Pl) (env : Ev) (S : Sto) (Q : List V → Hp → Prop), RelE X.K H M env σ → RelS X.K H M S →
  WPA X.K X.mg H M (v env S) Q (fun c d H' => W c d σ H') → t σ H Q

section
variable {X : Cx} {a b c : Expr} {va vb vc : Ev → Sto → R D} {pos : Pos}
theorem de_var {i : Nat} {x : Str} (hN : X.N[i]? = some x) (hv : Vis X.env.scope x) (hd : (x == ("__debug__" : Str)) = false) (hcd : (x == ("__classdict__" : Str)) = false) : DE X (.Name x pos) (fun e S => dVar i e S) := by
  intro W tk
  refine ⟨_, pe_var hN hv hd hcd, fun σ H M env S Q re rs h => ?_⟩
  replace h : WPE X.K X.mg H M (dVar i env S) Q (fun c d H' => W c d σ H') := h
  unfold dVar at h
  cases hi : env[i]? with
  | none => rw [hi] at h; exact h.elim
  | some o =>
    rw [hi] at h
    cases o with
    | none => exact h.elim
    | some d =>
      obtain ⟨v, h1, h2⟩ := re.2 i d hi
      exact ⟨v, h1, h v H M (Ext.refl _ _) rs h2⟩
/-- a constant -/
theorem de_k {d : D} {v : V} {e : Expr} (hp : PE X e (tC v)) (r : ∀ H M, RelD X.K H M d v) : DE X e (fun _ S => .ok d S) := by
  intro W tk
  exact ⟨_, hp, fun σ H M env S Q re rs h => h v H M (Ext.refl _ _) rs (r H M)⟩
theorem de_opt {d : D} {o : Option D} {v : V} {e : Expr} (hp : PE X e (tC v)) (ho : o = some d) (r : ∀ H M, RelD X.K H M d v) : DE X e (fun _ S => R.opt S o) := by
  subst ho
  exact de_k hp r
/-- an operator by values -/
theorem de_op2 {f : D → D → Sto → R D} {e : Expr} (h2 : ∃ r : R2, (∀ ta tb, PE X a ta → PE X b tb → PE X e (tOp r ta tb)) ∧ ∀ (H : Hp) (M : Pl) (S : Sto) (x y : V) (dx dy : D) (Q : VK) (E : XK), RelS X.K H M S → RelD X.K H M dx x → RelD X.K H M dy y →
      WPE X.K X.mg H M (f dx dy S) Q E → r x y H Q) (ha : DE X a va) (hb : DE X b vb) :
    DE X e (fun e S => (va e S).bind fun x S1 => (vb e S1).bind fun y S2 => f x y S2) := by
  intro W tk
  obtain ⟨r, hr, hq⟩ := h2
  obtain ⟨ta, pa, qa⟩ := ha W tk
  obtain ⟨tb, pb, qb⟩ := hb W tk
  refine ⟨_, hr _ _ pa pb, fun σ H M env S Q re rs h => ?_⟩
  refine qa σ H M env S _ re rs (WPE.bind h fun dx S1 x H1 M1 x1 rs1 rx h1 => ?_)
  refine qb σ H1 M1 env S1 _ (re.mono x1) rs1 (WPE.bind h1 fun dy S2 y H2 M2 x2 rs2 ry h2 => ?_)
  exact hq H2 M2 S2 x y dx dy Q _ rs2 (rx.mono x2) ry h2
theorem de_un {f : D → Sto → R D} {e : Expr} {r : V → Hp → VK → Prop} (h1 : ∀ ta, PE X a ta → PE X e (tUn r ta)) (hq : ∀ (H : Hp) (M : Pl) (S : Sto) (x : V) (dx : D) (Q : VK) (E : XK), RelS X.K H M S → RelD X.K H M dx x →
      WPE X.K X.mg H M (f dx S) Q E → r x H Q) (ha : DE X a va) : DE X e (fun e S => (va e S).bind f) := by
  intro W tk
  obtain ⟨ta, pa, qa⟩ := ha W tk
  refine ⟨_, h1 _ pa, fun σ H M env S Q re rs h => ?_⟩
  exact qa σ H M env S _ re rs (WPE.bind h fun dx S1 x H1 M1 x1 rs1 rx h1 => hq H1 M1 S1 x dx Q _ rs1 rx h1)
theorem da_nil : DA X [] (fun _ S => .ok [] S) := by
  intro W tk
  exact ⟨_, pa_nil, fun σ H M env S Q re rs h => h [] H M (Ext.refl _ _) rs .nil⟩
theorem da_cons {e : Expr} {es : List Expr} {v : Ev → Sto → R D} {vs : Ev → Sto → R (List D)} (hs : starEach (e :: es) X.env = (false, eval e X.env) :: starEach es X.env) (ha : DE X e v) (hr : DA X es vs) :
    DA X (e :: es) (fun e S => (v e S).bind fun x S1 => (vs e S1).bind fun xs S2 => .ok (x :: xs) S2) := by
  intro W tk
  obtain ⟨ta, pa, qa⟩ := ha W tk
  obtain ⟨tb, pb, qb⟩ := hr W tk
  refine ⟨_, pa_cons pa pb hs, fun σ H M env S Q re rs h => ?_⟩
  refine qa σ H M env S _ re rs (WPE.bindA h fun dx S1 x H1 M1 x1 rs1 rx h1 => ?_)
  refine qb σ H1 M1 env S1 _ (re.mono x1) rs1 (WPA.bind h1 fun dy S2 y H2 M2 x2 rs2 ry h2 => ?_)
  exact h2 (x :: y) H2 M2 (Ext.refl _ _) rs2 (.cons (rx.mono x2) ry)
/-- a call by values -/
theorem de_args {es : List Expr} {vs : Ev → Sto → R (List D)} {f : List D → Sto → R D} {e : Expr} {r : List V → Hp → VK → Prop} (h1 : ∀ ta, PA X es ta → PE X e (fun σ H Q => ta σ H fun vs H1 => r vs H1 Q))
    (hq : ∀ (H : Hp) (M : Pl) (S : Sto) (xs : List V) (ds : List D) (Q : VK) (E : XK), RelS X.K H M S → RelDs X.K H M ds xs → WPE X.K X.mg H M (f ds S) Q E → r xs H Q) (ha : DA X es vs) :
    DE X e (fun e S => (vs e S).bind f) := by
  intro W tk
  obtain ⟨ta, pa, qa⟩ := ha W tk
  refine ⟨_, h1 _ pa, fun σ H M env S Q re rs h => ?_⟩
  exact qa σ H M env S _ re rs (WPA.bindE h fun dx S1 x H1 M1 x1 rs1 rx h1 => hq H1 M1 S1 x dx Q _ rs1 rx h1)
end
end Pw

set_option Elab.async false
set_option linter.all false
set_option maxRecDepth 100000
namespace Pw
open PySem PySem.Spec PyProof.Rows L2

/-! ## what is read -/
inductive RdD (K : PySem.W.Frag) (H : Hp) (M : Pl) : D → V → Prop
  | non : RdD K H M .non .non
  | bl (b : Bool) : RdD K H M (.bl b) (.bl b)
  | int (i : Int) : RdD K H M (.int i) (.int i)
  | str (x : Str) : RdD K H M (.str x) (.str x)
  | tup {a : Addr} {vs : List V} {ds : List D} : TupAt K H a vs → RelDs K H M ds vs → RdD K H M (.tup ds) (.ref a)
  | lst {a : Addr} {vs : List V} {ds : List D} : SqL K H a vs → RelDs K H M ds vs → RdD K H M (.lst ds) (.ref a)
  | dctK {a : Addr} {kvs : List (Key × V)} {ks ds : List D} : H a = some (.dK kvs) → ks = (kvs.map (·.1)).map kD → RelDs K H M ds (kvs.map (·.2)) → RdD K H M (.dct ks ds) (.ref a)
section
variable {K : PySem.W.Frag} {mg : Str → Option Value} {H H' : Hp} {M M' : Pl} {S : Sto} {E : XK} {Q : VK}
theorem rd_rel (rs : RelS K H M S) {d : D} {v : V} (r : RelD K H M d v) : RdD K H M (rd S d) v := by
  cases r with
  | non => exact .non
  | bl b => exact .bl b
  | int i => exact .int i
  | str x => exact .str x
  | tup h r => exact .tup h r
  | lst h n q r => exact .lst (.inl h) r
  | lstF h r => exact .lst h.sq r
  | dctK h n q e r => exact .dctK h e r
  | @ref l a h =>
    obtain ⟨m, hm⟩ := rs.lt h
    obtain ⟨o, ho, q⟩ := rs.at_ l a m h hm
    rw [rd_ref, hm]
    cases m with
    | lst xs => obtain ⟨vs, rfl, r⟩ := q; exact .lst (.inl (.inl ho)) r
    | dct ks ds =>
      obtain ⟨kvs, rfl, e, r⟩ := q
      exact .dctK ho e r
theorem RdD.sqL {d : List D} {v : V} (r : RdD K H M (.lst d) v) : ∃ a vs, v = .ref a ∧ SqL K H a vs ∧ RelDs K H M d vs := by
  cases r with | lst h r => exact ⟨_, _, rfl, h, r⟩
theorem RdD.sqT {d : List D} {v : V} (r : RdD K H M (.tup d) v) : ∃ a vs, v = .ref a ∧ TupAt K H a vs ∧ RelDs K H M d vs := by
  cases r with | tup h r => exact ⟨_, _, rfl, h, r⟩
theorem RdD.int_ {i : Int} {v : V} (r : RdD K H M (.int i) v) : v = .int i := by cases r; rfl
theorem RdD.str_ {i : Str} {v : V} (r : RdD K H M (.str i) v) : v = .str i := by cases r; rfl
theorem RelD.int_ {i : Int} {v : V} (r : RelD K H M (.int i) v) : v = .int i := by cases r; rfl
theorem RelD.bl_ {i : Bool} {v : V} (r : RelD K H M (.bl i) v) : v = .bl i := by cases r; rfl
theorem RelD.non_ {v : V} (r : RelD K H M .non v) : v = .non := by cases r; rfl
theorem RelD.str_ {i : Str} {v : V} (r : RelD K H M (.str i) v) : v = .str i := by cases r; rfl
theorem RelD.ref_ {l : Nat} {v : V} (r : RelD K H M (.ref l) v) : ∃ a, v = .ref a ∧ M.m[l]? = some a := by cases r with | ref h => exact ⟨_, rfl, h⟩
theorem seqOf_rel (rs : RelS K H M S) {d : D} {v : V} {xs : List D} (r : RelD K H M d v) (h : seqOf S d = some xs) : ∃ a vs, v = .ref a ∧ (SqL K H a vs ∨ TupAt K H a vs) ∧ RelDs K H M xs vs := by
  have q := rd_rel rs r
  unfold seqOf at h
  cases e : rd S d with
  | tup ys => rw [e] at h q; cases h; obtain ⟨a, vs, h1, h2, h3⟩ := q.sqT; exact ⟨a, vs, h1, .inr h2, h3⟩
  | lst ys => rw [e] at h q; cases h; obtain ⟨a, vs, h1, h2, h3⟩ := q.sqL; exact ⟨a, vs, h1, .inl h2, h3⟩
  | _ => rw [e] at h; cases h
theorem lstOf_rel (rs : RelS K H M S) {d : D} {v : V} {xs : List D} (r : RelD K H M d v) (h : lstOf S d = some xs) : ∃ a vs, v = .ref a ∧ SqL K H a vs ∧ RelDs K H M xs vs := by
  have q := rd_rel rs r
  unfold lstOf at h
  cases e : rd S d with
  | lst ys => rw [e] at h q; cases h; exact q.sqL
  | _ => rw [e] at h; cases h
mutual
theorem RelD.dp : ∀ {d : D} {v : V} {p : PyData}, RelD K H M d v → d.toPy = some p → Dp K H v p
  | _, _, _, .non, h => by simp only [D.toPy, Option.some.injEq] at h; subst h; exact .non
  | _, _, _, .bl b, h => by simp only [D.toPy, Option.some.injEq] at h; subst h; exact .bl b
  | _, _, _, .int b, h => by simp only [D.toPy, Option.some.injEq] at h; subst h; exact .int b
  | _, _, _, .str b, h => by simp only [D.toPy, Option.some.injEq] at h; subst h; exact .str b
  | _, _, _, .tup (ds := ds) hs r, h => by
    simp only [D.toPy, Option.map_eq_some_iff] at h
    obtain ⟨ps, h, rfl⟩ := h
    exact .tup hs.sq (RelDs.dp r h)
  | _, _, _, .lst (ds := ds) hs _ _ r, h => by
    simp only [D.toPy, Option.map_eq_some_iff] at h
    obtain ⟨ps, h, rfl⟩ := h
    exact .lst (.inl hs) (RelDs.dp r h)
  | _, _, _, .lstF (ds := ds) hs r, h => by
    simp only [D.toPy, Option.map_eq_some_iff] at h
    obtain ⟨ps, h, rfl⟩ := h
    exact .lst hs.sq (RelDs.dp r h)
  | _, _, _, .dctK _ _ _ _ _, h => by simp [D.toPy] at h
  | _, _, _, .ref _, h => by simp [D.toPy] at h
theorem RelDs.dp : ∀ {ds : List D} {vs : List V} {ps : List PyData}, RelDs K H M ds vs → D.toPys ds = some ps → DpAll K H vs ps
  | _, _, _, .nil, h => by simp only [D.toPys, Option.some.injEq] at h; subst h; exact .nil
  | _, _, _, .cons (d := d) (ds := ds) r rs, h => by
    simp only [D.toPys] at h
    cases h1 : d.toPy with
    | none => rw [h1] at h; cases h
    | some p =>
      cases h2 : D.toPys ds with
      | none => rw [h1, h2] at h; cases h
      | some ps => rw [h1, h2] at h; cases h; exact .cons (RelD.dp r h1) (RelDs.dp rs h2)
end
theorem RdD.dp {d : D} {v : V} {p : PyData} (r : RdD K H M d v) (h : d.toPy = some p) : Dp K H v p := by
  cases r with
  | non => simp only [D.toPy, Option.some.injEq] at h; subst h; exact .non
  | bl b => simp only [D.toPy, Option.some.injEq] at h; subst h; exact .bl b
  | int b => simp only [D.toPy, Option.some.injEq] at h; subst h; exact .int b
  | str b => simp only [D.toPy, Option.some.injEq] at h; subst h; exact .str b
  | tup hs r =>
    simp only [D.toPy, Option.map_eq_some_iff] at h
    obtain ⟨ps, h, rfl⟩ := h
    exact .tup hs.sq (r.dp h)
  | lst hs r =>
    simp only [D.toPy, Option.map_eq_some_iff] at h
    obtain ⟨ps, h, rfl⟩ := h
    exact .lst hs (r.dp h)
  | dctK _ _ _ => simp [D.toPy] at h
/-- a new list: frozen, or put into the store -/
theorem WPE.mkL {bx : Bool} {xs : List D} (rs : RelS K H M S) (h : WPE K mg H M (mkL bx xs S) Q E) : xs.length ≤ sizeLine ∧ ∀ vs p, RelDs K H M xs vs → H p = none → Q (.ref p) (upd H p (.lst vs)) := by
  unfold Pw.mkL at h
  by_cases hl : xs.length ≤ sizeLine
  · rw [if_pos hl] at h
    refine ⟨hl, fun vs p r hp => ?_⟩
    cases bx with
    | false =>
      have np : p ∉ M.m := fun z => by obtain ⟨u, e, _⟩ := rs.tracked z; rw [hp] at e; cases e
      have nr : p ∉ M.r := fun z => by obtain ⟨_, u, e⟩ := rs.apart p z; rw [hp] at e; cases e
      exact h (.ref p) _ M (Ext.new hp) (rs.new hp) (.lst (.inl upd_same) np nr (r.mono (Ext.new hp)))
    | true =>
      refine h (.ref p) _ ⟨M.m ++ [p], M.r⟩ (Ext.newB hp) (rs.newB hp ⟨vs, rfl, r⟩) (.ref ?_)
      show (M.m ++ [p])[S.length]? = some p
      rw [← rs.len, List.getElem?_append_right (Nat.le_refl _)]
      simp
  · rw [if_neg hl] at h; exact h.elim
theorem WPE.ok {d : D} (h : WPE K mg H M (.ok d S) Q E) {v : V} (rs : RelS K H M S) (r : RelD K H M d v) : Q v H := h v H M (Ext.refl _ _) rs r
/-- a new tuple -/
theorem WPE.okT {xs : List D} {vs : List V} (rs : RelS K H M S) (h : WPE K mg H M (.ok (.tup xs) S) Q E) (r : RelDs K H M xs vs) {p : Addr} {o : Obj} (hp : H p = none) (ho : o.dict = none) : Q (.ref p) (upd H p (.frz o (.tup vs))) :=
  h (.ref p) _ M (Ext.new hp) (rs.new hp) (.tup (.inl ⟨o, upd_same, ho⟩) (r.mono (Ext.new hp)))
end

/-! ## tuples, made -/
section
variable {X : Cx} {a b c : Expr} {pos : Pos}
/-- what is wanted of a new tuple -/
def NewT (vs : List V) (H : Hp) (Q : VK) : Prop := ∀ p o, H p = none → o.dict = none → Q (.ref p) (upd H p (.frz o (.tup vs)))
theorem Inv.newT {pins : List (Addr × Obj)} {σ : L2.St} {H : Hp} {s : Shared} {t' : Nat} {vs : List V} {its : List Value} {Q : VK} (I : Inv X pins σ H s) (r : Vals vs its) (hz : vs.length ≤ sizeLine) (q : NewT vs H Q) :
    EP X pins σ Q (.ref s.heap.objs.size) { s with heap := s.heap.push { cls := .type "tuple", data := .seq its.toArray }, toks := t' } := by
  have hf : H s.heap.objs.size = none := I.hok.fresh (Nat.le_refl _)
  refine ⟨.ref s.heap.objs.size, upd H s.heap.objs.size (.frz { cls := .type "tuple", data := .seq its.toArray } (.tup vs)), I.laid (t' := t') (fun b u e => Heap.get?_push_of_some _ e) (Nat.le_refl _) ?_, rfl, q _ _ hf rfl⟩
  exact ⟨Heap.get?_push_size _ rfl, hz, its, r, IsTup.new _ _⟩
def tTupF (t : TA) : TE := fun σ H Q => t σ H fun xs H1 => xs.length ≤ sizeLine ∧ NewT xs H1 Q
theorem pe_tupF {es : List Expr} {t : TA} {x1} (h : PA X es t) : PE X (.Tuple es x1 pos) (tTupF t) := by
  refine ⟨fun pins s σ H Q I hq => ?_⟩
  exact wpAny_Tuple_spliced (thn (h.run pos pins s σ H _ I hq) fun us s1 ⟨xs, H1, I1, r, z, q⟩ => ⟨by rw [← r.length]; exact z, Inv.newT (t' := s1.toks) I1 r z q⟩)
/-- t + u -/
def rCatF (K : PySem.W.Frag) : R2 := fun x y H Q => ∃ a b xs ys, x = .ref a ∧ y = .ref b ∧ SqT K H a xs ∧ SqT K H b ys ∧ xs.length + ys.length ≤ sizeLine ∧
  (xs = [] → Q (.ref b) H) ∧ (xs ≠ [] → ys = [] → Q (.ref a) H) ∧ (xs ≠ [] → ys ≠ [] → NewT (xs ++ ys) H Q)
theorem op_catF : OpR X (binaryOp .Add) (rCatF X.K) := by
  intro pins s σ H x y v u Q I rx ry h
  obtain ⟨a, b, xs, ys, rfl, rfl, ha, hb, hz, q0, q1, q2⟩ := h
  cases rx
  cases ry
  obtain ⟨its, r1, p1, _⟩ := I.tuple ha
  obtain ⟨its2, r2, p2, _⟩ := I.tuple hb
  by_cases hx : xs = []
  · subst hx
    cases r1
    exact cat_tup0 p1 p2 ⟨.ref b, H, I, rfl, q0 rfl⟩
  · refine HT.cat_tup p1 p2 (fun z => hx (r1.nil_iff.mp z)) (fun z => ⟨.ref a, H, I, rfl, q1 hx (r2.nil_iff.mp z)⟩) (fun z => ?_) (by rw [← r1.length, ← r2.length]; exact hz)
    exact Inv.newT (t' := s.toks) I (r1.append r2) (by rw [List.length_append]; exact hz) (q2 hx fun w => z (r2.nil_iff.mpr w))
/-- t[lo:hi] -/
def rSlF (K : PySem.W.Frag) : V → Option Int → Option Int → Hp → VK → Prop := fun x lo hi H Q => ∃ a xs, x = .ref a ∧ SqT K H a xs ∧
  (HT.sIx xs.length 0 lo = 0 ∧ HT.sIx xs.length xs.length hi = xs.length → Q (.ref a) H) ∧ (¬ (HT.sIx xs.length 0 lo = 0 ∧ HT.sIx xs.length xs.length hi = xs.length) → NewT (cutV xs lo hi) H Q)
theorem sl_tupF : SlR X (rSlF X.K) := by
  intro pins s σ H x v vl vu lo hi sl Q I rx hs pl pu h
  obtain ⟨a, xs, rfl, hx, q1, q2⟩ := h
  cases rx
  obtain ⟨its, r, ht, hz⟩ := I.tuple hx
  have hlen : its.toArray.size = xs.length := by rw [List.size_toArray]; exact r.length.symm
  refine ⟨"tuple", _, PyProof.Rows.slot_tuple_getitem.lookup, ht.typeIs, ?_⟩
  by_cases hw : HT.sIx xs.length 0 lo = 0 ∧ HT.sIx xs.length xs.length hi = xs.length
  · exact getItem_tuple_whole ht hs pl pu (by rw [hlen]; exact hw) ⟨.ref a, H, I, rfl, q1 hw⟩
  · refine HT.getItem_tuple_cut ht hs pl pu (by rw [hlen]; exact hw) ?_ (by rw [hlen]; exact hz)
    rw [hlen]
    exact Inv.newT (t' := s.toks) I ((r.drop (HT.sIx xs.length 0 lo)).take (HT.sIx xs.length xs.length hi - HT.sIx xs.length 0 lo)) (Nat.le_trans (cutV_length xs lo hi) hz) (q2 hw)
/-- tuple(xs) -/
theorem call_tupleF : CallR X (.type "tuple") (fun xs H Q => ∃ p ys, xs = [.ref p] ∧ ((SqL X.K H p ys ∧ NewT ys H Q) ∨ (SqT X.K H p ys ∧ Q (.ref p) H))) := by
  intro pins s σ H xs us Q I r h
  obtain ⟨p, ys, rfl, h⟩ := h
  obtain ⟨u, rfl, rx⟩ := vals1 r
  cases rx
  rcases h with ⟨hq, q⟩ | ⟨hq, q⟩
  · obtain ⟨its, r', pl, hz⟩ := I.list hq
    have hlen := r'.length
    refine call_tuple_list pl.isList (fun h' kp => ?_) (by simp only [List.size_toArray] <;> omega)
    have I1 : Inv X pins σ H { s with heap := h' } := I.kept (t' := s.toks) kp
    exact Inv.newT (t' := s.toks) I1 r' hz q
  · obtain ⟨its, r', pl, hz⟩ := I.tuple hq
    exact call_tuple_same pl ⟨.ref p, H, I, rfl, q⟩
/-- t * k -/
def rRepF (K : PySem.W.Frag) : R2 := fun x y H Q => ∃ l k xs, x = .ref l ∧ y = .int k ∧ SqT K H l xs ∧ 2 ≤ k ∧ k ≤ 1000 ∧ xs.length ≤ 1000 ∧ (xs = [] → Q (.ref l) H) ∧ (xs ≠ [] → NewT (List.replicate k.toNat xs).flatten H Q)
theorem tuple_mul0 (l : Addr) (items : Array Value) (n : Nat) (dd : Option Addr) (sl : Array (Option Value)) (x : Int) (u : Tok) (c0 : (decide (x < -(2 ^ 63)) || decide (x ≥ 2 ^ 63)) = false) (c1 : (items.isEmpty || x == 1) = true) :
    Meets (Builtin.«tuple.__mul__» ⟨[.ref l, .int x u], []⟩) (fun _ R s => s.heap.get? l = some { cls := .type "tuple", dict := dd, data := .seq items n, slots := sl } ∧
      R (.ok (.ret (Value.ref l))) s) :=
  .of_wp fun prog w A R s h => by
    obtain ⟨hp, g, d, tk, os⟩ := s
    obtain ⟨hl, h⟩ := h
    have f1 := AutoSeq1.idx_int
    wp_walk using wpAny_loadPart' hl
    repeat (first
      | (refine wpAny_ite_false (decide_eq_false (by rw [c0]; exact Bool.false_ne_true)) ?_; wp_walk using wpAny_loadPart' hl)
      | (refine wpAny_ite_true (decide_eq_true c1) ?_; wp_walk using wpAny_loadPart' hl))
    exact ⟨_, rfl, h⟩
end

/-! ## operators -/
section
variable {X : Cx} {a b c : Expr} {pos : Pos}
def rCatG (K : PySem.W.Frag) : R2 := fun x y H Q => ∃ l b xs zs, x = .ref l ∧ y = .ref b ∧ SqL K H l xs ∧ SqL K H b zs ∧ xs.length + zs.length ≤ sizeLine ∧ ∀ p, H p = none → Q (.ref p) (upd H p (.lst (xs ++ zs)))
theorem op_catG : OpR X (binaryOp .Add) (rCatG X.K) := by
  intro pins s σ H x y v u Q I rx ry h
  obtain ⟨l, b, xs, zs, rfl, rfl, hH, hB, hz, q⟩ := h
  cases rx
  cases ry
  obtain ⟨its, r, ⟨⟨cls, dd, data, sl⟩, n, ho, hc, hdn, hd⟩, _⟩ := I.list hH
  obtain ⟨its2, r2, ⟨⟨cls2, dd2, data2, sl2⟩, n2, ho2, hc2, hdn2, hd2⟩, _⟩ := I.list hB
  simp only at hc hd hc2 hd2
  subst hc hd hc2 hd2
  have hl := r.length
  have hl2 := r2.length
  have ea : its.toArray ++ its2.toArray = (its ++ its2).toArray := by simp
  refine concat_meets ⟨_, ho, rfl⟩ ⟨_, ho2, rfl⟩ noFill_list_add seq_list_add PySem.F.slot_list_add PySem.F.entry_list_add (PySem.F.args_list_add_2 _ _) (list_addW l b its.toArray its2.toArray n n2 dd dd2 sl sl2 (by rw [List.size_toArray, List.size_toArray]; omega)) ⟨ho, ho2, ?_⟩
  rw [ea]
  exact ⟨.ref _, _, I.lnew (t' := s.toks) (r.append r2) (by rw [List.length_append]; omega), rfl, q _ I.fresh⟩
def rAddAll (K : PySem.W.Frag) : R2 := fun x y H Q => (∃ i j, x = .int i ∧ y = .int j ∧ Q (.int (i + j)) H) ∨ (∃ i j, x = .str i ∧ y = .str j ∧ i.length + j.length ≤ sizeLine ∧ Q (.str (i ++ j)) H) ∨ rCatF K x y H Q ∨ rCatG K x y H Q
theorem op_addAll : OpR X (binaryOp .Add) (rAddAll X.K) := op_add.or (op_add_str.or (op_catF.or op_catG))
theorem add_ok {bx : Bool} {H : Hp} {M : Pl} {S : Sto} {x y : V} {dx dy : D} {Q : VK} {E : XK} (rs : RelS X.K H M S) (rx : RelD X.K H M dx x) (ry : RelD X.K H M dy y)
    (h : WPE X.K X.mg H M (binop .add bx dx dy S) Q E) : rAddAll X.K x y H Q := by
  replace h : WPE X.K X.mg H M (bAdd bx S (rd S dx) (rd S dy)) Q E := h
  have qx := rd_rel rs rx
  have qy := rd_rel rs ry
  cases ex : rd S dx with
  | int i =>
    rw [ex] at h qx
    cases ey : rd S dy with
    | int j =>
      rw [ey] at h qy
      rw [qx.int_, qy.int_]
      exact .inl ⟨i, j, rfl, rfl, WPE.ok h rs (.int _)⟩
    | _ => rw [ey] at h; exact h.elim
  | str i =>
    rw [ex] at h qx
    cases ey : rd S dy with
    | str j =>
      rw [ey] at h qy
      rw [qx.str_, qy.str_]
      simp only [bAdd] at h
      split at h
      · exact .inr (.inl ⟨i, j, rfl, rfl, ‹_›, WPE.ok h rs (.str _)⟩)
      · exact h.elim
    | _ => rw [ey] at h; exact h.elim
  | tup xs =>
    rw [ex] at h qx
    cases ey : rd S dy with
    | tup ys =>
      rw [ey] at h qy
      obtain ⟨a1, v1, rfl, s1, r1⟩ := qx.sqT
      obtain ⟨a2, v2, rfl, s2, r2⟩ := qy.sqT
      simp only [bAdd] at h
      split at h
      · rename_i hz
        refine .inr (.inr (.inl ⟨a1, a2, v1, v2, rfl, rfl, s1.sq, s2.sq, by rw [← r1.length, ← r2.length]; exact hz, fun e => ?_, fun e1 e2 => ?_, fun _ _ p o hp ho => WPE.okT rs h (r1.append r2) hp ho⟩))
        · subst e
          have : xs = [] := List.length_eq_zero_iff.mp (by rw [r1.length]; rfl)
          subst this
          exact h _ H M (Ext.refl _ _) rs (.tup s2 (by simpa using r2))
        · subst e2
          have : ys = [] := List.length_eq_zero_iff.mp (by rw [r2.length]; rfl)
          subst this
          exact h _ H M (Ext.refl _ _) rs (.tup s1 (by simpa using r1))
      · exact h.elim
    | _ => rw [ey] at h; exact h.elim
  | lst xs =>
    rw [ex] at h qx
    cases ey : rd S dy with
    | lst ys =>
      rw [ey] at h qy
      obtain ⟨a1, v1, rfl, s1, r1⟩ := qx.sqL
      obtain ⟨a2, v2, rfl, s2, r2⟩ := qy.sqL
      simp only [bAdd] at h
      obtain ⟨hl, k⟩ := WPE.mkL rs h
      refine .inr (.inr (.inr ⟨a1, a2, v1, v2, rfl, rfl, s1, s2, ?_, fun p hp => k _ p (r1.append r2) hp⟩))
      rw [← r1.length, ← r2.length, ← List.length_append]
      exact hl
    | _ => rw [ey] at h; exact h.elim
  | _ => rw [ex] at h; exact h.elim
theorem int_ok {f : Int → Int → Option Int} {C : Int → Int → Prop} {g : Int → Int → Int} (hf : ∀ i j k, f i j = some k → C i j ∧ k = g i j) {H : Hp} {M : Pl} {S : Sto} {x y : V} {dx dy : D} {Q : VK} {E : XK} (rs : RelS X.K H M S) (rx : RelD X.K H M dx x) (ry : RelD X.K H M dy y)
    (h : WPE X.K X.mg H M (bInt S f dx dy) Q E) : rI C (fun i j => .int (g i j)) x y H Q := by
  cases dx with
  | int i =>
    cases dy with
    | int j =>
      rw [rx.int_, ry.int_]
      simp only [bInt] at h
      cases e : f i j with
      | none => rw [e] at h; exact h.elim
      | some k =>
        rw [e] at h
        obtain ⟨hc, rfl⟩ := hf i j k e
        exact ⟨i, j, rfl, rfl, hc, WPE.ok h rs (.int _)⟩
    | _ => exact h.elim
  | _ => exact h.elim
end
end Pw

set_option Elab.async false
set_option linter.all false
set_option maxRecDepth 100000
namespace Pw
open PySem PySem.Spec PyProof.Rows L2
section
variable {X : Cx} {H : Hp} {M : Pl} {S : Sto} {Q : VK} {E : XK}
mutual
theorem toPy_plain : ∀ (d : D) (p : PyData), d.toPy = some p → p.plain = true
  | .non, _, h => by simp only [D.toPy, Option.some.injEq] at h; subst h; rfl
  | .bl b, _, h => by simp only [D.toPy, Option.some.injEq] at h; subst h; rfl
  | .int b, _, h => by simp only [D.toPy, Option.some.injEq] at h; subst h; rfl
  | .str b, _, h => by simp only [D.toPy, Option.some.injEq] at h; subst h; rfl
  | .tup xs, _, h => by
    simp only [D.toPy, Option.map_eq_some_iff] at h
    obtain ⟨ps, h, rfl⟩ := h
    simp only [PyData.plain]; exact toPys_plain xs ps h
  | .lst xs, _, h => by
    simp only [D.toPy, Option.map_eq_some_iff] at h
    obtain ⟨ps, h, rfl⟩ := h
    simp only [PyData.plain]; exact toPys_plain xs ps h
  | .dct _ _, _, h => by simp [D.toPy] at h
  | .ref _, _, h => by simp [D.toPy] at h
theorem toPys_plain : ∀ (ds : List D) (ps : List PyData), D.toPys ds = some ps → PyData.plainAll ps = true
  | [], _, h => by simp only [D.toPys, Option.some.injEq] at h; subst h; rfl
  | d :: ds, _, h => by
    simp only [D.toPys] at h
    cases h1 : d.toPy with
    | none => rw [h1] at h; cases h
    | some p =>
      cases h2 : D.toPys ds with
      | none => rw [h1, h2] at h; cases h
      | some ps =>
        rw [h1, h2] at h; cases h
        simp only [PyData.plainAll, toPy_plain d p h1, toPys_plain ds ps h2, Bool.and_self]
end
/-- == and != -/
def rEqP (K : PySem.W.Frag) (ng : Bool) : R2 := fun x y H Q => ∃ p q, Dp K H x p ∧ Dp K H y q ∧ p.plain = true ∧ q.plain = true ∧ min p.depth q.depth ≤ 60 ∧ Q (.bl (if ng then !PyData.eqv p q else PyData.eqv p q)) H
theorem op_eqP (hu : X.A.units + 64 < cLine) : OpR X (compareOp .Eq) (rEqP X.K false) := by
  intro pins s σ H x y v u Q I rx ry h
  obtain ⟨d, e, hd, he, sd, se, hm, q⟩ := h
  obtain ⟨as, r1⟩ := Dp.reads I d x v hd rx
  obtain ⟨bs, r2⟩ := Dp.reads I e y u he ry
  exact SeqAt.eq_plain r1 r2 sd se (by omega) ⟨.bl _, H, I, rfl, q⟩
theorem op_neP (hu : X.A.units + 64 < cLine) : OpR X (compareOp .NotEq) (rEqP X.K true) := by
  intro pins s σ H x y v u Q I rx ry h
  obtain ⟨d, e, hd, he, sd, se, hm, q⟩ := h
  obtain ⟨as, r1⟩ := Dp.reads I d x v hd rx
  obtain ⟨bs, r2⟩ := Dp.reads I e y u he ry
  exact SeqAt.ne_plain r1 r2 sd se (by omega) ⟨.bl _, H, I, rfl, q⟩
theorem deq_ok (rs : RelS X.K H M S) {x y : V} {dx dy : D} (rx : RelD X.K H M dx x) (ry : RelD X.K H M dy y) {k : Bool} (h : deq S dx dy = some k) :
    ∃ p q, Dp X.K H x p ∧ Dp X.K H y q ∧ p.plain = true ∧ q.plain = true ∧ min p.depth q.depth ≤ 60 ∧ k = PyData.eqv p q := by
  unfold deq at h
  cases hp : pyd S dx with
  | none => rw [hp] at h; cases h
  | some p =>
    cases hq : pyd S dy with
    | none => rw [hp, hq] at h; cases h
    | some q =>
      rw [hp, hq] at h
      simp only at h
      split at h
      · cases h
        exact ⟨p, q, (rd_rel rs rx).dp hp, (rd_rel rs ry).dp hq, toPy_plain _ _ hp, toPy_plain _ _ hq, ‹_›, rfl⟩
      · cases h
/-- membership -/
def rInP (K : PySem.W.Frag) (ng : Bool) : R2 := fun x y H Q => ∃ p ps b vs, y = .ref b ∧ Dp K H x p ∧ DpAll K H vs ps ∧ (SqL K H b vs ∨ SqT K H b vs) ∧ p.plain = true ∧ PyData.plainAll ps = true ∧ min (PyData.depthAll ps) p.depth ≤ 60 ∧
  Q (.bl (if ng then !(ps.any fun y => PyData.eqv y p) else ps.any fun y => PyData.eqv y p)) H
theorem op_inP (hu : X.A.units + 64 < cLine) : OpR X (compareOp .In) (rInP X.K false) := by
  intro pins s σ H x y v u Q I rx ry h
  obtain ⟨p, ps, b, vs, rfl, hp, hps, hs, pp, pq, hm, q⟩ := h
  obtain ⟨as, r1⟩ := Dp.reads I p x v hp rx
  rcases hs with hs | hs
  · obtain ⟨bs, r2⟩ := Dp.reads I (.list ps) (.ref b) u (.lst hs hps) ry
    exact SeqAt.in_list_data r2 r1 pq pp (by omega) ⟨.bl _, H, I, rfl, q⟩
  · obtain ⟨bs, r2⟩ := Dp.reads I (.tuple ps) (.ref b) u (.tup hs hps) ry
    exact SeqAt.in_tuple_data r2 r1 pq pp (by omega) ⟨.bl _, H, I, rfl, q⟩
theorem op_notInP (hu : X.A.units + 64 < cLine) : OpR X (compareOp .NotIn) (rInP X.K true) := by
  intro pins s σ H x y v u Q I rx ry h
  obtain ⟨p, ps, b, vs, rfl, hp, hps, hs, pp, pq, hm, q⟩ := h
  obtain ⟨as, r1⟩ := Dp.reads I p x v hp rx
  rcases hs with hs | hs
  · obtain ⟨bs, r2⟩ := Dp.reads I (.list ps) (.ref b) u (.lst hs hps) ry
    exact SeqAt.notIn_list_data r2 r1 pq pp (by omega) ⟨.bl _, H, I, rfl, q⟩
  · obtain ⟨bs, r2⟩ := Dp.reads I (.tuple ps) (.ref b) u (.tup hs hps) ry
    exact SeqAt.notIn_tuple_data r2 r1 pq pp (by omega) ⟨.bl _, H, I, rfl, q⟩
theorem inSeq_ok {α : Type} (rs : RelS X.K H M S) {x : V} {dx : D} (rx : RelD X.K H M dx x) {xs : List D} {vs : List V} (rv : RelDs X.K H M xs vs) {f : List PyData → PyData → Option α} {k : α} (h : inSeq S dx xs f = some k) :
    ∃ p ps, Dp X.K H x p ∧ DpAll X.K H vs ps ∧ p.plain = true ∧ PyData.plainAll ps = true ∧ min (PyData.depthAll ps) p.depth ≤ 60 ∧ f ps p = some k := by
  unfold inSeq at h
  cases hp : pyd S dx with
  | none => rw [hp] at h; cases h
  | some p =>
    cases hq : D.toPys xs with
    | none => rw [hp, hq] at h; cases h
    | some ps =>
      rw [hp, hq] at h
      simp only at h
      split at h
      · exact ⟨p, ps, (rd_rel rs rx).dp hp, rv.dp hq, toPy_plain _ _ hp, toPys_plain _ _ hq, ‹_›, h⟩
      · cases h
/-! ### dicts -/
theorem dkey_kD {d : D} {k : Key} (h : dkey d = some k) : d = kD k := by
  cases d with
  | int i => cases h; rfl
  | str x => cases h; rfl
  | _ => cases h
theorem dkey_of (k : Key) : dkey (kD k) = some k := by cases k <;> rfl
theorem relD_key {d : D} {k : Key} {v : V} (h : dkey d = some k) (r : RelD X.K H M d v) : v = kV k := by
  have := dkey_kD h
  subst this
  cases k with
  | inl i => exact r.int_
  | inr x => exact r.str_
theorem kD_inj {a b : Key} (h : kD a = kD b) : a = b := by
  cases a <;> cases b <;> simp [kD] at h <;> rw [h]
theorem keyEq_iff (k : Key) (d : D) {j : Key} (h : dkey d = some j) : keyEq (kD k) d = decide (k = j) := by
  unfold keyEq
  rw [dkey_of, h]
  simp
/-- d[k] by the relation -/
theorem dGet_ok : ∀ {kvs : List (Key × V)} {ds : List D} {d : D} {k : Key}, dkey d = some k → RelDs X.K H M ds (kvs.map (·.2)) →
    match dGet d ((kvs.map (·.1)).map kD) ds with
    | some r => ∃ v, valV kvs k = some v ∧ RelD X.K H M r v
    | none => valV kvs k = none
  | [], _, d, k, hk, .nil => by simp [dGet, valV]
  | (j, v) :: kvs, _, d, k, hk, .cons r rr => by
    simp only [List.map_cons, dGet, keyEq_iff j d hk]
    by_cases e : j = k
    · simp only [e, decide_true, if_true]
      exact ⟨v, valV_pos rfl, r⟩
    · have ih := dGet_ok (d := d) hk rr
      simp only [e, decide_false, Bool.false_eq_true, if_false]
      rw [valV_neg e]
      exact ih
def rInDk (ng : Bool) : R2 := fun x y H Q => ∃ a o, y = .ref a ∧ DGet H a x o ∧ Q (.bl (if ng then !o.isSome else o.isSome)) H
theorem op_inDk (hu : X.A.units + 64 < cLine) : OpR X (compareOp .In) (rInDk false) := by
  intro pins s σ H x y v u Q I rx ry h
  obtain ⟨a, o, rfl, g, q⟩ := h
  cases ry
  exact d_in (by omega) I g rx fun s3 I3 => ⟨.bl _, H, I3, rfl, q⟩
theorem op_notInDk (hu : X.A.units + 64 < cLine) : OpR X (compareOp .NotIn) (rInDk true) := by
  intro pins s σ H x y v u Q I rx ry h
  obtain ⟨a, o, rfl, g, q⟩ := h
  cases ry
  exact d_notIn (by omega) I g rx fun s3 I3 => ⟨.bl _, H, I3, rfl, q⟩
theorem keyFits_key {d : D} {ks : List D} (h : keyFits d ks = true) : ∃ k, dkey d = some k := by
  unfold keyFits at h
  rw [Bool.and_eq_true] at h
  exact Option.isSome_iff_exists.mp h.1
theorem RdD.dct_ {ks ds : List D} {v : V} (r : RdD X.K H M (.dct ks ds) v) : ∃ a kvs, v = .ref a ∧ H a = some (.dK kvs) ∧ ks = (kvs.map (·.1)).map kD ∧ RelDs X.K H M ds (kvs.map (·.2)) := by
  cases r with | dctK h e r => exact ⟨_, _, rfl, h, e, r⟩

/-! ### a comparison -/
def cOp : COp → CmpOp
  | .eq => .Eq | .ne => .NotEq | .lt => .Lt | .le => .LtE | .gt => .Gt | .ge => .GtE | .isin => .In | .notin => .NotIn
def rLtS : R2 := fun x y H Q => ∃ i j, x = .str i ∧ y = .str j ∧ Q (.bl (decide (i.cps.toList < j.cps.toList))) H
def rInS (ng : Bool) : R2 := fun x y H Q => ∃ i j, x = .str i ∧ y = .str j ∧ Q (.bl (if ng then !(!(Builtin.Str.occurrences j i 0 j.length 1).isEmpty) else !(Builtin.Str.occurrences j i 0 j.length 1).isEmpty)) H
def rCmp (K : PySem.W.Frag) : COp → R2
  | .eq => rEqP K false
  | .ne => rEqP K true
  | .lt => fun x y H Q => (∃ i j, x = .int i ∧ y = .int j ∧ Q (.bl (decide (i < j))) H) ∨ rLtS x y H Q
  | .le => rI0 fun i j => .bl (decide (i ≤ j))
  | .gt => rI0 fun i j => .bl (decide (j < i))
  | .ge => rI0 fun i j => .bl (decide (j ≤ i))
  | .isin => fun x y H Q => rInP K false x y H Q ∨ rInDk false x y H Q ∨ rInS false x y H Q
  | .notin => fun x y H Q => rInP K true x y H Q ∨ rInDk true x y H Q ∨ rInS true x y H Q
theorem op_cmp (hu : X.A.units + 64 < cLine) : ∀ o : COp, OpR X (compareOp (cOp o)) (rCmp X.K o)
  | .eq => op_eqP hu
  | .ne => op_neP hu
  | .lt => op_lt.or op_lt_str
  | .le => op_le
  | .gt => op_gt
  | .ge => op_ge
  | .isin => (op_inP hu).or ((op_inDk hu).or op_in_str)
  | .notin => (op_notInP hu).or ((op_notInDk hu).or op_notin_str)
theorem in_ok (rs : RelS X.K H M S) {x y : V} {dx dy : D} (rx : RelD X.K H M dx x) (ry : RelD X.K H M dy y) {k : Bool} (ng : Bool) (h : cmpop .isin dx dy S = some k) (q : Q (.bl (if ng then !k else k)) H) :
    rInP X.K ng x y H Q ∨ rInDk ng x y H Q ∨ rInS ng x y H Q := by
  have qy := rd_rel rs ry
  simp only [cmpop] at h
  cases ey : rd S dy with
  | tup xs =>
    rw [ey] at h qy
    obtain ⟨b, vs, rfl, hs, rv⟩ := qy.sqT
    obtain ⟨p, ps, h1, h2, h3, h4, h5, h6⟩ := inSeq_ok rs rx rv h
    cases h6
    exact .inl ⟨p, ps, b, vs, rfl, h1, h2, .inr hs.sq, h3, h4, h5, q⟩
  | lst xs =>
    rw [ey] at h qy
    obtain ⟨b, vs, rfl, hs, rv⟩ := qy.sqL
    obtain ⟨p, ps, h1, h2, h3, h4, h5, h6⟩ := inSeq_ok rs rx rv h
    cases h6
    exact .inl ⟨p, ps, b, vs, rfl, h1, h2, .inl (hs), h3, h4, h5, q⟩
  | dct ks ds =>
    rw [ey] at h qy
    obtain ⟨a, kvs, rfl, ha, rfl, rv⟩ := qy.dct_
    simp only at h
    split at h
    · rename_i hf
      obtain ⟨kk, hk⟩ := keyFits_key hf
      have hx := relD_key hk rx
      subst hx
      have hg := dGet_ok (kvs := kvs) (d := dx) hk rv
      cases h
      refine .inr (.inl ⟨a, valV kvs kk, rfl, DGet.k ha, ?_⟩)
      cases e : dGet dx ((kvs.map (·.1)).map kD) ds with
      | none => rw [e] at hg q; rw [hg]; exact q
      | some r => rw [e] at hg q; obtain ⟨v, hv, _⟩ := hg; rw [hv]; exact q
    · cases h
  | str z =>
    rw [ey] at h qy
    simp only at h
    cases dx with
    | str w =>
      cases h
      rw [rx.str_, qy.str_]
      exact .inr (.inr ⟨w, z, rfl, rfl, q⟩)
    | _ => cases h
  | _ => rw [ey] at h; cases h
theorem cmp_ok (o : COp) (rs : RelS X.K H M S) {x y : V} {dx dy : D} (rx : RelD X.K H M dx x) (ry : RelD X.K H M dy y) {k : Bool} (h : cmpop o dx dy S = some k) (q : Q (.bl k) H) : rCmp X.K o x y H Q := by
  cases o with
  | eq =>
    obtain ⟨p, p', h1, h2, h3, h4, h5, rfl⟩ := deq_ok rs rx ry h
    exact ⟨p, p', h1, h2, h3, h4, h5, q⟩
  | ne =>
    simp only [cmpop, Option.map_eq_some_iff] at h
    obtain ⟨k', h, rfl⟩ := h
    obtain ⟨p, p', h1, h2, h3, h4, h5, rfl⟩ := deq_ok rs rx ry h
    exact ⟨p, p', h1, h2, h3, h4, h5, q⟩
  | lt =>
    cases dx with
    | int i => cases dy with
      | int j => cases h; rw [rx.int_, ry.int_]; exact .inl ⟨i, j, rfl, rfl, q⟩
      | _ => cases h
    | str i => cases dy with
      | str j => cases h; rw [rx.str_, ry.str_]; exact .inr ⟨i, j, rfl, rfl, q⟩
      | _ => cases h
    | _ => cases h
  | le =>
    cases dx with
    | int i => cases dy with
      | int j => cases h; rw [rx.int_, ry.int_]; exact ⟨i, j, rfl, rfl, q⟩
      | _ => cases h
    | _ => cases h
  | gt =>
    cases dx with
    | int i => cases dy with
      | int j => cases h; rw [rx.int_, ry.int_]; exact ⟨i, j, rfl, rfl, q⟩
      | _ => cases h
    | _ => cases h
  | ge =>
    cases dx with
    | int i => cases dy with
      | int j => cases h; rw [rx.int_, ry.int_]; exact ⟨i, j, rfl, rfl, q⟩
      | _ => cases h
    | _ => cases h
  | isin => exact in_ok (ng := false) rs rx ry h q
  | notin =>
    have e : ∃ k', cmpop .isin dx dy S = some k' ∧ k = !k' := by
      simp only [cmpop] at h ⊢
      cases ey : rd S dy with
      | tup xs => rw [ey] at h; simp only [Option.map_eq_some_iff] at h ⊢; obtain ⟨k', h1, h2⟩ := h; exact ⟨k', h1, h2.symm⟩
      | lst xs => rw [ey] at h; simp only [Option.map_eq_some_iff] at h ⊢; obtain ⟨k', h1, h2⟩ := h; exact ⟨k', h1, h2.symm⟩
      | dct ks vs =>
        rw [ey] at h
        simp only at h ⊢
        split at h
        · rename_i hf; rw [if_pos hf]; cases h; exact ⟨_, rfl, rfl⟩
        · cases h
      | str z =>
        rw [ey] at h
        cases dx with
        | str w => cases h; exact ⟨_, rfl, rfl⟩
        | _ => cases h
      | _ => rw [ey] at h; cases h
    obtain ⟨k', h1, rfl⟩ := e
    exact in_ok (ng := true) rs rx ry h1 q
end
end Pw

set_option Elab.async false
set_option linter.all false
set_option maxRecDepth 100000
namespace TR
open PySem PySem.Spec PyProof.Rows L2 HT PySem.Calls PySem.P
section
variable {prog : Program} {w : World} {A : Around} {E : Value → Shared → Prop} {s : Shared}
theorem adjust_rev (n : Nat) : Builtin.Slice.sliceAdjust none none (-1) (n : Int) = ((n : Int) - 1, -1) := rfl
theorem places_rev (n : Nat) : Builtin.Slice.slicePlaces ((n : Int) - 1) (-1) (-1) = n := by
  unfold Builtin.Slice.slicePlaces
  have h1 : ¬ ((-1 : Int) > 0) := by decide
  have e : (- -1 : Int) = 1 := by decide
  simp only [h1, if_false, e, Int.ediv_one]
  split <;> omega
theorem sliceApplied_rev {sl : Addr} {vk : Value} {n : Nat} {Q : Int × Int × Nat → Shared → Prop} (hs : s.heap.IsSliceOf sl .none .none vk) (pk : IsPart vk (some (-1)))
    (h : Q ((n : Int) - 1, -1, n) s) : wpAny (model prog w) A (Builtin.Slice.sliceApplied (.ref sl) (pure (n : Int))) Q E s := by
  obtain ⟨os, hos, hcs, hds⟩ := id hs
  unfold Builtin.Slice.sliceApplied Builtin.Slice.sliceFields
  refine wpAny_bind (wpAny_bind (wpAny_field hos hds (x := .none) rfl (wpAny_bind (wpAny_field hos hds (x := .none) rfl (wpAny_bind (wpAny_field hos hds (x := vk) rfl (wpAny_pure ?_)))))))
  refine wpAny_bind (slicePart_ pk ?_)
  show wpAny _ _ (if ((-1 : Int) == 0) = true then _ else _) _ _ s
  rw [if_neg (by decide)]
  refine wpAny_bind (slicePart_none (wpAny_bind (slicePart_none (wpAny_bind (wpAny_pure ?_)))))
  show wpAny _ _ (match Builtin.Slice.sliceAdjust none none (-1) (n : Int) with | (lo, hi) => pure (lo, (-1 : Int), Builtin.Slice.slicePlaces lo hi (-1))) _ _ s
  rw [adjust_rev n]
  show wpAny _ _ (pure ((n : Int) - 1, (-1 : Int), Builtin.Slice.slicePlaces ((n : Int) - 1) (-1) (-1))) _ _ s
  rw [places_rev]
  exact wpAny_pure h
theorem fmc {α β : Type} {f g : α → Option β} : ∀ (l : List α), (∀ x ∈ l, f x = g x) → l.filterMap f = l.filterMap g
  | [], _ => rfl
  | a :: l, h => by
    rw [List.filterMap_cons, List.filterMap_cons, h a List.mem_cons_self, fmc l fun x hx => h x (List.mem_cons_of_mem _ hx)]
theorem pick_rev (xs : Array Value) : ((List.range xs.size).filterMap fun (m : Nat) => xs[((xs.size : Int) - 1 + (m : Int) * -1).toNat]?).toArray = xs.toList.reverse.toArray := by
  congr 1
  have e : (List.range xs.size).filterMap (fun (m : Nat) => xs[((xs.size : Int) - 1 + (m : Int) * -1).toNat]?) = ((List.range xs.size).map fun k => xs.size - 1 - k).filterMap (xs[·]?) := by
    rw [List.filterMap_map]
    refine fmc _ fun m hm => ?_
    have hm' := List.mem_range.mp hm
    have : ((xs.size : Int) - 1 + (m : Int) * -1).toNat = xs.size - 1 - m := by omega
    rw [this]; rfl
  rw [e, PySem.W.krv_range, List.filterMap_reverse, PySem.W.krv_all]
theorem getItem_tuple_rev {t sl : Addr} {items : Array Value} {vk : Value} {Q : Value → Shared → Prop} (ht : IsTup s.heap t items) (hs : s.heap.IsSliceOf sl .none .none vk) (pk : IsPart vk (some (-1)))
    (h : Q (.ref s.heap.objs.size) { s with heap := s.heap.push { cls := .type "tuple", data := .seq items.toList.reverse.toArray } })
    (hsz : items.size ≤ sizeLine) : wpAny (model prog w) A (getItem (.ref t) (.ref sl)) Q E s := by
  have htake : sizeOk (.seq items.toList.reverse.toArray) := by
    show items.toList.reverse.toArray.size ≤ sizeLine
    rw [List.size_toArray, List.length_reverse, Array.length_toList]
    omega
  obtain ⟨os, hos, hcs, hds⟩ := id hs
  have hTs : s.TypeIs (.ref sl) "slice" := ⟨os, hos, hcs⟩
  unfold getItem
  try with_reducible refine wpAny_holding ?_
  first | refine wpAny_bind (wpAny_pure ?_) | skip
  refine wpAny_bind (wpAny_sequenceKey ht.typeIs (by decide) ?_)
  refine wpAny_bind (wpAny_callSpecial?_slot (name := Str.ofString "__getitem__") ht.typeIs PyProof.Rows.slot_tuple_getitem
    (wpAny_call_entry PyProof.Rows.slot_tuple_getitem ht.typeIs entry_tuple_getitem ?_ (args_tuple_getitem _ _)))
  show wpAny _ _ (Builtin.Tuple.tupleItemsOf (.ref t) >>= _) _ _ s
  refine wpAny_bind (tupleItemsOf_ ht ?_)
  refine wpAny_bind (wpAny_typeOf hTs ?_)
  rw [if_pos (by decide)]
  refine wpAny_bind (sliceApplied_rev hs pk ?_)
  have hno : ¬ ((((items.size : Int) - 1) == 0 && (-1 : Int) == 1 && items.size == items.size) = true) := by
    intro q
    rw [Bool.and_eq_true, Bool.and_eq_true] at q
    exact absurd (eq_of_beq q.1.2) (by decide)
  show wpAny _ _ (if (((items.size : Int) - 1) == 0 && (-1 : Int) == 1 && items.size == items.size) = true then _ else _) _ _ s
  rw [if_neg hno, pick_rev]
  first
    | exact wpAny_bind (m := Builtin.Tuple.tupleExact _) (wpAny_newObj_type (wpAny_pure ⟨_, rfl, wpAny_pure h⟩) htake)
    | exact wpAny_bind (m := Builtin.Tuple.tupleExact _) (wpAny_newObj_type (wpAny_bind (wpAny_pure (wpAny_pure ⟨_, rfl, wpAny_pure h⟩))) htake)
    | exact wpAny_bind (wpAny_bind (m := Builtin.Tuple.tupleExact _) (wpAny_newObj_type (wpAny_pure (wpAny_pure ⟨_, rfl, wpAny_pure h⟩)) htake))
    | exact wpAny_bind (wpAny_bind (m := Builtin.Tuple.tupleExact _) (wpAny_newObj_type (wpAny_pure ⟨_, rfl, wpAny_pure h⟩) htake))
end
end TR
namespace Pw
open PySem PySem.Spec PyProof.Rows L2
section
variable {X : Cx} {a b c : Expr} {va vb vc : Ev → Sto → R D} {ua ub uc : Ev → Sto → R Bool} {pos : Pos}
/-! ### the reverse of a list, of a tuple -/
def tRevA (K : PySem.W.Frag) (te : TE) : TE := tUn (fun x H1 Q => (∃ a xs, x = .ref a ∧ SqL K H1 a xs ∧ ∀ p, H1 p = none → Q (.ref p) (upd H1 p (.lst xs.reverse))) ∨ (∃ a xs, x = .ref a ∧ SqT K H1 a xs ∧ NewT xs.reverse H1 Q)) te
theorem pe_revA {e : Expr} {te : TE} {k : Nat} {p1 p2 p3 pos : Pos} (he : PE X e te) : PE X (.Subscript e (.Slice none none (some (.UnaryOp .USub (.Constant (.int 1) k p1) p2)) p3) pos) (tRevA X.K te) := by
  refine ⟨fun pins s σ H Q I h => ?_⟩
  refine Subscript_ (thn (he.run pins s σ H _ I h) fun v s1 ⟨x, H1, I1, r1, q1⟩ => ?_)
  have hst : PO X (some (.UnaryOp .USub (.Constant (.int 1) k p1) p2)) (tPart (tUn (rU fun i => .int (-i)) (tC (.int 1)))) := po_some (pe_un un_neg pe_int)
  refine wpAny_Slice (thn (po_none.run pins s1 σ H1 (fun o H2 => o = none ∧ H2 = H1) I1 ⟨rfl, rfl⟩) fun vl s2 ⟨l, H2, I2, pl, el, e2⟩ => ?_)
  subst el e2
  refine thn (po_none.run pins s2 σ H2 (fun o H3 => o = none ∧ H3 = H2) I2 ⟨rfl, rfl⟩) fun vu s3 ⟨u, H3, I3, pu, eu, e3⟩ => ?_
  subst eu e3
  refine thn (hst.run pins s3 σ H3 (fun o H4 => o = some (-1) ∧ H4 = H3) I3 ⟨1, rfl, -1, rfl, rfl, rfl⟩) fun vs s4 ⟨o, H4, I4, ps, eo, e4⟩ => ?_
  subst eo e4
  have I5 : Inv X pins σ H4 { s4 with heap := s4.heap.push { cls := .type "slice", data := .fields #[vl, vu, vs] } } := I4.kept (t' := s4.toks) fun b ob q => Heap.get?_push_of_some _ q
  rcases q1 with ⟨a, xs, ex, hx, q⟩ | ⟨a, xs, ex, hx, q⟩
  · subst ex
    cases r1
    obtain ⟨its, r, ht, hz⟩ := I5.list hx
    have hlen := r.length
    show wpAny (model X.prog X.w) X.A (subscriptTail e (.Slice none none (some (.UnaryOp .USub (.Constant (.int 1) k p1) p2)) p3) (.ref a) (.ref s4.heap.objs.size)) (EP X pins σ Q) X.xe { s4 with heap := s4.heap.push { cls := .type "slice", data := .fields #[vl, vu, vs] } }
    refine tail_any (ops := [.ref a, .ref s4.heap.objs.size]) ht.isList.typeIs (PySem.slot_list_getitem.lookup) ?_ (by with_unfolding_all rfl)
    refine wpAny_getItem_list_slice ht.isList (Heap.IsSliceOf.new _ vl vu vs) pl pu ps (by decide) ?_ (by rw [List.size_toArray]; omega)
    rw [PySem.W.krv_pick]
    refine ⟨.ref _, _, I5.laid (t' := s4.toks) (o := .lst xs.reverse) (fun b ob q => Heap.get?_push_of_some _ q) (Nat.le_refl _) ?_, rfl, q _ (I5.hok.fresh (Nat.le_refl _))⟩
    refine ⟨by rw [List.length_reverse]; omega, its.reverse, 0, r.reverse, ?_⟩
    rw [List.toList_toArray]
    exact Heap.get?_push_size _ rfl
  · subst ex
    cases r1
    obtain ⟨its, r, ht, hz⟩ := I5.tuple hx
    have hlen := r.length
    cases pl
    cases pu
    show wpAny (model X.prog X.w) X.A (subscriptTail e (.Slice none none (some (.UnaryOp .USub (.Constant (.int 1) k p1) p2)) p3) (.ref a) (.ref s4.heap.objs.size)) (EP X pins σ Q) X.xe { s4 with heap := s4.heap.push { cls := .type "slice", data := .fields #[.none, .none, vs] } }
    refine tail_any (ops := [.ref a, .ref s4.heap.objs.size]) ht.typeIs (PyProof.Rows.slot_tuple_getitem.lookup) ?_ (by with_unfolding_all rfl)
    refine TR.getItem_tuple_rev ht (Heap.IsSliceOf.new _ .none .none vs) ps ?_ (by rw [List.size_toArray]; omega)
    rw [List.toList_toArray]
    exact Inv.newT (t' := s4.toks) I5 r.reverse (by rw [List.length_reverse]; omega) q
end
end Pw

set_option Elab.async false
set_option linter.all false
set_option maxRecDepth 100000
set_option maxHeartbeats 1000000
namespace Pw
open PySem PySem.Spec PyProof.Rows L2
section
variable {X : Cx} {H : Hp} {M : Pl} {S : Sto} {Q : VK} {E : XK}
theorem op_repF : OpR X (binaryOp .Mult) (rRepF X.K) := by
  intro pins s σ H x y v u Q I rx ry h
  obtain ⟨l, k, xs, rfl, rfl, hT, h1, h2, hz, q0, q⟩ := h
  cases rx
  obtain ⟨t, rfl⟩ := ry
  obtain ⟨its, r, ⟨⟨cls, dd, data, sl⟩, ho, hc, n, hd⟩, hs⟩ := I.tuple hT
  simp only at hc hd
  subst hc hd
  have hle : its.length = xs.length := r.length.symm
  have c0 : (decide (k < -(2 ^ 63)) || decide (k ≥ 2 ^ 63)) = false := by
    rw [decide_eq_false (by omega), decide_eq_false (by omega)] <;> rfl
  by_cases hx : xs = []
  · have hn : its = [] := by rw [hx] at hle; exact List.eq_nil_of_length_eq_zero hle
    have c1 : (its.toArray.isEmpty || k == 1) = true := by rw [hn]; rfl
    exact wpAny_binaryOp_repeat_ref (T := "tuple") (U := "int") (by decide) ⟨_, ho, rfl⟩ (fun s' => typeIs_int s' k t) noFill_tuple_mul F.fills_int_mul F.slot_int_rmul repeat_tuple F.slot_int_index.lookup
      (call_meets F.slot_int_rmul (typeIs_int s k t) F.entry_int_rmul (F.args_int_rmul_2 _ _) (int_rmul_tuple k t l its.toArray n dd sl)
        ⟨ho, rfl, ⟨_, ho, rfl⟩, call_meets F.slot_tuple_mul ⟨_, ho, rfl⟩ F.entry_tuple_mul (F.args_tuple_mul_2 _ _) (tuple_mul0 l its.toArray n dd sl k t c0 c1) ⟨ho, .ref l, H, I, rfl, q0 hx⟩⟩)
  · have hn : its ≠ [] := fun e => hx (by
      rw [e] at hle
      exact List.eq_nil_of_length_eq_zero hle.symm)
    have hi : its.toArray.isEmpty = false := by
      cases its with
      | nil => exact absurd rfl hn
      | cons a b => rfl
    have hsz0 : its.toArray.size = xs.length := by rw [List.size_toArray, hle]
    have hm : ((its.toArray.size : Nat) : Int) * k ≤ 1000000 := by
      rw [hsz0]
      have a1 : ((xs.length : Nat) : Int) * k ≤ 1000 * k := Int.mul_le_mul_of_nonneg_right (by omega) (by omega)
      omega
    have flen : (List.replicate k.toNat its).flatten.length ≤ sizeLine := by
      rw [PyProof.Rows.lm_len_rep_flat, hle, sizeLine_eq]
      have a1 : k.toNat * xs.length ≤ 1000 * 1000 := Nat.mul_le_mul (by omega) hz
      omega
    have c1 : (its.toArray.isEmpty || k == 1) = false := by
      rw [hi, Bool.false_or]
      exact beq_eq_false_iff_ne.mpr (by omega)
    have c2 : (decide (k ≤ 0) || its.toArray.isEmpty) = false := by
      rw [hi, Bool.or_false]
      exact decide_eq_false (by omega)
    have c4 : Builtin.Tuple.tupleTooMany (((its.toArray.size : Nat) : Int) * k) = false := by
      unfold Builtin.Tuple.tupleTooMany
      rw [sizeLine_eq]
      exact decide_eq_false (by omega)
    refine wpAny_binaryOp_repeat_ref (T := "tuple") (U := "int") (by decide) ⟨_, ho, rfl⟩ (fun s' => typeIs_int s' k t) noFill_tuple_mul F.fills_int_mul F.slot_int_rmul repeat_tuple F.slot_int_index.lookup
      (call_meets F.slot_int_rmul (typeIs_int s k t) F.entry_int_rmul (F.args_int_rmul_2 _ _) (int_rmul_tuple k t l its.toArray n dd sl)
        ⟨ho, rfl, ⟨_, ho, rfl⟩, call_meets F.slot_tuple_mul ⟨_, ho, rfl⟩ F.entry_tuple_mul (F.args_tuple_mul_2 _ _) (tuple_mulW l its.toArray n dd sl k t c0 c1 c2 (by omega) c4 (by rw [size_rep, List.size_toArray]; exact flen)) ⟨ho, ?_⟩⟩)
    rw [size_rep]
    exact Inv.newT (t' := s.toks) I (r.rep k.toNat) (by rw [PyProof.Rows.lm_len_rep_flat, sizeLine_eq]; have a1 : k.toNat * xs.length ≤ 1000 * 1000 := Nat.mul_le_mul (by omega) hz; omega) (q hx)
/-! ### binary operators -/
def bOp : BOp → Operator
  | .add => .Add | .sub => .Sub | .mul => .Mult | .fdiv => .FloorDiv | .mod => .Mod | .pow => .Pow
def CMulA (i j : Int) : Prop := CMul i j ∨ CMulW i j
def rBin (K : PySem.W.Frag) : BOp → R2
  | .add => rAddAll K
  | .sub => rI0 fun i j => .int (i - j)
  | .mul => fun x y H Q => rI CMul (fun i j => .int (i * j)) x y H Q ∨ rI CMulW (fun i j => .int (i * j)) x y H Q ∨ rRepF K x y H Q
  | .fdiv => rI CDiv fun i j => .int (i / j)
  | .mod => rI (fun _ j => 0 < j) fun i j => .int (i % j)
  | .pow => rI CPow fun i j => .int (i ^ j.toNat)
theorem op_bin : ∀ o : BOp, OpR X (binaryOp (bOp o)) (rBin X.K o)
  | .add => op_addAll
  | .sub => op_sub
  | .mul => op_mul.or (op_mulW.or op_repF)
  | .fdiv => op_fdiv
  | .mod => op_mod
  | .pow => op_pow
theorem rep_rel : ∀ {ds : List D} {vs : List V}, RelDs X.K H M ds vs → ∀ k : Nat, RelDs X.K H M (List.replicate k ds).flatten (List.replicate k vs).flatten
  | ds, vs, r, 0 => .nil
  | ds, vs, r, k + 1 => by
    rw [List.replicate_succ, List.replicate_succ, List.flatten_cons, List.flatten_cons]
    exact r.append (rep_rel r k)
theorem bin_ok (o : BOp) (bx : Bool) (rs : RelS X.K H M S) {x y : V} {dx dy : D} (rx : RelD X.K H M dx x) (ry : RelD X.K H M dy y) (h : WPE X.K X.mg H M (binop o bx dx dy S) Q E) : rBin X.K o x y H Q := by
  cases o with
  | add => exact add_ok rs rx ry h
  | sub =>
    obtain ⟨i, j, h1, h2, _, q⟩ := int_ok (C := fun _ _ => True) (g := fun i j => i - j) (fun i j k e => ⟨trivial, (Option.some.inj e).symm⟩) rs rx ry h
    exact ⟨i, j, h1, h2, q⟩
  | mul =>
    replace h : WPE X.K X.mg H M (bMul S (rd S dx) (rd S dy)) Q E := h
    have qx := rd_rel rs rx
    have qy := rd_rel rs ry
    cases ex : rd S dx with
    | int i =>
      rw [ex] at h qx
      cases ey : rd S dy with
      | int j =>
        rw [ey] at h qy
        rw [qx.int_, qy.int_]
        simp only [bMul] at h
        split at h
        · rename_i hm
          have q := WPE.ok h rs (.int (i * j))
          unfold mulOk at hm
          simp only [Bool.or_eq_true, Bool.and_eq_true, decide_eq_true_eq, Pw.small64] at hm
          rcases hm with (hm | hm) | hm
          · exact .inl ⟨i, j, rfl, rfl, .inl hm, q⟩
          · exact .inl ⟨i, j, rfl, rfl, .inr hm, q⟩
          · exact .inr (.inl ⟨i, j, rfl, rfl, wide_mul hm.1 hm.2 (by decide) (by decide) (by decide), q⟩)
        · exact h.elim
      | _ => rw [ey] at h; exact h.elim
    | tup xs =>
      rw [ex] at h qx
      cases ey : rd S dy with
      | int j =>
        rw [ey] at h qy
        obtain ⟨a1, v1, rfl, s1, r1⟩ := qx.sqT
        rw [qy.int_]
        simp only [bMul] at h
        split at h
        · rename_i hm
          refine .inr (.inr ⟨a1, j, v1, rfl, rfl, s1.sq, hm.1, hm.2.1, by rw [← r1.length]; exact hm.2.2, fun e => ?_, fun _ p o hp ho => WPE.okT rs h (rep_rel r1 _) hp ho⟩)
          subst e
          have : xs = [] := List.length_eq_zero_iff.mp (by rw [r1.length]; rfl)
          subst this
          have e0 : (List.replicate j.toNat ([] : List D)).flatten = [] := by simp
          rw [e0] at h
          exact WPE.ok h rs (.tup s1 .nil)
        · exact h.elim
      | _ => rw [ey] at h; exact h.elim
    | _ => rw [ex] at h; exact h.elim
  | fdiv =>
    exact int_ok (C := CDiv) (g := fun i j => i / j) (fun i j k e => by split at e <;> cases e; exact ⟨‹_›, rfl⟩) rs rx ry h
  | mod =>
    exact int_ok (C := fun _ j => 0 < j) (g := fun i j => i % j) (fun i j k e => by split at e <;> cases e; exact ⟨‹_›, rfl⟩) rs rx ry h
  | pow =>
    exact int_ok (C := CPow) (g := fun i j => i ^ j.toNat) (fun i j k e => by split at e <;> cases e; exact ⟨‹_›, rfl⟩) rs rx ry h
variable {a b c : Expr} {va vb vc : Ev → Sto → R D} {ua ub uc : Ev → Sto → R Bool} {pos : Pos}
theorem de_bin (o : BOp) (bx : Bool) (ha : DE X a va) (hb : DE X b vb) : DE X (.BinOp a (bOp o) b pos) (fun e S => (va e S).bind fun x S1 => (vb e S1).bind fun y S2 => binop o bx x y S2) :=
  de_op2 ⟨rBin X.K o, fun _ _ pa pb => pe_op (op_bin o) pa pb, fun H M S x y dx dy Q E rs rx ry h => bin_ok o bx rs rx ry h⟩ ha hb
/-- a truth by the value -/
theorem truth_ok (rs : RelS X.K H M S) {x : V} {d : D} {k : Bool} (r : RelD X.K H M d x) (h : truth S d = some k) : TruV X.K x H k := by
  have q := rd_rel rs r
  unfold truth at h
  cases e : rd S d with
  | non => rw [e] at h q; cases h; cases q; exact rfl
  | bl b => rw [e] at h q; cases h; cases q; exact rfl
  | int i => rw [e] at h q; cases h; cases q; exact rfl
  | str z =>
    rw [e] at h q
    simp only at h
    split at h
    · cases h; cases q; exact ⟨of_decide_eq_true ‹_›, rfl⟩
    · cases h
  | tup xs =>
    rw [e] at h q; cases h
    obtain ⟨a, vs, rfl, hs, r⟩ := q.sqT
    refine .inr (.inl ⟨vs, hs.sq, ?_⟩)
    cases r <;> rfl
  | lst xs =>
    rw [e] at h q; cases h
    obtain ⟨a, vs, rfl, hs, r⟩ := q.sqL
    refine .inl ⟨vs, hs, ?_⟩
    cases r <;> rfl
  | _ => rw [e] at h; cases h
def PlainTest (X : Cx) (a : Expr) : Prop := ∀ whole, isTrue a X.env whole = (do let v ← whole; standAt a.pos; holding [v] (truthy v))
theorem dt_of (he : PlainTest X a) (ha : DE X a va) : DT X a (ofV va).t := by
  intro W tk
  obtain ⟨ta, pa, qa⟩ := ha W tk
  refine ⟨_, pt_truth pa he, fun σ H M env S Q re rs h => ?_⟩
  refine qa σ H M env S _ re rs (WPE.bindT h fun d S1 v H1 M1 x s r h1 => ?_)
  cases e : truth S1 d with
  | none => rw [e] at h1; exact h1.elim
  | some k => rw [e] at h1; exact ⟨k, truth_ok s r e, h1 H1 M1 (Ext.refl _ _) s⟩
/-! ### comparisons -/
theorem de_cmp (hu : X.A.units + 64 < cLine) (o : COp) (hm : behindInMarks (cOp o) b = false) (ha : DE X a va) (hb : DE X b vb) :
    DE X (.Compare a [cOp o] [b] pos) (fun e S => (va e S).bind fun x S1 => (vb e S1).bind fun y S2 => R.opt S2 ((cmpop o x y S2).map .bl)) :=
  de_op2 ⟨rCmp X.K o, fun _ _ pa pb => pe_cmpR (op_cmp hu o) pa pb hm, fun H M S x y dx dy Q E rs rx ry h => by
    cases e : cmpop o dx dy S with
    | none => rw [e] at h; exact h.elim
    | some k => rw [e] at h; exact cmp_ok o rs rx ry e (WPE.ok h rs (.bl k))⟩ ha hb
theorem bind_assoc {α β γ : Type} (r : R α) (f : α → Sto → R β) (g : β → Sto → R γ) : (r.bind f).bind g = r.bind fun a S => (f a S).bind g := by cases r <;> rfl
theorem opt_bl_bind (S : Sto) (o : Option Bool) : ((R.opt S (o.map D.bl)).bind fun x S1 => R.opt S1 (truth S1 x)) = R.opt S o := by cases o <;> rfl
theorem wpt_opt {mg : Str → Option Value} {K : PySem.W.Frag} {H : Hp} {M : Pl} {S : Sto} {o : Option Bool} {Q : Bool → Hp → Prop} {E : XK} (rs : RelS K H M S) (h : WPT K mg H M (R.opt S o) Q E) : ∃ k, o = some k ∧ Q k H := by
  cases o with
  | none => exact h.elim
  | some k => exact ⟨k, rfl, h H M (Ext.refl _ _) rs⟩
/-- an operator by values whose value is a bool, as a test -/
theorem dt_op2 {f : D → D → Sto → Option Bool} {e : Expr} (h2 : ∃ r : R2, (∀ ta tb, PE X a ta → PE X b tb → PT X e (tTest (tOp r ta tb))) ∧ ∀ (H : Hp) (M : Pl) (S : Sto) (x y : V) (dx dy : D) (k : Bool) (Q : VK), RelS X.K H M S → RelD X.K H M dx x → RelD X.K H M dy y →
      f dx dy S = some k → Q (.bl k) H → r x y H Q) (ha : DE X a va) (hb : DE X b vb) :
    DT X e (ofV fun e S => (va e S).bind fun x S1 => (vb e S1).bind fun y S2 => R.opt S2 ((f x y S2).map .bl)).t := by
  intro W tk
  obtain ⟨r, hr, hq⟩ := h2
  obtain ⟨ta, pa, qa⟩ := ha W tk
  obtain ⟨tb, pb, qb⟩ := hb W tk
  refine ⟨_, hr _ _ pa pb, fun σ H M env S Q re rs h => ?_⟩
  replace h : WPT X.K X.mg H M (((va env S).bind fun x S1 => (vb env S1).bind fun y S2 => R.opt S2 ((f x y S2).map .bl)).bind fun x S1 => R.opt S1 (truth S1 x)) Q (fun c d H' => W c d σ H') := h
  rw [bind_assoc] at h
  refine qa σ H M env S _ re rs (WPE.bindT h fun dx S1 x H1 M1 x1 rs1 rx h1 => ?_)
  rw [bind_assoc] at h1
  refine qb σ H1 M1 env S1 _ (re.mono x1) rs1 (WPE.bindT h1 fun dy S2 y H2 M2 x2 rs2 ry h2 => ?_)
  rw [opt_bl_bind] at h2
  obtain ⟨k, e, q⟩ := wpt_opt rs2 h2
  exact hq H2 M2 S2 x y dx dy k _ rs2 (rx.mono x2) ry e ⟨k, rfl, q⟩
theorem dt_cmp (hu : X.A.units + 64 < cLine) (o : COp) (hm : behindInMarks (cOp o) b = false) (ha : DE X a va) (hb : DE X b vb) :
    DT X (.Compare a [cOp o] [b] pos) (ofV fun e S => (va e S).bind fun x S1 => (vb e S1).bind fun y S2 => R.opt S2 ((cmpop o x y S2).map .bl)).t :=
  dt_op2 ⟨rCmp X.K o, fun _ _ pa pb => pt_cmpR (op_cmp hu o) pa pb hm, fun H M S x y dx dy k Q rs rx ry e q => cmp_ok o rs rx ry e q⟩ ha hb
/-- a < b < c -/
theorem de_cmp2 (hu : X.A.units + 64 < cLine) (o o' : COp) (hm : lastMarks [cOp o, cOp o'] [b, c] = false) (ha : DE X a va) (hb : DE X b vb) (hc : DE X c vc) :
    DE X (.Compare a [cOp o, cOp o'] [b, c] pos) (fun e S => (va e S).bind fun x S1 => (vb e S1).bind fun y S2 => dCmp2 o o' x y S2 fun S => vc e S) := by
  intro W tk
  obtain ⟨ta, pa, qa⟩ := ha W tk
  obtain ⟨tb, pb, qb⟩ := hb W tk
  obtain ⟨tc, pc, qc⟩ := hc W tk
  refine ⟨_, pe_chain (op_cmp hu o) (op_cmp hu o') pa pb pc hm, fun σ H M env S Q re rs h => ?_⟩
  refine qa σ H M env S _ re rs (WPE.bind h fun dx S1 x H1 M1 x1 rs1 rx h1 => ?_)
  refine qb σ H1 M1 env S1 _ (re.mono x1) rs1 (WPE.bind h1 fun dy S2 y H2 M2 x2 rs2 ry h2 => ?_)
  unfold dCmp2 at h2
  cases e : cmpop o dx dy S2 with
  | none => rw [e] at h2; exact h2.elim
  | some k =>
    rw [e] at h2
    refine cmp_ok o rs2 (rx.mono x2) ry e ⟨k, rfl, ?_⟩
    cases k with
    | false => exact WPE.ok h2 rs2 (.bl false)
    | true =>
      refine qc σ H2 M2 env S2 _ ((re.mono x1).mono x2) rs2 (WPE.bind h2 fun dz S3 z H3 M3 x3 rs3 rz h3 => ?_)
      cases e' : cmpop o' dy dz S3 with
      | none => rw [e'] at h3; exact h3.elim
      | some k' => rw [e'] at h3; exact cmp_ok o' rs3 (ry.mono x3) rz e' (WPE.ok h3 rs3 (.bl k'))
theorem dt_cmp2 (hu : X.A.units + 64 < cLine) (o o' : COp) (hm : lastMarks [cOp o, cOp o'] [b, c] = false) (ha : DE X a va) (hb : DE X b vb) (hc : DE X c vc) :
    DT X (.Compare a [cOp o, cOp o'] [b, c] pos) (ofV fun e S => (va e S).bind fun x S1 => (vb e S1).bind fun y S2 => dCmp2 o o' x y S2 fun S => vc e S).t := by
  intro W tk
  obtain ⟨ta, pa, qa⟩ := ha W tk
  obtain ⟨tb, pb, qb⟩ := hb W tk
  obtain ⟨tc, pc, qc⟩ := hc W tk
  refine ⟨_, pt_chain (op_cmp hu o) (op_cmp hu o') pa pb pc hm, fun σ H M env S Q re rs h => ?_⟩
  replace h : WPT X.K X.mg H M (((va env S).bind fun x S1 => (vb env S1).bind fun y S2 => dCmp2 o o' x y S2 fun S => vc env S).bind fun x S1 => R.opt S1 (truth S1 x)) Q (fun c d H' => W c d σ H') := h
  rw [bind_assoc] at h
  refine qa σ H M env S _ re rs (WPE.bindT h fun dx S1 x H1 M1 x1 rs1 rx h1 => ?_)
  rw [bind_assoc] at h1
  refine qb σ H1 M1 env S1 _ (re.mono x1) rs1 (WPE.bindT h1 fun dy S2 y H2 M2 x2 rs2 ry h2 => ?_)
  unfold dCmp2 at h2
  cases e : cmpop o dx dy S2 with
  | none => rw [e] at h2; exact h2.elim
  | some k =>
    rw [e] at h2
    refine cmp_ok o rs2 (rx.mono x2) ry e ⟨k, rfl, ?_⟩
    cases k with
    | false =>
      refine ⟨false, rfl, ?_⟩
      exact h2 H2 M2 (Ext.refl _ _) rs2
    | true =>
      simp only at h2
      rw [bind_assoc] at h2
      refine qc σ H2 M2 env S2 _ ((re.mono x1).mono x2) rs2 (WPE.bindT h2 fun dz S3 z H3 M3 x3 rs3 rz h3 => ?_)
      rw [opt_bl_bind] at h3
      obtain ⟨k', e', q⟩ := wpt_opt rs3 h3
      exact cmp_ok o' rs3 (ry.mono x3) rz e' ⟨k', rfl, q⟩
/-! ### is a constant -/
def rIsC (ng : Bool) : R2 := fun x y H Q => (y = .non ∨ ∃ b, y = .bl b) ∧ Q (.bl (if ng then !decide (x = y) else decide (x = y))) H
theorem plain_c {x y : V} {v u : Value} (rx : RelV x v) (ry : RelV y u) (h : y = .non ∨ ∃ b, y = .bl b) : plainIs v u = true ∧ (v == u) = decide (x = y) := by
  rcases h with rfl | ⟨b, rfl⟩
  · cases ry
    cases x with
    | int i => obtain ⟨t, rfl⟩ := rx; exact ⟨rfl, rfl⟩
    | str i => obtain ⟨t, rfl⟩ := rx; exact ⟨rfl, rfl⟩
    | byt i => obtain ⟨t, rfl⟩ := rx; exact ⟨rfl, rfl⟩
    | flt i => obtain ⟨t, rfl⟩ := rx; exact ⟨rfl, rfl⟩
    | _ => cases rx; exact ⟨rfl, rfl⟩
  · cases ry
    cases x with
    | int i => obtain ⟨t, rfl⟩ := rx; exact ⟨rfl, rfl⟩
    | str i => obtain ⟨t, rfl⟩ := rx; exact ⟨rfl, rfl⟩
    | byt i => obtain ⟨t, rfl⟩ := rx; exact ⟨rfl, rfl⟩
    | flt i => obtain ⟨t, rfl⟩ := rx; exact ⟨rfl, rfl⟩
    | bl q =>
      cases rx
      refine ⟨rfl, ?_⟩
      cases q <;> cases b <;> rfl
    | _ => cases rx; exact ⟨rfl, rfl⟩
theorem op_isC : OpR X (compareOp .Is) (rIsC false) := by
  intro pins s σ H x y v u Q I rx ry h
  obtain ⟨hy, q⟩ := h
  obtain ⟨h1, h2⟩ := plain_c rx ry hy
  exact wpAny_is_plain h1 (fin_bl I q h2.symm)
theorem op_notC : OpR X (compareOp .IsNot) (rIsC true) := by
  intro pins s σ H x y v u Q I rx ry h
  obtain ⟨hy, q⟩ := h
  obtain ⟨h1, h2⟩ := plain_c rx ry hy
  exact wpAny_isNot_plain h1 (fin_bl I q (by rw [h2]; rfl))
def cV : D → V
  | .bl b => .bl b
  | _ => .non
theorem is_ok {c d : D} {x : V} {k : Bool} (r : RelD X.K H M d x) (h : isop d c = some k) : k = decide (x = cV c) ∧ (cV c = .non ∨ ∃ b, cV c = .bl b) := by
  cases c with
  | non => cases d <;> cases r <;> cases h <;> exact ⟨rfl, .inl rfl⟩
  | bl p =>
    cases d with
    | bl q =>
      cases r; cases h
      refine ⟨?_, .inr ⟨p, rfl⟩⟩
      show decide (q = p) = decide (V.bl q = V.bl p)
      simp
    | dct _ _ => cases h
    | _ => cases r <;> cases h <;> exact ⟨rfl, .inr ⟨p, rfl⟩⟩
  | _ => cases d <;> cases h
def isE (ng : Bool) : CmpOp := if ng then .IsNot else .Is
theorem op_is (ng : Bool) : OpR X (compareOp (isE ng)) (rIsC ng) := by cases ng; exact op_isC; exact op_notC
theorem de_isk (ng : Bool) (c : D) (hm : behindInMarks (isE ng) b = false) (pb : PE X b (tC (cV c))) (ha : DE X a va) :
    DE X (.Compare a [isE ng] [b] pos) (fun e S => (va e S).bind fun x S1 => R.opt S1 ((isop x c).map fun b => .bl (if ng then !b else b))) := by
  intro W tk
  obtain ⟨ta, pa, qa⟩ := ha W tk
  refine ⟨_, pe_cmpR (op_is ng) pa pb hm, fun σ H M env S Q re rs h => ?_⟩
  refine qa σ H M env S _ re rs (WPE.bind h fun dx S1 x H1 M1 x1 rs1 rx h1 => ?_)
  show rIsC ng x (cV c) H1 Q
  cases e : isop dx c with
  | none => rw [e] at h1; exact h1.elim
  | some k =>
    rw [e] at h1
    obtain ⟨rfl, hc⟩ := is_ok rx e
    exact ⟨hc, WPE.ok h1 rs1 (.bl _)⟩
theorem dt_isk (ng : Bool) (c : D) (hm : behindInMarks (isE ng) b = false) (pb : PE X b (tC (cV c))) (ha : DE X a va) :
    DT X (.Compare a [isE ng] [b] pos) (ofV fun e S => (va e S).bind fun x S1 => R.opt S1 ((isop x c).map fun b => .bl (if ng then !b else b))).t := by
  intro W tk
  obtain ⟨ta, pa, qa⟩ := ha W tk
  refine ⟨_, pt_cmpR (op_is ng) pa pb hm, fun σ H M env S Q re rs h => ?_⟩
  replace h : WPT X.K X.mg H M (((va env S).bind fun x S1 => R.opt S1 ((isop x c).map fun b => .bl (if ng then !b else b))).bind fun x S1 => R.opt S1 (truth S1 x)) Q (fun c d H' => W c d σ H') := h
  rw [bind_assoc] at h
  refine qa σ H M env S _ re rs (WPE.bindT h fun dx S1 x H1 M1 x1 rs1 rx h1 => ?_)
  show rIsC ng x (cV c) H1 (fun x H' => ∃ k, x = V.bl k ∧ Q k H')
  cases e : isop dx c with
  | none => rw [e] at h1; exact h1.elim
  | some k =>
    rw [e] at h1
    obtain ⟨rfl, hc⟩ := is_ok rx e
    exact ⟨hc, _, rfl, h1 H1 M1 (Ext.refl _ _) rs1⟩
/-! ### and, or, not, if -/
theorem de_one {op} (ha : DE X a va) : DE X (.BoolOp op [a] pos) va := fun W tk => let ⟨t, p, q⟩ := ha W tk; ⟨t, pe_one p, q⟩
theorem de_and {r : List Expr} (ha : DE X a va) (hb : DE X (.BoolOp .And (b :: r) pos) vb) : DE X (.BoolOp .And (a :: b :: r) pos) (fun e S => (va e S).bind fun x S1 => dAnd x S1 (vb e S1)) := by
  intro W tk
  obtain ⟨ta, pa, qa⟩ := ha W tk
  obtain ⟨tb, pb, qb⟩ := hb W tk
  refine ⟨_, pe_andT pa pb, fun σ H M env S Q re rs h => ?_⟩
  refine qa σ H M env S _ re rs (WPE.bind h fun dx S1 x H1 M1 x1 rs1 rx h1 => ?_)
  unfold dAnd at h1
  cases e : truth S1 dx with
  | none => rw [e] at h1; exact h1.elim
  | some k =>
    rw [e] at h1
    refine ⟨k, truth_ok rs1 rx e, ?_⟩
    cases k with
    | true => exact qb σ H1 M1 env S1 Q (re.mono x1) rs1 h1
    | false => exact WPE.ok h1 rs1 rx
theorem de_or {r : List Expr} (ha : DE X a va) (hb : DE X (.BoolOp .Or (b :: r) pos) vb) : DE X (.BoolOp .Or (a :: b :: r) pos) (fun e S => (va e S).bind fun x S1 => dOr x S1 (vb e S1)) := by
  intro W tk
  obtain ⟨ta, pa, qa⟩ := ha W tk
  obtain ⟨tb, pb, qb⟩ := hb W tk
  refine ⟨_, pe_orT pa pb, fun σ H M env S Q re rs h => ?_⟩
  refine qa σ H M env S _ re rs (WPE.bind h fun dx S1 x H1 M1 x1 rs1 rx h1 => ?_)
  unfold dOr at h1
  cases e : truth S1 dx with
  | none => rw [e] at h1; exact h1.elim
  | some k =>
    rw [e] at h1
    refine ⟨k, truth_ok rs1 rx e, ?_⟩
    cases k with
    | true => exact WPE.ok h1 rs1 rx
    | false => exact qb σ H1 M1 env S1 Q (re.mono x1) rs1 h1
theorem de_not (ha : DE X a va) : DE X (.UnaryOp .Not a pos) (fun e S => (va e S).bind fun x S1 => R.opt S1 ((truth S1 x).map fun b => .bl (!b))) := by
  intro W tk
  obtain ⟨ta, pa, qa⟩ := ha W tk
  refine ⟨_, pe_notT pa, fun σ H M env S Q re rs h => ?_⟩
  refine qa σ H M env S _ re rs (WPE.bind h fun dx S1 x H1 M1 x1 rs1 rx h1 => ?_)
  cases e : truth S1 dx with
  | none => rw [e] at h1; exact h1.elim
  | some k => rw [e] at h1; exact ⟨k, truth_ok rs1 rx e, WPE.ok h1 rs1 (.bl _)⟩
theorem de_ite (hc : DT X c uc) (ha : DE X a va) (hb : DE X b vb) : DE X (.IfExp c a b pos) (fun e S => (uc e S).bind fun t S1 => if t then va e S1 else vb e S1) := by
  intro W tk
  obtain ⟨tc, pc, qc⟩ := hc W tk
  obtain ⟨ta, pa, qa⟩ := ha W tk
  obtain ⟨tb, pb, qb⟩ := hb W tk
  refine ⟨_, pe_ifExp pc pa pb, fun σ H M env S Q re rs h => ?_⟩
  refine qc σ H M env S _ re rs (WPT.bindE h fun k S1 H1 M1 x1 rs1 h1 => ?_)
  cases k with
  | true => exact qa σ H1 M1 env S1 Q (re.mono x1) rs1 h1
  | false => exact qb σ H1 M1 env S1 Q (re.mono x1) rs1 h1
/-- tests -/
def DW (X : Cx) (e : Expr) (v : Ev → Sto → R Bool) : Prop := ∀ W, Takes X W → ∃ t, PW X e t ∧ ∀ (σ : L2.St) (H : Hp) (M : Pl) (env : Ev) (S : Sto) (Q : Bool → Hp → Prop), RelE X.K H M env σ → RelS X.K H M S →
  WPT X.K X.mg H M (v env S) Q (fun c d H' => W c d σ H') → t σ H Q
theorem DW.dt {e : Expr} {v : Ev → Sto → R Bool} (h : DW X e v) : DT X e v := fun W tk => let ⟨t, p, q⟩ := h W tk; ⟨t, p.pt, q⟩
theorem dw_and1 (ha : DT X a ua) : DW X (.BoolOp .And [a] pos) ua := fun W tk => let ⟨t, p, q⟩ := ha W tk; ⟨t, pw_and1 p, q⟩
theorem dw_or1 (ha : DT X a ua) : DW X (.BoolOp .Or [a] pos) ua := fun W tk => let ⟨t, p, q⟩ := ha W tk; ⟨t, pw_or1 p, q⟩
theorem dw_and {r : List Expr} (ha : DT X a ua) (hb : DW X (.BoolOp .And (b :: r) pos) ub) : DW X (.BoolOp .And (a :: b :: r) pos) (fun e S => (ua e S).bind fun x S1 => if x then ub e S1 else .ok false S1) := by
  intro W tk
  obtain ⟨ta, pa, qa⟩ := ha W tk
  obtain ⟨tb, pb, qb⟩ := hb W tk
  refine ⟨_, pw_and pa pb, fun σ H M env S Q re rs h => ?_⟩
  refine qa σ H M env S _ re rs (WPT.bind h fun k S1 H1 M1 x1 rs1 h1 => ?_)
  cases k with
  | true => exact qb σ H1 M1 env S1 Q (re.mono x1) rs1 h1
  | false => exact h1 H1 M1 (Ext.refl _ _) rs1
theorem dw_or {r : List Expr} (ha : DT X a ua) (hb : DW X (.BoolOp .Or (b :: r) pos) ub) : DW X (.BoolOp .Or (a :: b :: r) pos) (fun e S => (ua e S).bind fun x S1 => if x then .ok true S1 else ub e S1) := by
  intro W tk
  obtain ⟨ta, pa, qa⟩ := ha W tk
  obtain ⟨tb, pb, qb⟩ := hb W tk
  refine ⟨_, pw_or pa pb, fun σ H M env S Q re rs h => ?_⟩
  refine qa σ H M env S _ re rs (WPT.bind h fun k S1 H1 M1 x1 rs1 h1 => ?_)
  cases k with
  | true => exact h1 H1 M1 (Ext.refl _ _) rs1
  | false => exact qb σ H1 M1 env S1 Q (re.mono x1) rs1 h1
theorem dt_not (ha : DT X a ua) : DT X (.UnaryOp .Not a pos) (fun e S => (ua e S).bind fun b S1 => .ok (!b) S1) := by
  intro W tk
  obtain ⟨ta, pa, qa⟩ := ha W tk
  refine ⟨_, pt_not pa, fun σ H M env S Q re rs h => ?_⟩
  exact qa σ H M env S _ re rs (WPT.bind h fun k S1 H1 M1 x1 rs1 h1 => h1 H1 M1 (Ext.refl _ _) rs1)
/-! ### arithmetic of one, subscripts, displays -/
theorem de_neg (ha : DE X a va) : DE X (.UnaryOp .USub a pos) (fun e S => (va e S).bind dNeg) :=
  de_un (fun _ pa => pe_un un_neg pa) (fun H M S x dx Q E rs rx h => by
    cases dx with
    | int i => rw [rx.int_]; exact ⟨i, rfl, WPE.ok h rs (.int _)⟩
    | _ => exact h.elim) ha
def rIxD : R2 := fun x y H Q => ∃ a v, x = .ref a ∧ DGet H a y (some v) ∧ Q v H
theorem ix_dict (hu : X.A.units + 64 < cLine) : IxR X rIxD := by
  intro value slice pins s σ H x y v u Q I rx ry h hs
  obtain ⟨a, w, rfl, g, q⟩ := h
  cases rx
  exact tail_any (dict_typeIs I g) PySem.F.slot_dict_getitem.lookup (d_getItem (by omega) I g ry fun w' s3 I3 rw' => ⟨w, H, I3, rw', q⟩) hs
def rIxAll (K : PySem.W.Frag) : R2 := fun x y H Q => rIx K x y H Q ∨ rIxD x y H Q
theorem ix_all (hu : X.A.units + 64 < cLine) : IxR X (rIxAll X.K) := ix_seq.or (ix_dict hu)
theorem atI_rel {ds : List D} {vs : List V} (r : RelDs X.K H M ds vs) {i : Int} {d : D} (h : atI ds i = some d) : ∃ v, atI vs i = some v ∧ RelD X.K H M d v := by
  unfold atI at h ⊢
  rw [← r.length]
  cases e : ixN ds.length i with
  | none => rw [e] at h; cases h
  | some j => rw [e] at h; exact r.get h
theorem index_ok (rs : RelS X.K H M S) {x y : V} {dx dy d : D} (rx : RelD X.K H M dx x) (ry : RelD X.K H M dy y) (h : Pw.index S dx dy = some d) (q : ∀ v, RelD X.K H M d v → Q v H) : rIxAll X.K x y H Q := by
  have qx := rd_rel rs rx
  unfold Pw.index at h
  cases e : rd S dx with
  | tup xs =>
    rw [e] at h qx
    cases dy with
    | int i =>
      obtain ⟨a, vs, rfl, hs, r⟩ := qx.sqT
      obtain ⟨v, hv, rv⟩ := atI_rel r h
      rw [ry.int_]
      exact .inl (.inr (.inl ⟨a, vs, i, v, rfl, rfl, hs.sq, hv, q v rv⟩))
    | _ => cases h
  | lst xs =>
    rw [e] at h qx
    cases dy with
    | int i =>
      obtain ⟨a, vs, rfl, hs, r⟩ := qx.sqL
      obtain ⟨v, hv, rv⟩ := atI_rel r h
      rw [ry.int_]
      exact .inl (.inl ⟨a, vs, i, v, rfl, rfl, hs, hv, q v rv⟩)
    | _ => cases h
  | str z =>
    rw [e] at h qx
    cases dy with
    | int i =>
      simp only at h
      split at h
      · rename_i hb
        simp only [Option.map_eq_some_iff] at h
        obtain ⟨c, hc, rfl⟩ := h
        rw [ry.int_, qx.str_]
        exact .inl (.inr (.inr ⟨z, i, c, rfl, rfl, of_decide_eq_true hb, hc, q _ (.str _)⟩))
      · cases h
    | _ => cases h
  | dct ks ds =>
    rw [e] at h qx
    obtain ⟨a, kvs, rfl, ha, rfl, rv⟩ := qx.dct_
    simp only at h
    split at h
    · rename_i hf
      obtain ⟨kk, hk⟩ := keyFits_key hf
      have hx := relD_key hk ry
      subst hx
      have hg := dGet_ok (kvs := kvs) (d := dy) hk rv
      rw [h] at hg
      obtain ⟨v, hv, r⟩ := hg
      refine .inr ⟨a, v, rfl, ?_, q v r⟩
      rw [← hv]
      exact DGet.k ha
    · cases h
  | _ => rw [e] at h; cases h
theorem de_ix (hu : X.A.units + 64 < cLine) (hs : PlainIx b) (ha : DE X a va) (hb : DE X b vb) : DE X (.Subscript a b pos) (fun e S => (va e S).bind fun x S1 => (vb e S1).bind fun y S2 => R.opt S2 (Pw.index S2 x y)) :=
  de_op2 ⟨rIxAll X.K, fun _ _ pa pb => pe_ix (ix_all hu) pa pb hs, fun H M S x y dx dy Q E rs rx ry h => by
    obtain ⟨d, e, q⟩ := WPE.opt rs h
    exact index_ok rs rx ry e fun v rv => q v H M (Ext.refl _ _) rs rv⟩ ha hb
/-- a part of a slice -/
def DO (X : Cx) (e : Option Expr) (v : Ev → Sto → R (Option Int)) : Prop :=
  (e = none ∧ v = fun _ S => .ok none S) ∨ ∃ a va, e = some a ∧ DE X a va ∧ v = fun e S => (va e S).bind fun x S1 => R.opt S1 (asInt x)
theorem DO.part {e : Option Expr} {v : Ev → Sto → R (Option Int)} (h : DO X e v) (W : WX) (tk : Takes X W) : ∃ t, PO X e t ∧ ∀ (σ : L2.St) (H : Hp) (M : Pl) (env : Ev) (S : Sto) (f : Option Int → Sto → R D) (Q : VK) (Q' : Option Int → Hp → Prop), RelE X.K H M env σ → RelS X.K H M S →
      WPE X.K X.mg H M ((v env S).bind f) Q (fun c d H' => W c d σ H') → (∀ d S1 H1 M1, Ext H M H1 M1 → RelS X.K H1 M1 S1 → WPE X.K X.mg H1 M1 (f d S1) Q (fun c d H' => W c d σ H') → Q' d H1) → t σ H Q' := by
  rcases h with ⟨rfl, rfl⟩ | ⟨b, vb, rfl, hb, rfl⟩
  · exact ⟨_, po_none, fun σ H M env S f Q Q' re rs h k => k none S H M (Ext.refl _ _) rs h⟩
  · obtain ⟨tb, pb, qb⟩ := hb W tk
    refine ⟨_, po_some pb, fun σ H M env S f Q Q' re rs h k => ?_⟩
    rw [bind_assoc] at h
    refine qb σ H M env S _ re rs (WPE.bind h fun dx S1 x H1 M1 x1 rs1 rx h1 => ?_)
    cases dx with
    | int i => rw [rx.int_]; exact ⟨i, rfl, k _ S1 H1 M1 x1 rs1 h1⟩
    | _ => exact h1.elim
theorem cutV_rel {ds : List D} {vs : List V} (r : RelDs X.K H M ds vs) (lo hi : Option Int) : RelDs X.K H M (cutD ds lo hi) (cutV vs lo hi) := by
  unfold cutD cutV
  rw [← r.length]
  exact (r.drop _).take _
def rSlAll (K : PySem.W.Frag) : V → Option Int → Option Int → Hp → VK → Prop := fun x lo hi H Q => rSlF K x lo hi H Q ∨ rSlL K x lo hi H Q
theorem slice_ok {bx : Bool} (rs : RelS X.K H M S) {x : V} {dx : D} {l u : Option Int} (rx : RelD X.K H M dx x) (h : WPE X.K X.mg H M (slice bx dx l u S) Q E) : rSlAll X.K x l u H Q := by
  have qx := rd_rel rs rx
  unfold slice at h
  cases e : rd S dx with
  | tup xs =>
    rw [e] at h qx
    obtain ⟨a, vs, rfl, hs, r⟩ := qx.sqT
    refine .inl ⟨a, vs, rfl, hs.sq, fun hw => ?_, fun _ p o hp ho => WPE.okT rs h (cutV_rel r l u) hp ho⟩
    refine WPE.ok h rs (.tup hs ?_)
    have : cutD xs l u = xs := by
      unfold cutD
      rw [r.length, hw.1, hw.2, ← r.length, List.drop_zero, Nat.sub_zero, List.take_length]
    rw [this]; exact r
  | lst xs =>
    rw [e] at h qx
    obtain ⟨a, vs, rfl, hs, r⟩ := qx.sqL
    obtain ⟨_, k⟩ := WPE.mkL rs h
    exact .inr ⟨a, vs, rfl, hs, fun p hp => k _ p (cutV_rel r l u) hp⟩
  | _ => rw [e] at h; exact h.elim
theorem de_sl {lo hi : Option Expr} {vl vh : Ev → Sto → R (Option Int)} {bx : Bool} {p2 : Pos} (ha : DE X a va) (hl : DO X lo vl) (hh : DO X hi vh) :
    DE X (.Subscript a (.Slice lo hi none p2) pos) (fun e S => (va e S).bind fun x S1 => (vl e S1).bind fun l S2 => (vh e S2).bind fun h S3 => slice bx x l h S3) := by
  intro W tk
  obtain ⟨ta, pa, qa⟩ := ha W tk
  obtain ⟨tl, pl, ql⟩ := hl.part W tk
  obtain ⟨th, ph, qh⟩ := hh.part W tk
  refine ⟨_, pe_slice (sl_tupF.or sl_list) pa pl ph, fun σ H M env S Q re rs h => ?_⟩
  refine qa σ H M env S _ re rs (WPE.bind h fun dx S1 x H1 M1 x1 rs1 rx h1 => ?_)
  refine ql σ H1 M1 env S1 _ Q _ (re.mono x1) rs1 h1 fun dl S2 H2 M2 x2 rs2 h2 => ?_
  refine qh σ H2 M2 env S2 _ Q _ ((re.mono x1).mono x2) rs2 h2 fun dh S3 H3 M3 x3 rs3 h3 => ?_
  exact slice_ok rs3 ((rx.mono x2).mono x3) h3
theorem de_rev {bx : Bool} {k : Nat} {p1 p2 p3 : Pos} (ha : DE X a va) : DE X (.Subscript a (.Slice none none (some (.UnaryOp .USub (.Constant (.int 1) k p1) p2)) p3) pos) (fun e S => (va e S).bind (revd bx)) :=
  de_un (fun _ pa => pe_revA pa) (fun H M S x dx Q E rs rx h => by
    have qx := rd_rel rs rx
    unfold revd at h
    cases e : rd S dx with
    | tup xs =>
      rw [e] at h qx
      obtain ⟨a, vs, rfl, hs, r⟩ := qx.sqT
      exact .inr ⟨a, vs, rfl, hs.sq, fun p o hp ho => WPE.okT rs h r.reverse hp ho⟩
    | lst xs =>
      rw [e] at h qx
      obtain ⟨a, vs, rfl, hs, r⟩ := qx.sqL
      obtain ⟨_, q⟩ := WPE.mkL rs h
      exact .inl ⟨a, vs, rfl, hs, fun p hp => q _ p r.reverse hp⟩
    | _ => rw [e] at h; exact h.elim) ha
theorem de_tup {es : List Expr} {vs : Ev → Sto → R (List D)} {x1} (h : DA X es vs) : DE X (.Tuple es x1 pos) (fun e S => (vs e S).bind fun xs S1 => if xs.length ≤ sizeLine then .ok (.tup xs) S1 else .bad) :=
  de_args (r := fun xs H1 Q => xs.length ≤ sizeLine ∧ NewT xs H1 Q) (fun _ pa => pe_tupF pa) (fun H M S xs ds Q E rs r h => by
    split at h
    · rename_i hz
      exact ⟨by rw [← r.length]; exact hz, fun p o hp ho => WPE.okT rs h r hp ho⟩
    · exact h.elim) h
theorem de_lst {es : List Expr} {vs : Ev → Sto → R (List D)} {bx : Bool} (h : DA X es vs) : DE X (.List es pos) (fun e S => (vs e S).bind fun xs S1 => mkL bx xs S1) :=
  de_args (r := fun xs H1 Q => xs.length ≤ sizeLine ∧ ∀ p, H1 p = none → Q (.ref p) (upd H1 p (.lst xs))) (fun _ pa => pe_lst pa) (fun H M S xs ds Q E rs r h => by
    obtain ⟨hz, k⟩ := WPE.mkL rs h
    exact ⟨by rw [← r.length]; exact hz, fun p hp => k _ p r hp⟩) h
end
end Pw

set_option Elab.async false
set_option linter.all false
set_option maxRecDepth 100000
set_option maxHeartbeats 1000000
namespace Pw
open PySem PySem.Spec PyProof.Rows L2

/-! ## built-ins -/
def noStar : Expr → Bool
  | .Starred _ _ => false
  | _ => true
theorem starEach_cons {e : Expr} {es : List Expr} {env : Env} (h : noStar e = true) : starEach (e :: es) env = (false, eval e env) :: starEach es env := by
  cases e <;> first | rfl | cases h
theorem starEach_plain {pos : Pos} {env : Env} : ∀ {es : List Expr}, es.all noStar = true → (backTo pos (starEach es env)).any (·.1) = false
  | [], _ => rfl
  | e :: es, h => by
    rw [List.all_cons, Bool.and_eq_true] at h
    rw [starEach_cons h.1]
    show (false || (backTo pos (starEach es env)).any (·.1)) = false
    rw [starEach_plain h.2]
    rfl
theorem starEach_plain2 {pos : Pos} {env : Env} : ∀ {es : List Expr}, es.all noStar = true → (backTo pos (starEach es env)).all (fun x => !x.1) = true
  | [], _ => rfl
  | e :: es, h => by
    rw [List.all_cons, Bool.and_eq_true] at h
    rw [starEach_cons h.1]
    show (true && (backTo pos (starEach es env)).all (fun x => !x.1)) = true
    rw [starEach_plain2 h.2]
    rfl
theorem RelDs.one {K : PySem.W.Frag} {H : Hp} {M : Pl} {d : D} {xs : List V} (h : RelDs K H M [d] xs) : ∃ v, xs = [v] ∧ RelD K H M d v := by
  cases h with | cons r t => cases t; exact ⟨_, rfl, r⟩
theorem RelDs.two {K : PySem.W.Frag} {H : Hp} {M : Pl} {d e : D} {xs : List V} (h : RelDs K H M [d, e] xs) : ∃ v u, xs = [v, u] ∧ RelD K H M d v ∧ RelD K H M e u := by
  cases h with | cons r t => obtain ⟨u, rfl, q⟩ := t.one; exact ⟨_, _, rfl, r, q⟩
theorem RelDs.three {K : PySem.W.Frag} {H : Hp} {M : Pl} {d e f : D} {xs : List V} (h : RelDs K H M [d, e, f] xs) : ∃ v u w, xs = [v, u, w] ∧ RelD K H M d v ∧ RelD K H M e u ∧ RelD K H M f w := by
  cases h with | cons r t => obtain ⟨u, w, rfl, q⟩ := t.two; exact ⟨_, _, _, rfl, r, q⟩
theorem CallR.or {X : Cx} {f : Value} {r r' : List V → Hp → VK → Prop} (h : CallR X f r) (h' : CallR X f r') : CallR X f (fun xs H Q => r xs H Q ∨ r' xs H Q) := by
  intro pins s σ H xs us Q I rx q
  rcases q with q | q
  · exact h pins s σ H xs us Q I rx q
  · exact h' pins s σ H xs us Q I rx q
/-- what a rule must be to tell f -/
def Tells (X : Cx) (f : List D → Sto → R D) (r : List V → Hp → VK → Prop) : Prop :=
  ∀ (H : Hp) (M : Pl) (S : Sto) (xs : List V) (ds : List D) (Q : VK) (E : XK), RelS X.K H M S → RelDs X.K H M ds xs → WPE X.K X.mg H M (f ds S) Q E → r xs H Q
section
variable {X : Cx} {x : Str} {p pos : Pos} {e : Expr} {es : List Expr} {vs : Ev → Sto → R (List D)} {f : List D → Sto → R D} {r : List V → Hp → VK → Prop} {id T : String}
theorem de_callB (hc : CallR X (.builtin id) r) (hq : Tells X f r) (hg : Gl X x) (hm : X.mg x = none) (hv : bootBuiltins x = some (.builtin id)) (hn : x ≠ "__name__") (hdb : (x == ("__debug__" : Str)) = false)
    (hs : (e :: es).all noStar = true) (ha : DA X (e :: es) vs) : DE X (.Call (.Name x p) (e :: es) [] pos) (fun e S => (vs e S).bind f) := by
  rw [List.all_cons, Bool.and_eq_true] at hs
  exact de_args (r := r) (fun _ pa => pe_callB hc hg hm hv pa hn hdb (starEach_cons hs.1) (starEach_plain hs.2)) hq ha
theorem de_callTy (hc : CallR X (.type T) r) (hq : Tells X f r) (hg : Gl X x) (hm : X.mg x = none) (hv : bootBuiltins x = some (.type T)) (hn : x ≠ "__name__") (hdb : (x == ("__debug__" : Str)) = false)
    (hs : (e :: es).all noStar = true) (ha : DA X (e :: es) vs) : DE X (.Call (.Name x p) (e :: es) [] pos) (fun e S => (vs e S).bind f) := by
  rw [List.all_cons, Bool.and_eq_true] at hs
  exact de_args (r := r) (fun _ pa => pe_callTy hc hg hm hv pa hn hdb (starEach_cons hs.1) (starEach_plain hs.2)) hq ha
end
section
variable {X : Cx}
theorem len_tells {bx : Bool} : Tells X (prim .len bx) (fun xs H Q => (∃ x n, xs = [x] ∧ LenV X.K x H n ∧ Q (.int n) H) ∨ ∃ a kvs, xs = [V.ref a] ∧ H a = some (.dK kvs) ∧ Q (.int kvs.length) H) := by
  intro H M S xs ds Q E rs rv h
  match ds, rv, h with
  | [], _, h => exact h.elim
  | [d], rv, h =>
    obtain ⟨v, rfl, r⟩ := rv.one
    have q := rd_rel rs r
    replace h : WPE X.K X.mg H M (pLen S d) Q E := h
    unfold pLen at h
    cases e : rd S d with
    | str x =>
      rw [e] at h q
      simp only at h
      split at h
      · rename_i hb
        have := q.str_
        subst this
        exact .inl ⟨_, x.length, rfl, ⟨of_decide_eq_true hb, rfl⟩, h.ok rs (.int _)⟩
      · exact h.elim
    | tup ys =>
      rw [e] at h q
      obtain ⟨a, ws, rfl, hs, rr⟩ := q.sqT
      refine .inl ⟨_, ws.length, rfl, .inr ⟨ws, hs.sq, rfl⟩, h.ok rs ?_⟩
      rw [← rr.length]; exact .int _
    | lst ys =>
      rw [e] at h q
      obtain ⟨a, ws, rfl, hs, rr⟩ := q.sqL
      refine .inl ⟨_, ws.length, rfl, .inl ⟨ws, hs, rfl⟩, h.ok rs ?_⟩
      rw [← rr.length]; exact .int _
    | dct ks us =>
      rw [e] at h q
      obtain ⟨a, kvs, rfl, ha, hk, rr⟩ := q.dct_
      simp only at h
      split at h
      · refine .inr ⟨a, kvs, rfl, ha, h.ok rs ?_⟩
        rw [hk, List.length_map, List.length_map]; exact .int _
      · exact h.elim
    | _ => rw [e] at h; exact h.elim
  | [_, _], _, h => exact h.elim
  | [_, _, _], _, h => exact h.elim
  | _ :: _ :: _ :: _ :: _, _, h => exact h.elim
theorem tuple_tells {bx : Bool} : Tells X (prim .tuple bx) (fun xs H Q => ∃ p ys, xs = [V.ref p] ∧ ((SqL X.K H p ys ∧ NewT ys H Q) ∨ (SqT X.K H p ys ∧ Q (.ref p) H))) := by
  intro H M S xs ds Q E rs rv h
  match ds, rv, h with
  | [], _, h => exact h.elim
  | [d], rv, h =>
    obtain ⟨v, rfl, r⟩ := rv.one
    have q := rd_rel rs r
    replace h : WPE X.K X.mg H M (pTuple S d) Q E := h
    unfold pTuple at h
    cases e : rd S d with
    | tup ys =>
      rw [e] at h q
      obtain ⟨a, ws, rfl, hs, rr⟩ := q.sqT
      exact ⟨a, ws, rfl, .inr ⟨hs.sq, h.ok rs (.tup hs rr)⟩⟩
    | lst ys =>
      rw [e] at h q
      obtain ⟨a, ws, rfl, hs, rr⟩ := q.sqL
      exact ⟨a, ws, rfl, .inl ⟨hs, fun p o hp ho => WPE.okT rs h rr hp ho⟩⟩
    | _ => rw [e] at h; exact h.elim
  | [_, _], _, h => exact h.elim
  | [_, _, _], _, h => exact h.elim
  | _ :: _ :: _ :: _ :: _, _, h => exact h.elim
theorem list_tells {bx : Bool} : Tells X (prim .list bx) (fun xs H Q => ∃ p ys, xs = [V.ref p] ∧ (SqL X.K H p ys ∨ SqT X.K H p ys) ∧ ∀ l, H l = none → Q (.ref l) (upd H l (.lst ys))) := by
  intro H M S xs ds Q E rs rv h
  match ds, rv, h with
  | [], _, h => exact h.elim
  | [d], rv, h =>
    obtain ⟨v, rfl, r⟩ := rv.one
    replace h : WPE X.K X.mg H M (R.o (seqOf S d) fun xs => mkL bx xs S) Q E := h
    cases e : seqOf S d with
    | none => rw [e] at h; exact h.elim
    | some ys =>
      rw [e] at h
      obtain ⟨a, ws, rfl, hs, rr⟩ := seqOf_rel rs r e
      obtain ⟨_, k⟩ := WPE.mkL rs h
      exact ⟨a, ws, rfl, hs.imp id TupAt.sq, fun l hl => k _ l rr hl⟩
  | [_, _], _, h => exact h.elim
  | [_, _, _], _, h => exact h.elim
  | _ :: _ :: _ :: _ :: _, _, h => exact h.elim
theorem bools_rel {K : PySem.W.Frag} {H : Hp} {M : Pl} : ∀ {ds : List D} {vs : List V} {bs : List Bool}, RelDs K H M ds vs → bools? ds = some bs → vs = bs.map V.bl
  | _, _, _, .nil, h => by cases h; rfl
  | .bl b :: ds, _, bs, .cons r t, h => by
    have h : (bools? ds).map (b :: ·) = some bs := h
    obtain ⟨cs, hc, rfl⟩ := Option.map_eq_some_iff.mp h
    rw [r.bl_, bools_rel t hc, List.map_cons]
  | .non :: _, _, _, .cons _ _, h => by cases h
  | .int _ :: _, _, _, .cons _ _, h => by cases h
  | .str _ :: _, _, _, .cons _ _, h => by cases h
  | .tup _ :: _, _, _, .cons _ _, h => by cases h
  | .lst _ :: _, _, _, .cons _ _, h => by cases h
  | .dct _ _ :: _, _, _, .cons _ _, h => by cases h
  | .ref _ :: _, _, _, .cons _ _, h => by cases h
theorem ints_rel {K : PySem.W.Frag} {H : Hp} {M : Pl} : ∀ {ds : List D} {vs : List V} {bs : List Int}, RelDs K H M ds vs → ints? ds = some bs → vs = bs.map V.int
  | _, _, _, .nil, h => by cases h; rfl
  | .int b :: ds, _, bs, .cons r t, h => by
    have h : (ints? ds).map (b :: ·) = some bs := h
    obtain ⟨cs, hc, rfl⟩ := Option.map_eq_some_iff.mp h
    rw [r.int_, ints_rel t hc, List.map_cons]
  | .non :: _, _, _, .cons _ _, h => by cases h
  | .bl _ :: _, _, _, .cons _ _, h => by cases h
  | .str _ :: _, _, _, .cons _ _, h => by cases h
  | .tup _ :: _, _, _, .cons _ _, h => by cases h
  | .lst _ :: _, _, _, .cons _ _, h => by cases h
  | .dct _ _ :: _, _, _, .cons _ _, h => by cases h
  | .ref _ :: _, _, _, .cons _ _, h => by cases h
theorem strs_rel {K : PySem.W.Frag} {H : Hp} {M : Pl} : ∀ {ds : List D} {vs : List V} {bs : List Str}, RelDs K H M ds vs → strs? ds = some bs → vs = bs.map V.str
  | _, _, _, .nil, h => by cases h; rfl
  | .str b :: ds, _, bs, .cons r t, h => by
    have h : (strs? ds).map (b :: ·) = some bs := h
    obtain ⟨cs, hc, rfl⟩ := Option.map_eq_some_iff.mp h
    rw [r.str_, strs_rel t hc, List.map_cons]
  | .non :: _, _, _, .cons _ _, h => by cases h
  | .bl _ :: _, _, _, .cons _ _, h => by cases h
  | .int _ :: _, _, _, .cons _ _, h => by cases h
  | .tup _ :: _, _, _, .cons _ _, h => by cases h
  | .lst _ :: _, _, _, .cons _ _, h => by cases h
  | .dct _ _ :: _, _, _, .cons _ _, h => by cases h
  | .ref _ :: _, _, _, .cons _ _, h => by cases h
theorem lst_tells {α : Type} {bx : Bool} {pr : Pr} {c : List D → Option α} {c' : α → List V} {g : α → D} {r : List V → Hp → VK → Prop}
    (h1 : ∀ d S, prim pr bx [d] S = R.o ((lstOf S d).bind c) fun bs => .ok (g bs) S) (h0 : ∀ S, prim pr bx [] S = .bad) (h2 : ∀ d e l S, prim pr bx (d :: e :: l) S = .bad)
    (hc : ∀ {H : Hp} {M : Pl} {ds : List D} {vs : List V} {a : α}, RelDs X.K H M ds vs → c ds = some a → vs = c' a)
    (hr : ∀ (H : Hp) (M : Pl) (S : Sto) (a : α) (p : Addr) (Q : VK), SqL X.K H p (c' a) → (∀ v, RelD X.K H M (g a) v → Q v H) → r [V.ref p] H Q) : Tells X (prim pr bx) r := by
  intro H M S xs ds Q E rs rv h
  match ds, rv, h with
  | [], _, h => rw [h0] at h; exact h.elim
  | [d], rv, h =>
    obtain ⟨v, rfl, rr⟩ := rv.one
    rw [h1] at h
    cases e : lstOf S d with
    | none => rw [e] at h; exact h.elim
    | some ys =>
      rw [e] at h
      obtain ⟨a, ws, rfl, hs, rq⟩ := lstOf_rel rs rr e
      cases e2 : c ys with
      | none => rw [show (some ys).bind c = c ys from rfl, e2] at h; exact h.elim
      | some bs =>
        rw [show (some ys).bind c = c ys from rfl, e2] at h
        have := hc rq e2
        subst this
        exact hr H M S bs a Q hs fun v hv => h.ok rs hv
  | _ :: _ :: _, _, h => rw [h2] at h; exact h.elim
theorem all_tells {bx : Bool} : Tells X (prim .all bx) (rAll X.K) :=
  lst_tells (c := bools?) (c' := fun bs => bs.map V.bl) (g := fun bs => .bl (bs.all id)) (fun _ _ => rfl) (fun _ => rfl) (fun _ _ l _ => by cases l with | nil => rfl | cons a l => cases l <;> rfl) bools_rel fun H M S a p Q hs q => ⟨p, a, rfl, hs, q _ (.bl _)⟩
theorem any_tells {bx : Bool} : Tells X (prim .any bx) (rAny X.K) :=
  lst_tells (c := bools?) (c' := fun bs => bs.map V.bl) (g := fun bs => .bl (bs.any id)) (fun _ _ => rfl) (fun _ => rfl) (fun _ _ l _ => by cases l with | nil => rfl | cons a l => cases l <;> rfl) bools_rel fun H M S a p Q hs q => ⟨p, a, rfl, hs, q _ (.bl _)⟩
theorem sum_tells {bx : Bool} : Tells X (prim .sum bx) (rSum X.K) :=
  lst_tells (c := ints?) (c' := fun bs => bs.map V.int) (g := fun bs => .int bs.sum) (fun _ _ => rfl) (fun _ => rfl) (fun _ _ l _ => by cases l with | nil => rfl | cons a l => cases l <;> rfl) ints_rel fun H M S a p Q hs q => ⟨p, a, rfl, hs, q _ (.int _)⟩
theorem mm_tells {pr : Pr} {bx : Bool} {f : Int → Int → Int} (h2 : ∀ d e S, prim pr bx [d, e] S = pMM S f d e) (hn : ∀ ds S, ds.length ≠ 2 → prim pr bx ds S = .bad) :
    Tells X (prim pr bx) (fun xs H Q => ∃ i j, xs = [V.int i, V.int j] ∧ Q (.int (f i j)) H) := by
  intro H M S xs ds Q E rs rv h
  by_cases hl : ds.length = 2
  · obtain ⟨d, e, rfl⟩ : ∃ d e, ds = [d, e] := by
      match ds, hl with
      | [d, e], _ => exact ⟨d, e, rfl⟩
    obtain ⟨v, u, rfl, r1, r2⟩ := rv.two
    rw [h2] at h
    cases d with
    | int i =>
      cases e with
      | int j => rw [r1.int_, r2.int_]; exact ⟨i, j, rfl, h.ok rs (.int _)⟩
      | _ => exact h.elim
    | _ => exact h.elim
  · rw [hn _ _ hl] at h; exact h.elim
theorem max_tells {bx : Bool} : Tells X (prim .max2 bx) (fun xs H Q => ∃ i j, xs = [V.int i, V.int j] ∧ Q (.int (if j > i then j else i)) H) :=
  mm_tells (fun _ _ _ => rfl) fun ds S h => by
    match ds, h with
    | [], _ => rfl
    | [_], _ => rfl
    | [_, _], h => exact absurd rfl h
    | [_, _, _], _ => rfl
    | _ :: _ :: _ :: _ :: _, _ => rfl
theorem min_tells {bx : Bool} : Tells X (prim .min2 bx) (fun xs H Q => ∃ i j, xs = [V.int i, V.int j] ∧ Q (.int (if j < i then j else i)) H) :=
  mm_tells (fun _ _ _ => rfl) fun ds S h => by
    match ds, h with
    | [], _ => rfl
    | [_], _ => rfl
    | [_, _], h => exact absurd rfl h
    | [_, _, _], _ => rfl
    | _ :: _ :: _ :: _ :: _, _ => rfl
theorem int_tells {bx : Bool} : Tells X (prim .int bx) (fun xs H Q => (∃ i, xs = [V.int i] ∧ Q (.int i) H) ∨ ∃ k, xs = [V.bl k] ∧ Q (.int (if k then 1 else 0)) H) := by
  intro H M S xs ds Q E rs rv h
  match ds, rv, h with
  | [], _, h => exact h.elim
  | [d], rv, h =>
    obtain ⟨v, rfl, r⟩ := rv.one
    cases d with
    | int i => rw [r.int_]; exact .inl ⟨i, rfl, WPE.ok (d := .int i) h rs (.int _)⟩
    | bl b => rw [r.bl_]; exact .inr ⟨b, rfl, WPE.ok (d := .int (if b then 1 else 0)) h rs (.int _)⟩
    | _ => exact h.elim
  | [_, _], _, h => exact h.elim
  | [_, _, _], _, h => exact h.elim
  | _ :: _ :: _ :: _ :: _, _, h => exact h.elim
theorem abs_tells {bx : Bool} : Tells X (prim .abs bx) (fun xs H Q => ∃ i, xs = [V.int i] ∧ Q (.int (if i < 0 then -i else i)) H) := by
  intro H M S xs ds Q E rs rv h
  match ds, rv, h with
  | [], _, h => exact h.elim
  | [d], rv, h =>
    obtain ⟨v, rfl, r⟩ := rv.one
    cases d with
    | int i => rw [r.int_]; exact ⟨i, rfl, WPE.ok (d := .int (if i < 0 then -i else i)) h rs (.int _)⟩
    | _ => exact h.elim
  | [_, _], _, h => exact h.elim
  | [_, _, _], _, h => exact h.elim
  | _ :: _ :: _ :: _ :: _, _, h => exact h.elim
end
end Pw

set_option Elab.async false
set_option linter.all false
set_option maxRecDepth 100000
set_option maxHeartbeats 1000000
namespace PySem.W
open PySem PySem.Calls PyProof.Rows
section
variable {prog : Program} {w : World} {A : Around} {E : Value → Shared → Prop} {s : Shared}
/-- a tuple's items, gathered -/
theorem collect_tupleR {M : Model} {l : Addr} {vs : List Value} {Q : List Value → Shared → Prop} (hl : IsTup s.heap l vs.toArray)
    (h : Q vs { s with heap := (s.heap.push (seqObj "list" #[] 0)).update s.heap.objs.size (Obj.mapSeq (· ++ vs.toArray)) }) (hsz : vs.length ≤ sizeLine) :
    wpAny (model prog w) A (collect (.ref l)) Q E s := by
  obtain ⟨o, ho, hc, n, hd⟩ := id hl
  unfold collect
  refine wpAny_bind (wpAny_runValue (codeAny_builtin entry_proto_collect' ?_))
  show wpAny _ _ (do again (.builtin "list.__iadd__" ⟨[← newList [], .ref l], []⟩)) _ _ s
  refine wpAny_bind (wpAny_newList (wpAny_pure ⟨Code.quiet_builtin _ (by decide +kernel), codeAny_builtin entry_list_iadd' ?_⟩))
  show wpAny _ _ (Builtin.List.listExtendWith (.ref s.heap.objs.size) (.ref l) (.ref s.heap.objs.size)) _ _ { s with heap := s.heap.push (seqObj "list" #[] 0) }
  unfold Builtin.List.listExtendWith
  have ho' : (s.heap.push (seqObj "list" #[] 0)).get? l = some o := Heap.get?_push_of_some _ ho
  refine wpAny_bind (wpAny_typeOf (T := "tuple") ⟨o, ho', hc⟩ ?_)
  have ht : (Value.type "tuple" == Value.type "tuple") = true := by rfl
  rw [if_pos (by rw [ht]; simp)]
  refine wpAny_bind (listItems_at ho' hd ?_)
  refine wpAny_bind (listItems_at (xs := #[]) (n := 0) (Heap.get?_push_size _ rfl) rfl ?_)
  rw [if_neg (by simp)]
  refine wpAny_bind (listUpdate_at (xs := #[]) (n := 0) (Heap.get?_push_size _ rfl) rfl ?_ (Nat.zero_le _) (by show (#[] ++ vs.toArray).size ≤ sizeLine + 1; simp only [Array.size_append, List.size_toArray, List.length_nil]; omega))
  refine wpAny_pure ?_
  show wpAny (model prog w) A (do
      let o ← load s.heap.objs.size
      match o.data with
      | .seq xs _ => pure xs.toList
      | _ => unsupported "internal:collect") Q E { s with heap := (s.heap.push (seqObj "list" #[] 0)).update s.heap.objs.size (Obj.mapSeq (· ++ vs.toArray)) }
  refine wpAny_bind (wpAny_load (get?_update_seq (Heap.get?_push_size _ rfl) _) ?_)
  show wpAny _ _ (pure ((#[] : Array Value) ++ vs.toArray).toList) Q E _
  rw [show ((#[] : Array Value) ++ vs.toArray).toList = vs by simp]
  exact wpAny_pure h
theorem sorted_of_sortT {l : Addr} {vs : List Value} {kw : List (Str × Value)} {Q : Value → Shared → Prop} (hl : IsTup s.heap l vs.toArray) (hL : vs.length ≤ sizeLine) (ha1 : argsOk "sorted" ⟨[.ref l], kw⟩) (ha2 : ∀ x, argsOk "list.sort" ⟨[.ref x], kw⟩)
    (body : ∀ E' : Value → Shared → Prop, wpAny (model prog w) A.in1.in1 (Builtin.«list.sort» ⟨[.ref (s.heap.objs.size + 1)], kw⟩) (fun f s' => f = .done (.ret .none) ∧ Q (.ref (s.heap.objs.size + 1)) s') E' { s with heap := copyHeap s.heap vs }) :
    wpAny (model prog w) A (call (.builtin "sorted") [.ref l] kw) Q E s := by
  refine call_function_entry_kw kind_sorted plain_sorted entry_sorted ha1 ?_
  unfold Builtin.«sorted»
  refine wpAny_bind (m := checkCount "sorted" 1 1 _) (wpAny_pure ?_)
  refine wpAny_bind (collect_tupleR (M := model prog w) hl ?_ hL)
  refine wpAny_bind (wpAny_newList ?_ hL)
  have hsz : ((s.heap.push (seqObj "list" #[] 0)).update s.heap.objs.size (Obj.mapSeq (· ++ vs.toArray))).objs.size = s.heap.objs.size + 1 := by
    rw [Heap.size_update, size_push']
  show wpAny _ _ _ _ _ { s with heap := copyHeap s.heap vs }
  rw [hsz]
  refine wpAny_bind (wpAny_holding (wpAny_call_entry_kw slot_list_sort ⟨_, copyHeap_at s.heap vs, rfl⟩ entry_list_sort ?body (ha2 _)))
  case body =>
    show wpAny (model prog w) A.in1.in1 (Builtin.«list.sort» ⟨[.ref (s.heap.objs.size + 1)], kw⟩) _ _ _
    refine wpAny_mono (body _) (fun f s' hf => ?_) fun _ _ e => e
    obtain ⟨rfl, hq⟩ := hf
    exact ⟨_, rfl, wpAny_pure ⟨_, rfl, hq⟩⟩
theorem sorted_valsT {κ : PyProof.Rows.KeyKind} {l : Addr} {vs : List Value} {Q : Value → Shared → Prop} (hl : IsTup s.heap l vs.toArray) (S : SortsAt prog w A.in1.in1 { s with heap := sortingHeap (copyHeap s.heap vs) (s.heap.objs.size + 1) vs } κ vs) (hL : vs.length ≤ sizeLine)
    (h : Q (.ref (s.heap.objs.size + 1)) { s with heap := sortedAll s.heap vs (sortVals κ false vs vs).toArray }) : wpAny (model prog w) A (call (.builtin "sorted") [.ref l]) Q E s :=
  sorted_of_sortT hl hL (args_sorted1 _) (fun _ => args_list_sort _) fun _ => list_sort_vals (s := { s with heap := copyHeap s.heap vs }) (copyHeap_at s.heap vs) S hL ⟨rfl, h⟩
theorem sorted_dataT {β : Type} {R : Value → β → Prop} {enc : β → PyData} {vs : List Value} {bs : List β} {l : Addr} {Q : Value → Shared → Prop} (hl : IsTup s.heap l vs.toArray) (e : EachIs R vs bs) (er : EachIs (fun v b => ∃ as, Reads s.heap v (enc b) as) vs bs) (hal : AllAlike (bs.map enc)) (hk : Sortable (bs.map enc)) (hL : bs.length ≤ sizeLine)
    (hu : ∀ b, b ∈ bs → A.units + 2 + (enc b).depth < cLine) (h : ∀ out, out.length = bs.length → EachIs R out (bs.mergeSort (dataLe false enc)) → Q (.ref (s.heap.objs.size + 1)) { s with heap := sortedAll s.heap vs (List.toArray out) }) :
    wpAny (model prog w) A (call (.builtin "sorted") [.ref l]) Q E s := by
  have er' : EachIs (fun v b => ∃ as, Reads (sortingHeap (copyHeap s.heap vs) (s.heap.objs.size + 1) vs) v (enc b) as) vs bs := er.mono fun _ _ ⟨as, r⟩ => ⟨as, PyProof.Rows.Reads.keeps (fun _ _ => sorting_copy_old) r⟩
  exact sorted_valsT hl (SortsAt.data (s := { s with heap := sortingHeap (copyHeap s.heap vs) (s.heap.objs.size + 1) vs }) (each_map (R := fun v d => ∃ as, Reads (sortingHeap (copyHeap s.heap vs) (s.heap.objs.size + 1) vs) v d as) enc er') hal hk (bound_map hu)) (by rw [e.length]; exact hL)
    (h _ (by rw [sortVals_length false rfl]; exact e.length) (sortVals_data false e er' hal))
end
end PySem.W
namespace Pw
open PySem PySem.Spec PyProof.Rows L2
section
variable {X : Cx}
/-- sorted(a list, a tuple) of data -/
def rSortD (K : PySem.W.Frag) : List V → Hp → VK → Prop := fun xs H Q => ∃ (a : Addr) (ys : List V) (bs : List (V × PyData)), xs = [V.ref a] ∧ (SqL K H a ys ∨ SqT K H a ys) ∧ bs.map (·.1) = ys ∧ (∀ b ∈ bs, Dp K H b.1 b.2) ∧
  PySem.W.AllAlike (bs.map (·.2)) ∧ PySem.W.Sortable (bs.map (·.2)) ∧ bs.length ≤ sizeLine ∧ (∀ b ∈ bs, b.2.depth ≤ 60) ∧ ∀ p, H p = none → Q (.ref p) (upd H p (.lst ((bs.mergeSort (PySem.W.dataLe false (·.2))).map (·.1))))
theorem each_vals {bs : List (V × PyData)} : ∀ {us : List Value}, Vals (bs.map (·.1)) us → PySem.W.EachIs (fun u b => RelV b.1 u) us bs := by
  induction bs with
  | nil => intro us h; cases h; exact .nil
  | cons b bs ih => intro us h; cases h with | cons r t => exact .cons r (ih t)
theorem vals_each {bs : List (V × PyData)} : ∀ {us : List Value}, PySem.W.EachIs (fun u b => RelV b.1 u) us bs → Vals (bs.map (·.1)) us := by
  induction bs with
  | nil => intro us h; cases h; exact .nil
  | cons b bs ih => intro us h; cases h with | cons r t => exact .cons r (ih t)
theorem each_reads {pins : List (Addr × Obj)} {σ : L2.St} {H : Hp} {s : Shared} (I : Inv X pins σ H s) {bs : List (V × PyData)} (h : ∀ b ∈ bs, Dp X.K H b.1 b.2) : ∀ {us : List Value}, Vals (bs.map (·.1)) us → PySem.W.EachIs (fun u b => ∃ as, Reads s.heap u b.2 as) us bs := by
  induction bs with
  | nil => intro us h; cases h; exact .nil
  | cons b bs ih =>
    intro us r
    cases r with
    | cons r t => exact .cons (Dp.reads I _ _ _ (h b (List.mem_cons_self ..)) r) (ih (fun c hc => h c (List.mem_cons_of_mem _ hc)) t)
theorem cr_sortD (hu : X.A.units + 70 < cLine) : CallR X (.builtin "sorted") (rSortD X.K) := by
  intro pins s σ H xs us Q I r h
  obtain ⟨a, ys, bs, rfl, hs, rfl, hd, hal, hk, hL, hdp, q⟩ := h
  obtain ⟨u, rfl, ru⟩ := r.one
  cases ru
  have fin : ∀ {its : List Value}, ∀ out : List Value, out.length = bs.length → PySem.W.EachIs (fun u b => RelV b.1 u) out (bs.mergeSort (PySem.W.dataLe false (·.2))) →
      EP X pins σ Q (.ref (s.heap.objs.size + 1)) { s with heap := sortedAll s.heap its (List.toArray out) } := by
    intro its out ho eo
    obtain ⟨ep, he'⟩ := PyProof.Rows.sortedAll_at s.heap its (List.toArray out)
    have hv := vals_each eo
    refine ⟨.ref _, upd H (s.heap.objs.size + 1) (.lst ((bs.mergeSort (PySem.W.dataLe false (·.2))).map (·.1))), I.laid (t' := s.toks) (fun _ _ => PyProof.Rows.sortedAll_old) (Nat.le_succ _) ⟨?_, out, ep, hv, he'⟩, rfl, q _ (I.hok.fresh (Nat.le_succ _))⟩
    rw [hv.length, ho]; exact hL
  rcases hs with hs | hs
  · obtain ⟨its, rv, hl, _⟩ := I.list hs
    exact PySem.W.sorted_data (R := fun u b => RelV b.1 u) hl.isList (each_vals rv) (each_reads I hd rv) hal hk hL (fun b hb => by have := hdp b hb; omega) fun out ho eo => fin out ho eo
  · obtain ⟨its, rv, hl, _⟩ := I.tuple hs
    exact PySem.W.sorted_dataT (R := fun u b => RelV b.1 u) hl (each_vals rv) (each_reads I hd rv) hal hk hL (fun b hb => by have := hdp b hb; omega) fun out ho eo => fin out ho eo
end
end Pw

set_option Elab.async false
set_option linter.all false
set_option maxRecDepth 100000
set_option maxHeartbeats 1000000
namespace Pw
open PySem PySem.Spec PyProof.Rows L2
section
variable {X : Cx}
theorem toPy_of {d : D} (h : d.toPy.isSome = true) : d.toPy = some (pyOf d) := by
  unfold pyOf unPy
  cases e : d.toPy with
  | none => rw [e] at h; cases h
  | some p => rfl
/-- data and values side by side -/
theorem pairsOf {K : PySem.W.Frag} {H : Hp} {M : Pl} : ∀ {ds : List D} {vs : List V}, RelDs K H M ds vs → ∃ ts : List (D × V), ts.map (·.1) = ds ∧ ts.map (·.2) = vs ∧ ∀ t ∈ ts, RelD K H M t.1 t.2
  | _, _, .nil => ⟨[], rfl, rfl, fun _ h => nomatch h⟩
  | d :: ds, v :: vs, .cons r t => by
    obtain ⟨ts, h1, h2, h3⟩ := pairsOf t
    refine ⟨(d, v) :: ts, by simp [h1], by simp [h2], fun x hx => ?_⟩
    rcases List.mem_cons.mp hx with rfl | hx
    · exact r
    · exact h3 x hx
theorem ofPairs {K : PySem.W.Frag} {H : Hp} {M : Pl} : ∀ {ts : List (D × V)}, (∀ t ∈ ts, RelD K H M t.1 t.2) → RelDs K H M (ts.map (·.1)) (ts.map (·.2))
  | [], _ => .nil
  | t :: ts, h => .cons (h t (List.mem_cons_self ..)) (ofPairs fun x hx => h x (List.mem_cons_of_mem _ hx))
theorem sorted_tells {bx : Bool} : Tells X (prim .sorted bx) (rSortD X.K) := by
  intro H M S xs ds Q E rs rv h
  match ds, rv, h with
  | [], _, h => exact h.elim
  | [d], rv, h =>
    obtain ⟨v, rfl, r⟩ := rv.one
    replace h : WPE X.K X.mg H M (R.o ((seqOf S d).bind sortD) fun xs => mkL bx xs S) Q E := h
    cases e : seqOf S d with
    | none => rw [e] at h; exact h.elim
    | some ys =>
      rw [e] at h
      replace h : WPE X.K X.mg H M (R.o (sortD ys) fun xs => mkL bx xs S) Q E := h
      unfold sortD at h
      split at h
      · rename_i hc
        obtain ⟨h1, h2, h3, h4, h5⟩ := hc
        obtain ⟨a, ws, rfl, hs, rr⟩ := seqOf_rel rs r e
        obtain ⟨ts, e1, e2, e3⟩ := pairsOf rr
        subst e1 e2
        obtain ⟨_, k⟩ := WPE.mkL rs h
        have m1 := List.map_mergeSort (f := fun t : D × V => t.1) (r := PySem.W.dataLe false fun t : D × V => pyOf t.1) (s := PySem.W.dataLe false pyOf) (l := ts) (fun _ _ _ _ => rfl)
        have m2 := List.map_mergeSort (f := fun t : D × V => (t.2, pyOf t.1)) (r := PySem.W.dataLe false fun t : D × V => pyOf t.1) (s := PySem.W.dataLe false fun t : V × PyData => t.2) (l := ts) (fun _ _ _ _ => rfl)
        refine ⟨a, ts.map (·.2), ts.map fun t => (t.2, pyOf t.1), rfl, hs.imp id TupAt.sq, by rw [List.map_map]; rfl, fun b hb => ?_, ?_, ?_, ?_, fun b hb => ?_, fun p hp => ?_⟩
        · obtain ⟨t, ht, rfl⟩ := List.mem_map.mp hb
          exact RelD.dp (e3 t ht) (toPy_of (h1 t.1 (List.mem_map.mpr ⟨t, ht, rfl⟩)))
        · rw [List.map_map]
          rw [List.map_map] at h2
          exact h2
        · rw [List.map_map]
          rw [List.map_map] at h3
          exact h3
        · rw [List.length_map]; rw [List.length_map] at h4; exact h4
        · obtain ⟨t, ht, rfl⟩ := List.mem_map.mp hb
          exact h5 t.1 (List.mem_map.mpr ⟨t, ht, rfl⟩)
        · rw [← m2, List.map_map]
          refine k _ p ?_ hp
          rw [← m1]
          have : RelDs X.K H M ((ts.mergeSort (PySem.W.dataLe false fun t : D × V => pyOf t.1)).map (·.1)) ((ts.mergeSort (PySem.W.dataLe false fun t : D × V => pyOf t.1)).map (·.2)) :=
            ofPairs fun t ht => e3 t (List.mem_mergeSort.mp ht)
          exact this
      · exact h.elim
  | [_, _], _, h => exact h.elim
  | [_, _, _], _, h => exact h.elim
  | _ :: _ :: _ :: _ :: _, _, h => exact h.elim
end

/-! ## methods of built-in types -/
def tyW (K : PySem.W.Frag) (T : String) (x : V) (H : Hp) : Prop := tyV K T x H ∨ (T = "tuple" ∧ ∃ p vs, x = .ref p ∧ TupAt K H p vs)
section
variable {X : Cx}
theorem tyW_is {pins : List (Addr × Obj)} {σ : L2.St} {H : Hp} {s : Shared} {T : String} {x : V} {v : Value} (I : Inv X pins σ H s) (r : RelV x v) (ty : tyW X.K T x H) :
    s.TypeIs v T ∧ ∀ a, v = .ref a → ∃ ob, s.heap.get? a = some ob ∧ ob.dict = none := by
  rcases ty with ty | ⟨rfl, p, vs, rfl, h⟩
  · exact tyV_is I r ty
  · cases r
    rcases h with ⟨o, h, hd⟩ | ⟨o, its, n, hk, hc, hd, _⟩
    · obtain ⟨e0, _, _, _, o', h1, h2, _⟩ := (show ObjOk X.prog X.w H s.heap p (.frz o (.tup vs)) from I.hok p _ h)
      exact ⟨⟨o', h1, h2⟩, fun a e => by cases e; exact ⟨o, e0, hd⟩⟩
    · exact ⟨⟨o, I.kIn p o hk, hc⟩, fun a e => by cases e; exact ⟨o, I.kIn _ o hk, hd⟩⟩
structure MthOk (X : Cx) (name : Str) (T id : String) (r : V → List V → Hp → VK → Prop) : Prop where
  pa : PlainAttrs T
  slot : Slot T name id
  ty : typeOf (.builtin id) = pure (.type "method_descriptor")
  mt : MtR X id r
def tBMG (X : Cx) (name : Str) (to : TE) (t : TA) : TE := fun σ H Q => to σ H fun x H1 => ∃ T id r, MthOk X name T id r ∧ tyW X.K T x H1 ∧ t σ H1 fun xs H2 => r x xs H2 Q
variable {o e : Expr} {es : List Expr} {to : TE} {t : TA} {name : Str} {apos cpos : Pos}
theorem pe_bmG0 (ho : PE X o to) (hbase : attributeBase o name X.env (eval o X.env) = eval o X.env) (hline : (apos.endLine == cpos.line) = true) :
    PE X (.Call (.Attribute o name apos) [] [] cpos) (tBMG X name to tNil) := by
  refine ⟨fun pins s σ H Q I h => ?_⟩
  refine wpAny_Call_method0_late hbase hline (thn (ho.run pins s σ H _ I h) fun v s1 ⟨x, H1, I1, r1, T, id, r, m, ty, q1⟩ => ?_)
  obtain ⟨h1, h2⟩ := tyW_is I1 r1 ty
  exact ⟨T, id, m.pa, m.slot, m.ty, h1, h2, Calls.callWith_builtin rfl (PySem.evalArgs_none (m.mt pins s1 σ H1 x [] v [] Q I1 r1 .nil q1))⟩
theorem pe_bmG (ho : PE X o to) (ha : PA X (e :: es) t) (hbase : attributeBase o name X.env (eval o X.env) = eval o X.env) (hsm : (e :: es).length < 30) (hline : (apos.endLine == cpos.line) = true) (hs : (e :: es).all noStar = true) :
    PE X (.Call (.Attribute o name apos) (e :: es) [] cpos) (tBMG X name to t) := by
  refine ⟨fun pins s σ H Q I h => ?_⟩
  refine wpAny_Call_method_late hbase ?_ hline rfl (thn (ho.run pins s σ H _ I h) fun v s1 ⟨x, H1, I1, r1, T, id, r, m, ty, q1⟩ => ?_)
  · rw [starEach_plain2 hs]
    simp [keywordEach, backToKw] at hsm ⊢
    exact hsm
  · obtain ⟨h1, h2⟩ := tyW_is I1 r1 ty
    refine ⟨T, id, m.pa, m.slot, m.ty, h1, h2, ?_⟩
    have hA := ha.run cpos pins s1 σ H1 _ I1 q1
    rw [List.all_cons, Bool.and_eq_true] at hs
    rw [starEach_cons hs.1] at hA ⊢
    refine Calls.callWith_builtin (by show (false || (backTo cpos (starEach es X.env)).any (·.1)) = false; rw [starEach_plain hs.2] <;> rfl) (Calls.evalArgs_plain ?_)
    exact thn hA fun us s2 ⟨vs, H2, I2, r2, q2⟩ => m.mt pins s2 σ H2 x vs v us Q I2 r1 r2 q2
/-- the rule of a method: by the kind of the thing, the type and the rule -/
def TellsM (X : Cx) (name : Str) (ok : Nat → Bool) (f : D → List D → Sto → R D) : Prop :=
  ∀ (H : Hp) (M : Pl) (S : Sto) (d : D) (x : V), RelS X.K H M S → RelD X.K H M d x → ok (kd S d) = true →
    ∃ T id r, MthOk X name T id r ∧ tyW X.K T x H ∧ ∀ (H2 : Hp) (M2 : Pl) (S2 : Sto) (xs : List V) (ds : List D) (Q : VK) (E : XK), RelS X.K H2 M2 S2 → RelD X.K H2 M2 d x → RelDs X.K H2 M2 ds xs → kd S d = kd S2 d → WPE X.K X.mg H2 M2 (f d ds S2) Q E → r x xs H2 Q
theorem mth_core {vs : Ev → Sto → R (List D)} {f : D → List D → Sto → R D} {ok : Nat → Bool} (hf : TellsM X name ok f) {W : WX} {ta : TA} {to : TE} {vo : Ev → Sto → R D}
    (qo : ∀ (σ : L2.St) (H : Hp) (M : Pl) (env : Ev) (S : Sto) (Q : VK), RelE X.K H M env σ → RelS X.K H M S → WPE X.K X.mg H M (vo env S) Q (fun c d H' => W c d σ H') → to σ H Q)
    (qa : ∀ (σ : L2.St) (H : Hp) (M : Pl) (env : Ev) (S : Sto) (Q : List V → Hp → Prop), RelE X.K H M env σ → RelS X.K H M S → WPA X.K X.mg H M (vs env S) Q (fun c d H' => W c d σ H') → ta σ H Q) :
    ∀ (σ : L2.St) (H : Hp) (M : Pl) (env : Ev) (S : Sto) (Q : VK), RelE X.K H M env σ → RelS X.K H M S →
      WPE X.K X.mg H M ((vo env S).bind fun x S1 => if ok (kd S1 x) then (vs env S1).bind fun ys S2 => if kd S1 x = kd S2 x then f x ys S2 else .bad else .bad) Q (fun c d H' => W c d σ H') → tBMG X name to ta σ H Q := by
  intro σ H M env S Q re rs h
  refine qo σ H M env S _ re rs (WPE.bind h fun dx S1 x H1 M1 x1 rs1 rx h1 => ?_)
  by_cases hk : ok (kd S1 dx) = true
  rotate_left
  · rw [if_neg hk] at h1; exact h1.elim
  · rw [if_pos hk] at h1
    obtain ⟨T, id, r, m, ty, k⟩ := hf H1 M1 S1 dx x rs1 rx hk
    refine ⟨T, id, r, m, ty, ?_⟩
    refine qa σ H1 M1 env S1 _ (re.mono x1) rs1 (WPA.bindE h1 fun ds S2 xs H2 M2 x2 rs2 rxs h2 => ?_)
    by_cases he : kd S1 dx = kd S2 dx
    · rw [if_pos he] at h2
      exact k H2 M2 S2 xs ds Q _ rs2 (rx.mono x2) rxs he h2
    · rw [if_neg he] at h2
      exact h2.elim
theorem de_mth0 {vo : Ev → Sto → R D} {f : D → List D → Sto → R D} {ok : Nat → Bool} (hf : TellsM X name ok f) (ho : DE X o vo)
    (hbase : attributeBase o name X.env (eval o X.env) = eval o X.env) (hline : (apos.endLine == cpos.line) = true) :
    DE X (.Call (.Attribute o name apos) [] [] cpos) (fun e S => (vo e S).bind fun x S1 => if ok (kd S1 x) then (R.ok [] S1 : R (List D)).bind fun ys S2 => if kd S1 x = kd S2 x then f x ys S2 else .bad else .bad) := by
  intro W tk
  obtain ⟨to, po, qo⟩ := ho W tk
  exact ⟨_, pe_bmG0 po hbase hline, mth_core (vs := fun _ S => .ok [] S) hf qo fun σ H M env S Q re rs h => h [] H M (Ext.refl _ _) rs .nil⟩
theorem de_mth {vo : Ev → Sto → R D} {vs : Ev → Sto → R (List D)} {f : D → List D → Sto → R D} {ok : Nat → Bool} (hf : TellsM X name ok f) (ho : DE X o vo) (ha : DA X (e :: es) vs)
    (hbase : attributeBase o name X.env (eval o X.env) = eval o X.env) (hsm : (e :: es).length < 30) (hline : (apos.endLine == cpos.line) = true) (hs : (e :: es).all noStar = true) :
    DE X (.Call (.Attribute o name apos) (e :: es) [] cpos) (fun e S => (vo e S).bind fun x S1 => if ok (kd S1 x) then (vs e S1).bind fun ys S2 => if kd S1 x = kd S2 x then f x ys S2 else .bad else .bad) := by
  intro W tk
  obtain ⟨to, po, qo⟩ := ho W tk
  obtain ⟨ta, pa, qa⟩ := ha W tk
  exact ⟨_, pe_bmG po pa hbase hsm hline hs, mth_core hf qo qa⟩
theorem base_ok {o : Expr} {name : Str} {env : Env} {whole : Sem Value} (h : (match o with | .Call _ _ _ _ => false | _ => true) = true) : attributeBase o name env whole = whole := by
  cases o <;> first | rfl | cases h
end
end Pw

set_option Elab.async false
set_option linter.all false
set_option maxRecDepth 100000
set_option maxHeartbeats 1000000
namespace Pw
open PySem PySem.Spec PyProof.Rows L2
section
variable {X : Cx} {bx : Bool}
theorem kd1 {S : Sto} {d : D} (h : kd S d = 1) : ∃ xs, rd S d = .lst xs := by
  unfold kd at h
  cases e : rd S d <;> rw [e] at h <;> first | exact ⟨_, rfl⟩ | cases h
theorem kd2 {S : Sto} {d : D} (h : kd S d = 2) : ∃ xs, rd S d = .tup xs := by
  unfold kd at h
  cases e : rd S d <;> rw [e] at h <;> first | exact ⟨_, rfl⟩ | cases h
theorem kd3 {S : Sto} {d : D} (h : kd S d = 3) : ∃ ks vs, rd S d = .dct ks vs := by
  unfold kd at h
  cases e : rd S d <;> rw [e] at h <;> first | exact ⟨_, _, rfl⟩ | cases h
theorem kd4 {S : Sto} {d : D} (h : kd S d = 4) : ∃ xs, rd S d = .str xs := by
  unfold kd at h
  cases e : rd S d <;> rw [e] at h <;> first | exact ⟨_, rfl⟩ | cases h
theorem rd_str_ {S : Sto} {d : D} {x : Str} (h : rd S d = .str x) : d = .str x := by
  cases d with
  | ref l =>
    rw [rd_ref] at h
    cases e : S[l]? with
    | none => rw [e] at h; cases h
    | some m => rw [e] at h; cases m <;> cases h
  | _ => first | exact h | cases h
theorem tyL {K : PySem.W.Frag} {H : Hp} {M : Pl} {S : Sto} {d : D} {x : V} (rs : RelS K H M S) (r : RelD K H M d x) (h : kd S d = 1) : tyW K "list" x H := by
  obtain ⟨xs, e⟩ := kd1 h
  have q := rd_rel rs r
  rw [e] at q
  obtain ⟨a, vs, rfl, hs, _⟩ := q.sqL
  exact .inl (.inl ⟨rfl, vs, hs⟩)
theorem tyT {K : PySem.W.Frag} {H : Hp} {M : Pl} {S : Sto} {d : D} {x : V} (rs : RelS K H M S) (r : RelD K H M d x) (h : kd S d = 2) : tyW K "tuple" x H := by
  obtain ⟨xs, e⟩ := kd2 h
  have q := rd_rel rs r
  rw [e] at q
  obtain ⟨a, vs, rfl, hs, _⟩ := q.sqT
  exact .inr ⟨rfl, a, vs, rfl, hs⟩
theorem tyD {H : Hp} {M : Pl} {S : Sto} {d : D} {x : V} (rs : RelS X.K H M S) (r : RelD X.K H M d x) (h : kd S d = 3) : tyW X.K "dict" x H := by
  obtain ⟨ks, vs, e⟩ := kd3 h
  have q := rd_rel rs r
  rw [e] at q
  obtain ⟨a, kvs, rfl, hs, _⟩ := q.dct_
  exact .inl (.inr (.inr (.inl ⟨rfl, .inl ⟨kvs, hs⟩⟩)))
theorem tyS {K : PySem.W.Frag} {H : Hp} {M : Pl} {S : Sto} {d : D} {x : V} (rs : RelS K H M S) (r : RelD K H M d x) (h : kd S d = 4) : tyW K "str" x H := by
  obtain ⟨xs, e⟩ := kd4 h
  have q := rd_rel rs r
  rw [e] at q
  rw [q.str_]
  exact .inl rfl
/-- a list of the store -/
theorem refL {K : PySem.W.Frag} {H : Hp} {M : Pl} {S : Sto} {l : Nat} {x : V} {xs : List D} (rs : RelS K H M S) (r : RelD K H M (.ref l) x) (e : S[l]? = some (.lst xs)) :
    ∃ a vs, x = .ref a ∧ M.m[l]? = some a ∧ H a = some (.lst vs) ∧ RelDs K H M xs vs := by
  obtain ⟨a, rfl, h⟩ := r.ref_
  obtain ⟨o, ho, vs, rfl, rr⟩ := rs.at_ l a _ h e
  exact ⟨a, vs, rfl, h, ho, rr⟩
theorem refD {K : PySem.W.Frag} {H : Hp} {M : Pl} {S : Sto} {l : Nat} {x : V} {ks xs : List D} (rs : RelS K H M S) (r : RelD K H M (.ref l) x) (e : S[l]? = some (.dct ks xs)) :
    ∃ a kvs, x = .ref a ∧ M.m[l]? = some a ∧ H a = some (.dK kvs) ∧ ks = (kvs.map (·.1)).map kD ∧ RelDs K H M xs (kvs.map (·.2)) := by
  obtain ⟨a, rfl, h⟩ := r.ref_
  obtain ⟨o, ho, kvs, rfl, hk, rr⟩ := rs.at_ l a _ h e
  exact ⟨a, kvs, rfl, h, ho, hk, rr⟩
theorem append_tells : TellsM X "append" Pr.append.kindOk (fun d ds => prim .append bx (d :: ds)) := by
  intro H M S d x rs r hk
  refine ⟨"list", "list.append", rAppend, ⟨PySem.F.plainAttrs_list, PySem.F.slot_list_append, PySem.F.type_list_append, mt_append⟩, tyL rs r (by simpa [Pr.kindOk] using hk), ?_⟩
  intro H2 M2 S2 xs ds Q E rs2 r2 rv _ h
  match ds, rv, h with
  | [], _, h => exact h.elim
  | [y], rv, h =>
    obtain ⟨u, rfl, ry⟩ := rv.one
    replace h : WPE X.K X.mg H2 M2 (dAppend d y S2) Q E := h
    cases d with
    | ref l =>
      unfold dAppend at h
      simp only at h
      cases e : S2[l]? with
      | none => rw [e] at h; exact h.elim
      | some m =>
        rw [e] at h
        cases m with
        | dct _ _ => exact h.elim
        | lst zs =>
          simp only at h
          split at h
          · rename_i hz
            obtain ⟨a, vs, rfl, hm, ha, rr⟩ := refL rs2 r2 e
            have hx : Ext H2 M2 (upd H2 a (.lst (vs ++ [u]))) M2 := Ext.write rs2 hm
            exact ⟨a, vs, u, rfl, rfl, ha, by rw [← rr.length]; exact hz, h .non _ _ hx (rs2.write hm ⟨_, rfl, rr.append (.cons ry .nil)⟩) .non⟩
          · exact h.elim
    | _ => exact h.elim
  | [_, _], _, h => exact h.elim
  | _ :: _ :: _ :: _, _, h => exact h.elim
theorem RelDs.dropLast {K : PySem.W.Frag} {H : Hp} {M : Pl} {ds : List D} {vs : List V} (r : RelDs K H M ds vs) : RelDs K H M ds.dropLast vs.dropLast := by
  rw [List.dropLast_eq_take, List.dropLast_eq_take, ← r.length]; exact r.take _
theorem pop_tells : TellsM X "pop" Pr.pop.kindOk (fun d ds => prim .pop bx (d :: ds)) := by
  intro H M S d x rs r hk
  refine ⟨"list", "list.pop", rPop, ⟨PySem.F.plainAttrs_list, PySem.F.slot_list_pop, PySem.F.type_list_pop, mt_pop⟩, tyL rs r (by simpa [Pr.kindOk] using hk), ?_⟩
  intro H2 M2 S2 xs ds Q E rs2 r2 rv _ h
  match ds, rv, h with
  | [], rv, h =>
    cases rv
    replace h : WPE X.K X.mg H2 M2 (dPop d S2) Q E := h
    cases d with
    | ref l =>
      unfold dPop at h
      simp only at h
      cases e : S2[l]? with
      | none => rw [e] at h; exact h.elim
      | some m =>
        rw [e] at h
        cases m with
        | dct _ _ => exact h.elim
        | lst zs =>
          simp only at h
          cases e2 : zs[zs.length - 1]? with
          | none => rw [e2] at h; exact h.elim
          | some y =>
            rw [e2] at h
            obtain ⟨a, vs, rfl, hm, ha, rr⟩ := refL rs2 r2 e
            obtain ⟨u, hu, ru⟩ := rr.get e2
            have hx : Ext H2 M2 (upd H2 a (.lst vs.dropLast)) M2 := Ext.write rs2 hm
            exact ⟨a, vs, u, rfl, rfl, ha, by rw [← rr.length]; exact hu, h u _ _ hx (rs2.write hm ⟨_, rfl, rr.dropLast⟩) (ru.mono hx)⟩
    | _ => exact h.elim
  | [_], _, h => exact h.elim
  | [_, _], _, h => exact h.elim
  | _ :: _ :: _ :: _, _, h => exact h.elim
theorem ixN_seqIndex {n k : Nat} {i : Int} (h : ixN n i = some k) : seqIndex? i n = some k := (ixN_seq h).1
theorem popAt_tells : TellsM X "pop" Pr.popAt.kindOk (fun d ds => prim .popAt bx (d :: ds)) := by
  intro H M S d x rs r hk
  refine ⟨"list", "list.pop", rPopAt, ⟨PySem.F.plainAttrs_list, PySem.F.slot_list_pop, PySem.F.type_list_pop, mt_popAt⟩, tyL rs r (by simpa [Pr.kindOk] using hk), ?_⟩
  intro H2 M2 S2 xs ds Q E rs2 r2 rv _ h
  match ds, rv, h with
  | [], _, h => exact h.elim
  | [y], rv, h =>
    obtain ⟨u, rfl, ry⟩ := rv.one
    replace h : WPE X.K X.mg H2 M2 (dPopAt d y S2) Q E := h
    cases d with
    | ref l =>
      cases y with
      | int i =>
        unfold dPopAt at h
        simp only at h
        cases e : S2[l]? with
        | none => rw [e] at h; exact h.elim
        | some m =>
          rw [e] at h
          cases m with
          | dct _ _ => exact h.elim
          | lst zs =>
            simp only at h
            cases e2 : ixN zs.length i with
            | none => rw [e2] at h; exact h.elim
            | some k =>
              rw [e2] at h
              simp only [R.o_some] at h
              cases e3 : zs[k]? with
              | none => rw [e3] at h; exact h.elim
              | some z =>
                rw [e3] at h
                simp only [R.o_some] at h
                split at h
                · rename_i hi
                  obtain ⟨a, vs, rfl, hm, ha, rr⟩ := refL rs2 r2 e
                  obtain ⟨w, hw, rw'⟩ := rr.get e3
                  have hx : Ext H2 M2 (upd H2 a (.lst (vs.eraseIdx k))) M2 := Ext.write rs2 hm
                  rw [ry.int_]
                  exact ⟨a, vs, i, k, w, rfl, rfl, ha, hi.1, hi.2, by rw [← rr.length]; exact ixN_seqIndex e2, hw, h w _ _ hx (rs2.write hm ⟨_, rfl, rr.eraseIdx k⟩) (rw'.mono hx)⟩
                · exact h.elim
      | _ => exact h.elim
    | _ => cases y <;> exact h.elim
  | [_, _], _, h => exact h.elim
  | _ :: _ :: _ :: _, _, h => exact h.elim
/-- the first place of an equal one; how many are equal -/
def rIdxP (K : PySem.W.Frag) (tp : Bool) : V → List V → Hp → VK → Prop := fun x xs H Q => ∃ (a : Addr) (y : V) (vs : List V) (ps : List PyData) (p : PyData) (j : Nat), x = .ref a ∧ xs = [y] ∧ (if tp then SqT K H a vs else SqL K H a vs) ∧ DpAll K H vs ps ∧ Dp K H y p ∧
  PyData.plainAll ps = true ∧ p.plain = true ∧ min (PyData.depthAll ps) p.depth ≤ 60 ∧ SeqAt.dataPlace ps p = some j ∧ Q (.int (j : Nat)) H
theorem mt_idxL (hu : X.A.units + 64 < cLine) : MtR X "list.index" (rIdxP X.K false) := by
  intro pins s σ H x xs v us Q I rx rxs h
  obtain ⟨a, y, vs, ps, p, j, rfl, rfl, hs, hd, hp, h1, h2, h3, h4, q⟩ := h
  cases rx
  obtain ⟨u, rfl, ru⟩ := rxs.one
  obtain ⟨its, rv, ⟨⟨cls, dd, data, sls⟩, n, ho, hc, hdn, hdt⟩, hlen⟩ := I.list (show SqL X.K H a vs from hs)
  simp only at hc hdt
  subst hc hdt
  obtain ⟨as, r1⟩ := Dp.readsAll I ps _ its hd rv
  obtain ⟨bs, r2⟩ := Dp.reads I p y u hp ru
  obtain ⟨hj, e1, e2⟩ := SeqAt.hit_at (vs := its.toArray) (by simpa using r1) h1 h4
  have hj' : j < its.length := by simpa using hj
  have hl := rv.length
  have hsl := sizeLine_eq
  exact call_meets PySem.F.slot_list_index ⟨_, ho, rfl⟩ PySem.F.entry_list_index (PySem.F.args_list_index_2 _ _) (SeqAt.list_indexAt a its.toArray n dd sls u _ j hj (by omega) e1 e2)
    ⟨ho, SeqAt.items_plain (by simpa using r1) r2 h1 h2 (by omega), ⟨.int _, H, I.tok _, ⟨_, rfl⟩, q⟩⟩
theorem mt_idxT (hu : X.A.units + 64 < cLine) : MtR X "tuple.index" (rIdxP X.K true) := by
  intro pins s σ H x xs v us Q I rx rxs h
  obtain ⟨a, y, vs, ps, p, j, rfl, rfl, hs, hd, hp, h1, h2, h3, h4, q⟩ := h
  cases rx
  obtain ⟨u, rfl, ru⟩ := rxs.one
  obtain ⟨its, rv, ⟨⟨cls, dd, data, sls⟩, ho, hc, n, hdt⟩, hlen⟩ := I.tuple (show SqT X.K H a vs from hs)
  simp only at hc hdt
  subst hc hdt
  obtain ⟨as, r1⟩ := Dp.readsAll I ps _ its hd rv
  obtain ⟨bs, r2⟩ := Dp.reads I p y u hp ru
  obtain ⟨hj, e1, e2⟩ := SeqAt.hit_at (vs := its.toArray) (by simpa using r1) h1 h4
  exact call_meets PySem.F.slot_tuple_index ⟨_, ho, rfl⟩ PySem.F.entry_tuple_index (PySem.F.args_tuple_index_2 _ _) (TI.tuple_indexAt a its.toArray n dd sls u _ j hj e1 e2)
    ⟨ho, SeqAt.items_plain (by simpa using r1) r2 h1 h2 (by omega), ⟨.int _, H, I.tok _, ⟨_, rfl⟩, q⟩⟩
theorem index_tells (hu : X.A.units + 64 < cLine) : TellsM X "index" Pr.indexOf.kindOk (fun d ds => prim .indexOf bx (d :: ds)) := by
  intro H M S d x rs r hk
  have core : ∀ (H2 : Hp) (M2 : Pl) (S2 : Sto) (xs : List V) (ds : List D) (Q : VK) (E : XK) (tp : Bool), RelS X.K H2 M2 S2 → RelD X.K H2 M2 d x → RelDs X.K H2 M2 ds xs → (if tp then kd S2 d = 2 else kd S2 d = 1) → WPE X.K X.mg H2 M2 (prim .indexOf bx (d :: ds) S2) Q E → rIdxP X.K tp x xs H2 Q := by
    intro H2 M2 S2 xs ds Q E tp rs2 r2 rv hk h
    match ds, rv, h with
    | [], _, h => exact h.elim
    | [y], rv, h =>
      obtain ⟨u, rfl, ry⟩ := rv.one
      replace h : WPE X.K X.mg H2 M2 (R.o ((seqOf S2 d).bind (idxOf S2 y)) fun i => .ok (.int i) S2) Q E := h
      have fin : ∀ (a : Addr) (zs : List D) (vs : List V), x = .ref a → seqOf S2 d = some zs → (if tp then SqT X.K H2 a vs else SqL X.K H2 a vs) → RelDs X.K H2 M2 zs vs → rIdxP X.K tp x [u] H2 Q := by
        intro a zs vs ex es hs rr
        rw [es] at h
        replace h : WPE X.K X.mg H2 M2 (R.o (idxOf S2 y zs) fun i => .ok (.int i) S2) Q E := h
        cases e2 : idxOf S2 y zs with
        | none => rw [e2] at h; exact h.elim
        | some j =>
          rw [e2] at h
          obtain ⟨p, ps, z1, z2, z3, z4, z5, z6⟩ := inSeq_ok rs2 ry rr e2
          exact ⟨a, u, vs, ps, p, j, ex, rfl, hs, z2, z1, z4, z3, z5, z6, WPE.ok h rs2 (.int _)⟩
      cases tp with
      | true =>
        obtain ⟨zs, e⟩ := kd2 hk
        have q := rd_rel rs2 r2
        rw [e] at q
        obtain ⟨a, vs, rfl, hs, rr⟩ := q.sqT
        exact fin a zs vs rfl (by unfold seqOf; rw [e]) hs.sq rr
      | false =>
        obtain ⟨zs, e⟩ := kd1 hk
        have q := rd_rel rs2 r2
        rw [e] at q
        obtain ⟨a, vs, rfl, hs, rr⟩ := q.sqL
        exact fin a zs vs rfl (by unfold seqOf; rw [e]) hs rr
    | [_, _], _, h => exact h.elim
    | _ :: _ :: _ :: _, _, h => exact h.elim
  have hk2 : kd S d = 1 ∨ kd S d = 2 := by simpa [Pr.kindOk] using hk
  rcases hk2 with hk | hk
  · refine ⟨"list", "list.index", rIdxP X.K false, ⟨PySem.F.plainAttrs_list, PySem.F.slot_list_index, PySem.F.type_list_index, mt_idxL hu⟩, tyL rs r hk, ?_⟩
    intro H2 M2 S2 xs ds Q E rs2 r2 rv he h
    exact core H2 M2 S2 xs ds Q E false rs2 r2 rv (he ▸ hk) h
  · refine ⟨"tuple", "tuple.index", rIdxP X.K true, ⟨PySem.F.plainAttrs_tuple, PySem.F.slot_tuple_index, PySem.F.type_tuple_index, mt_idxT hu⟩, tyT rs r hk, ?_⟩
    intro H2 M2 S2 xs ds Q E rs2 r2 rv he h
    exact core H2 M2 S2 xs ds Q E true rs2 r2 rv (he ▸ hk) h
end
end Pw

set_option Elab.async false
set_option linter.all false
set_option maxRecDepth 100000
set_option maxHeartbeats 1000000
namespace Pw
open PySem PySem.Spec PyProof.Rows L2
section
variable {X : Cx} {bx : Bool}
def rCntP (K : PySem.W.Frag) : V → List V → Hp → VK → Prop := fun x xs H Q => ∃ (a : Addr) (y : V) (vs : List V) (ps : List PyData) (p : PyData), x = .ref a ∧ xs = [y] ∧ SqL K H a vs ∧ DpAll K H vs ps ∧ Dp K H y p ∧
  PyData.plainAll ps = true ∧ p.plain = true ∧ min (PyData.depthAll ps) p.depth ≤ 60 ∧ Q (.int ((ps.countP fun z => PyData.eqv z p : Nat) : Int)) H
theorem mt_cntL (hu : X.A.units + 64 < cLine) : MtR X "list.count" (rCntP X.K) := by
  intro pins s σ H x xs v us Q I rx rxs h
  obtain ⟨a, y, vs, ps, p, rfl, rfl, hs, hd, hp, h1, h2, h3, q⟩ := h
  cases rx
  obtain ⟨u, rfl, ru⟩ := rxs.one
  obtain ⟨its, rv, hl, hlen⟩ := I.list (show SqL X.K H a vs from hs)
  obtain ⟨as, r1⟩ := Dp.readsAll I ps _ its hd rv
  obtain ⟨bs, r2⟩ := Dp.reads I p y u hp ru
  exact SeqAt.count_list_data hl.isList (by simpa using r1) r2 h1 h2 (by omega) ⟨.int _, H, I.tok _, ⟨_, rfl⟩, q⟩
theorem count_tells (hu : X.A.units + 64 < cLine) : TellsM X "count" Pr.count.kindOk (fun d ds => prim .count bx (d :: ds)) := by
  intro H M S d x rs r hk
  have hk : kd S d = 1 := by simpa [Pr.kindOk] using hk
  refine ⟨"list", "list.count", rCntP X.K, ⟨PySem.F.plainAttrs_list, PySem.F.slot_list_count, PySem.F.type_list_count, mt_cntL hu⟩, tyL rs r hk, ?_⟩
  intro H2 M2 S2 xs ds Q E rs2 r2 rv he h
  match ds, rv, h with
  | [], _, h => exact h.elim
  | [y], rv, h =>
    obtain ⟨u, rfl, ry⟩ := rv.one
    replace h : WPE X.K X.mg H2 M2 (R.o ((lstOf S2 d).bind (countOf S2 y)) fun i => .ok (.int i) S2) Q E := h
    cases e : lstOf S2 d with
    | none => rw [e] at h; exact h.elim
    | some zs =>
      rw [e] at h
      replace h : WPE X.K X.mg H2 M2 (R.o (countOf S2 y zs) fun i => .ok (.int i) S2) Q E := h
      obtain ⟨a, vs, rfl, hs, rr⟩ := lstOf_rel rs2 r2 e
      cases e2 : countOf S2 y zs with
      | none => rw [e2] at h; exact h.elim
      | some j =>
        rw [e2] at h
        obtain ⟨p, ps, z1, z2, z3, z4, z5, z6⟩ := inSeq_ok rs2 ry rr e2
        cases z6
        exact ⟨a, u, vs, ps, p, rfl, rfl, hs, z2, z1, z4, z3, z5, WPE.ok h rs2 (.int _)⟩
  | [_, _], _, h => exact h.elim
  | _ :: _ :: _ :: _, _, h => exact h.elim
def rGet1 : V → List V → Hp → VK → Prop := fun x xs H Q => ∃ a y o, x = .ref a ∧ xs = [y] ∧ DGet H a y o ∧ Q (o.getD .non) H
def rGet2 : V → List V → Hp → VK → Prop := fun x xs H Q => ∃ a y z o, x = .ref a ∧ xs = [y, z] ∧ DGet H a y o ∧ Q (o.getD z) H
theorem mt_get1 (hu : X.A.units + 64 < cLine) : MtR X "dict.get" rGet1 := by
  intro pins s σ H x xs v us Q I rx rxs h
  obtain ⟨a, y, o, rfl, rfl, g, q⟩ := h
  cases rx
  obtain ⟨u, rfl, ru⟩ := rxs.one
  exact d_get1 (by omega) I g ru fun w' s' I' r' => ⟨_, H, I', r', q⟩
theorem mt_get2 (hu : X.A.units + 64 < cLine) : MtR X "dict.get" rGet2 := by
  intro pins s σ H x xs v us Q I rx rxs h
  obtain ⟨a, y, z, o, rfl, rfl, g, q⟩ := h
  cases rx
  obtain ⟨u, u2, rfl, ru, ru2⟩ := rxs.two
  exact d_get2 (by omega) I g ru ru2 fun w' s' I' r' => ⟨_, H, I', r', q⟩
theorem pGet_ok {H : Hp} {M : Pl} {S : Sto} {d k z : D} {x y : V} {Q : VK} {E : XK} (rs : RelS X.K H M S) (r : RelD X.K H M d x) (ry : RelD X.K H M k y) (h : WPE X.K X.mg H M (pGet S d k z) Q E) :
    ∃ a o, x = .ref a ∧ DGet H a y o ∧ ∀ u, RelD X.K H M z u → Q (o.getD u) H := by
  unfold pGet at h
  have q := rd_rel rs r
  cases e : rd S d with
  | dct ks vs =>
    rw [e] at h q
    simp only at h
    obtain ⟨a, kvs, rfl, ha, rfl, rv⟩ := q.dct_
    split at h
    · rename_i hf
      obtain ⟨kk, hk⟩ := keyFits_key hf
      have hx := relD_key hk ry
      subst hx
      have hg := dGet_ok (kvs := kvs) (d := k) hk rv
      refine ⟨a, valV kvs kk, rfl, DGet.k ha, fun u ru => ?_⟩
      cases e2 : dGet k ((kvs.map (·.1)).map kD) vs with
      | none =>
        rw [e2] at hg h
        rw [hg]
        exact h.ok rs ru
      | some w =>
        rw [e2] at hg h
        obtain ⟨v, hv, r2⟩ := hg
        rw [hv]
        exact h.ok rs r2
    · exact h.elim
  | _ => rw [e] at h; exact h.elim
theorem get_tells (hu : X.A.units + 64 < cLine) : TellsM X "get" Pr.get.kindOk (fun d ds => prim .get bx (d :: ds)) := by
  intro H M S d x rs r hk
  have hk : kd S d = 3 := by simpa [Pr.kindOk] using hk
  refine ⟨"dict", "dict.get", rGet1, ⟨PySem.F.plainAttrs_dict, PySem.F.slot_dict_get, PySem.F.type_dict_get, mt_get1 hu⟩, tyD rs r hk, ?_⟩
  intro H2 M2 S2 xs ds Q E rs2 r2 rv he h
  match ds, rv, h with
  | [], _, h => exact h.elim
  | [y], rv, h =>
    obtain ⟨u, rfl, ry⟩ := rv.one
    obtain ⟨a, o, rfl, g, q⟩ := pGet_ok rs2 r2 ry (show WPE X.K X.mg H2 M2 (pGet S2 d y .non) Q E from h)
    exact ⟨a, u, o, rfl, rfl, g, q _ .non⟩
  | [_, _], _, h => exact h.elim
  | _ :: _ :: _ :: _, _, h => exact h.elim
theorem get2_tells (hu : X.A.units + 64 < cLine) : TellsM X "get" Pr.get2.kindOk (fun d ds => prim .get2 bx (d :: ds)) := by
  intro H M S d x rs r hk
  have hk : kd S d = 3 := by simpa [Pr.kindOk] using hk
  refine ⟨"dict", "dict.get", rGet2, ⟨PySem.F.plainAttrs_dict, PySem.F.slot_dict_get, PySem.F.type_dict_get, mt_get2 hu⟩, tyD rs r hk, ?_⟩
  intro H2 M2 S2 xs ds Q E rs2 r2 rv he h
  match ds, rv, h with
  | [], _, h => exact h.elim
  | [_], _, h => exact h.elim
  | [y, z], rv, h =>
    obtain ⟨u, w, rfl, ry, rz⟩ := rv.two
    obtain ⟨a, o, rfl, g, q⟩ := pGet_ok rs2 r2 ry (show WPE X.K X.mg H2 M2 (pGet S2 d y z) Q E from h)
    exact ⟨a, u, w, o, rfl, rfl, g, q _ rz⟩
  | _ :: _ :: _ :: _, _, h => exact h.elim
theorem join_tells : TellsM X "join" Pr.join.kindOk (fun d ds => prim .join bx (d :: ds)) := by
  intro H M S d x rs r hk
  have hk : kd S d = 4 := by simpa [Pr.kindOk] using hk
  refine ⟨"str", "str.join", _, ⟨PySem.F.plainAttrs_str, PySem.F.slot_str_join, PySem.F.type_str_join, mt_join⟩, tyS rs r hk, ?_⟩
  intro H2 M2 S2 xs ds Q E rs2 r2 rv he h
  match ds, rv, h with
  | [], _, h => exact h.elim
  | [y], rv, h =>
    obtain ⟨u, rfl, ry⟩ := rv.one
    replace h : WPE X.K X.mg H2 M2 (pJoin S2 d y) Q E := h
    unfold pJoin at h
    cases d with
    | str sep =>
      simp only at h
      cases e : seqOf S2 y with
      | none => rw [e] at h; exact h.elim
      | some zs =>
        rw [e] at h
        obtain ⟨a, vs, rfl, hs, rr⟩ := seqOf_rel rs2 ry e
        cases e2 : strs? zs with
        | none => rw [show (some zs).bind strs? = strs? zs from rfl, e2] at h; exact h.elim
        | some ss =>
          rw [show (some zs).bind strs? = strs? zs from rfl, e2] at h
          simp only at h
          have := strs_rel rr e2
          subst this
          split at h
          · rename_i hz
            exact ⟨sep, a, ss, r2.str_, rfl, hs.imp id TupAt.sq, hz, h.ok rs2 (.str _)⟩
          · exact h.elim
    | _ => exact h.elim
  | [_, _], _, h => exact h.elim
  | _ :: _ :: _ :: _, _, h => exact h.elim

/-! ## isinstance, ranges -/
def tyName : Ty → String
  | .int => "int" | .bool => "bool" | .str => "str" | .tuple => "tuple" | .list => "list" | .dict => "dict"
theorem boot_ty (t : Ty) : bootBuiltins (Str.ofString (tyName t)) = some (.type (tyName t)) := by
  cases t
  · exact PyProof.Rows.boot_int
  · exact PyProof.Rows.boot_bool
  · exact PyProof.Rows.boot_str
  · exact PyProof.Rows.boot_tuple
  · exact PyProof.Rows.boot_list
  · exact PyProof.Rows.boot_dict
theorem pe_ty {x : Str} {p : Pos} {T : String} (hg : Gl X x) (hm : X.mg x = none) (hv : bootBuiltins x = some (.type T)) (hn : x ≠ "__name__") (hdb : (x == ("__debug__" : Str)) = false) : PE X (.Name x p) (tC (.ty T)) :=
  ⟨fun pins s σ H Q I h => ld_blt I hg hm hv ⟨.ty T, H, I, rfl, h⟩ hn hdb⟩
def tyOfD : D → String
  | .non => "NoneType" | .bl _ => "bool" | .int _ => "int" | .str _ => "str" | .tup _ => "tuple" | .lst _ => "list" | .dct _ _ => "dict" | .ref _ => ""
theorem tyx {H : Hp} {M : Pl} {d : D} {v : V} (r : RdD X.K H M d v) (hd : ∀ l, d ≠ .ref l) : TyX X.K H v (.type (tyOfD d)) := by
  cases d with
  | non => cases r; exact .base .non
  | bl b => cases r; exact .base (.bl b)
  | int i => rw [r.int_]; exact .base (.int i)
  | str x => rw [r.str_]; exact .base (.str x)
  | tup xs =>
    obtain ⟨a, vs, rfl, hs, _⟩ := r.sqT
    rcases hs with ⟨o, h, _⟩ | ⟨o, its, n, hk, hc, _⟩
    · exact .fTuple h
    · exact .kTuple hk hc
  | lst xs =>
    obtain ⟨a, vs, rfl, hs, _⟩ := r.sqL
    rcases hs with (h | ⟨o, h⟩) | ⟨o, its, n, hk, hc, _⟩
    · exact .base (.lst h)
    · exact .base (.frz h)
    · exact .kList hk hc
  | dct ks xs =>
    obtain ⟨a, kvs, rfl, h, _⟩ := r.dct_
    exact .base (.dK h)
  | ref l => exact absurd rfl (hd l)
theorem kit_all : ∀ (d : D) (t : Ty) (b : Bool), tyIs [] d t = some b → (∀ l, d ≠ .ref l) → kitB (tyOfD d) (tyName t) = some b := by
  have k : ∀ (s : String) (t : Ty), s ∈ ["NoneType", "bool", "int", "str", "tuple", "list", "dict"] → kitB s (tyName t) = some (decide (s = tyName t) || (decide (s = "bool") && decide (t = .int))) := by
    intro s t h
    simp only [List.mem_cons, List.not_mem_nil, or_false] at h
    rcases h with rfl | rfl | rfl | rfl | rfl | rfl | rfl <;> cases t <;> decide +kernel
  intro d t b h hd
  cases d with
  | ref l => exact absurd rfl (hd l)
  | _ =>
    rw [show tyOfD _ = _ from rfl]
    rw [k _ t (by simp [tyOfD])]
    cases t <;> (cases h; first | rfl | simp [tyOfD, tyName])
theorem isi_ok {H : Hp} {M : Pl} {S : Sto} {d : D} {x : V} {t : Ty} {b : Bool} {Q : VK} (rs : RelS X.K H M S) (r : RelD X.K H M d x) (h : tyIs S d t = some b) (q : Q (.bl b) H) : rIsi X.K [x, .ty (tyName t)] H Q := by
  have qx := rd_rel rs r
  have hd : ∀ l, rd S d ≠ .ref l := fun l e => by unfold tyIs at h; rw [e] at h; cases h
  have e : tyIs [] (rd S d) t = some b := by
    unfold tyIs at h ⊢
    cases e : rd S d with
    | ref l => exact absurd e (hd l)
    | _ => rw [e] at h; exact h
  exact ⟨x, .ty (tyName t), _, .type (tyName t), b, rfl, .ty _, tyx qx hd, kit_ty (kit_all _ t b e hd), q⟩
theorem tC_pe {X : Cx} {e : Expr} {v : V} (h : PE X e (tC v)) : PE X e (fun σ H Q => Q v H) := h
theorem de_isi {a : Expr} {va : Ev → Sto → R D} {t : Ty} {x : Str} {p p2 pos : Pos} (ha : DE X a va) (hsa : noStar a = true) (hg : Gl X "isinstance") (hm : X.mg "isinstance" = none) (hgT : Gl X x) (hmT : X.mg x = none) (hx : x = Str.ofString (tyName t)) :
    DE X (.Call (.Name "isinstance" p) [a, .Name x p2] [] pos) (fun e S => (va e S).bind fun x S1 => R.opt S1 ((tyIs S1 x t).map .bl)) := by
  intro W tk
  obtain ⟨ta, pa, qa⟩ := ha W tk
  have pT : PE X (.Name x p2) (tC (.ty (tyName t))) := pe_ty hgT hmT (by rw [hx]; exact boot_ty t) (by rw [hx]; cases t <;> decide) (by rw [hx]; cases t <;> decide)
  have pA := pa_cons pa (pa_cons pT pa_nil (starEach_cons rfl)) (starEach_cons (es := [.Name x p2]) hsa)
  refine ⟨_, pe_callB call_isi hg hm PyProof.Rows.boot_isinstance pA (by decide) (by decide) (starEach_cons hsa) (starEach_plain rfl), fun σ H M env S Q re rs h => ?_⟩
  refine qa σ H M env S _ re rs (WPE.bind h fun dx S1 x H1 M1 x1 rs1 rx h1 => ?_)
  cases e : tyIs S1 dx t with
  | none => rw [e] at h1; exact h1.elim
  | some b =>
    rw [e] at h1
    exact isi_ok rs1 rx e (h1.ok rs1 (.bl _))
end
end Pw

set_option Elab.async false
set_option linter.all false
set_option maxRecDepth 100000
set_option maxHeartbeats 1000000
namespace Pw
open PySem PySem.Spec PyProof.Rows L2
section
variable {X : Cx} {bx : Bool}
theorem rg_rel {K : PySem.W.Frag} {H : Hp} {M : Pl} (a b : Int) (n : Nat) (hn : n = (b - a).toNat) : RelDs K H M (rangeD a n) (rgV a b) := by
  subst hn
  unfold rangeD rgV
  have : ∀ l : List Nat, RelDs K H M (l.map fun (k : Nat) => D.int (a + (k : Int))) (l.map fun (k : Nat) => V.int (a + (k : Nat))) := by
    intro l
    induction l with
    | nil => exact .nil
    | cons k l ih => exact .cons (.int _) ih
  exact this _
theorem rangeOf1 {ds : List D} {q : Int × Nat} (h : rangeOf 1 ds = some q) : ∃ j, ds = [.int j] ∧ q = (0, j.toNat) ∧ -(2 ^ 62) ≤ j ∧ j < 2 ^ 62 := by
  unfold rangeOf at h
  split at h
  · rename_i j
    split at h
    · rename_i hj
      cases h
      exact ⟨j, rfl, rfl, hj.2.1, hj.2.2⟩
    · cases h
  · rename_i i j
    split at h
    · rename_i hj; exact absurd hj.1 (by decide)
    · cases h
  · cases h
theorem rangeOf2 {ds : List D} {q : Int × Nat} (h : rangeOf 2 ds = some q) : ∃ i j, ds = [.int i, .int j] ∧ q = (i, (j - i).toNat) ∧ -(2 ^ 62) ≤ i ∧ i < 2 ^ 62 ∧ -(2 ^ 62) ≤ j ∧ j < 2 ^ 62 := by
  unfold rangeOf at h
  split at h
  · rename_i j
    split at h
    · rename_i hj; exact absurd hj.1 (by decide)
    · cases h
  · rename_i i j
    split at h
    · rename_i hj
      cases h
      exact ⟨i, j, rfl, rfl, hj.2.1, hj.2.2.1, hj.2.2.2.1, hj.2.2.2.2⟩
    · cases h
  · cases h
def tTupRgF (te : L2.St → Hp → (Int → Int → Hp → Prop) → Prop) : TE := fun σ H Q => te σ H fun a b H1 => RgOk a b ∧ NewT (rgV a b) H1 Q
theorem pe_tupRgF {e : Expr} {te : L2.St → Hp → (Int → Int → Hp → Prop) → Prop} {p pos : Pos} (hc : X.calm = true) (hg : Gl X "tuple") (hm : X.mg "tuple" = none) (he : PRg X e te) (na : starEach [e] X.env = (false, eval e X.env) :: starEach [] X.env := by rfl) : PE X (.Call (.Name "tuple" p) [e] [] pos) (tTupRgF te) := by
  refine ⟨fun pins s σ H Q I h => ?_⟩
  refine Call_ (ld_blt I hg hm PyProof.Rows.boot_tuple (PyProof.Rows.callWith_type1 (args_cons (thn (he pins s σ H _ I h) fun x s1 ⟨r, a, b, t, u, v, H1, ex, hr, I1, ok, q⟩ => args_nil ?_) na) na))
  subst ex
  obtain ⟨b1, b2, b3, b4, b5⟩ := ok
  refine call_tuple_range (n := (b - a).toNat) (I1.ok.hd hc) hr (small_one b1 b2 b3 b4) (rangeSize_nat a b) b5 fun h' tk acc hk hi => ?_
  have I2 : Inv X pins σ H1 { s1 with heap := h', toks := tk } := I1.kept hk
  have e := Inv.newT (its := acc.toList) (t' := tk) I2 (vals_rg hi) (by rw [rgV_length, sizeLine_eq]; omega) q
  rw [Array.toArray_toList] at e
  exact e
theorem rg_ok {q : Int × Nat} {a b : Int} (h1 : q = (a, (b - a).toNat)) (h2 : q.2 ≤ sizeLine) (z : -(2 ^ 62) ≤ a ∧ a < 2 ^ 62 ∧ -(2 ^ 62) ≤ b ∧ b < 2 ^ 62) : RgOk a b := by
  subst h1
  rw [sizeLine_eq] at h2
  exact ⟨z.1, z.2.1, z.2.2.1, z.2.2.2, by simp only at h2; omega⟩
/-- range by one argument, by two -/
inductive Rg (X : Cx) : List Expr → (Ev → Sto → R (List D)) → Expr → Nat → Prop
  | one {a : Expr} {va : Ev → Sto → R D} {p pos : Pos} (hg : Gl X "range") (hm : X.mg "range" = none) (hs : noStar a = true) (ha : DE X a va) : Rg X [a] (fun e S => (va e S).bind fun x S1 => .ok [x] S1) (.Call (.Name "range" p) [a] [] pos) 1
  | two {a b : Expr} {va vb : Ev → Sto → R D} {p pos : Pos} (hg : Gl X "range") (hm : X.mg "range" = none) (hs : noStar a = true) (hs2 : noStar b = true) (ha : DE X a va) (hb : DE X b vb) : Rg X [a, b] (fun e S => (va e S).bind fun x S1 => (vb e S1).bind fun y S2 => .ok [x, y] S2) (.Call (.Name "range" p) [a, b] [] pos) 2
/-- what is asked of a range's bounds -/
def RgTo (X : Cx) (H : Hp) (M : Pl) (S : Sto) (ds : List D) (n : Nat) (Q : Int → Int → Hp → Prop) : Prop := ∀ a b, rangeOf n ds = some (a, (b - a).toNat) → (-(2 ^ 62) ≤ a ∧ a < 2 ^ 62 ∧ -(2 ^ 62) ≤ b ∧ b < 2 ^ 62) → Q a b H
theorem Rg.run {es : List Expr} {vs : Ev → Sto → R (List D)} {e : Expr} {n : Nat} (h : Rg X es vs e n) (W : WX) (tk : Takes X W) : ∃ t, PRg X e t ∧ ∀ (σ : L2.St) (H : Hp) (M : Pl) (env : Ev) (S : Sto) (Q : Int → Int → Hp → Prop) (f : List D → Sto → R D) (Q' : VK), RelE X.K H M env σ → RelS X.K H M S →
    WPE X.K X.mg H M ((vs env S).bind f) Q' (fun c d H' => W c d σ H') → (∀ ds S, rangeOf n ds = none → f ds S = .bad) →
    (∀ ds S1 H1 M1, Ext H M H1 M1 → RelS X.K H1 M1 S1 → WPE X.K X.mg H1 M1 (f ds S1) Q' (fun c d H' => W c d σ H') → RgTo X H1 M1 S1 ds n Q) → t σ H Q := by
  cases h with
  | @one a va p pos hg hm hs ha =>
    obtain ⟨ta, pa, qa⟩ := ha W tk
    refine ⟨_, prg_1 hg hm pa (starEach_cons hs), fun σ H M env S Q f Q' re rs h hbad k => ?_⟩
    rw [bind_assoc] at h
    refine qa σ H M env S _ re rs (WPE.bind h fun dx S1 x H1 M1 x1 rs1 rx h1 => ?_)
    simp only [R.bind_ok] at h1
    cases e : rangeOf 1 [dx] with
    | none => rw [hbad _ _ e] at h1; exact h1.elim
    | some q =>
      obtain ⟨j, e1, rfl, z1, z2⟩ := rangeOf1 e
      cases e1
      exact ⟨j, rx.int_, k _ S1 H1 M1 x1 rs1 h1 0 j (by rw [e, Int.sub_zero]) ⟨by decide, by decide, z1, z2⟩⟩
  | @two a b va vb p pos hg hm hs hs2 ha hb =>
    obtain ⟨ta, pa, qa⟩ := ha W tk
    obtain ⟨tb, pb, qb⟩ := hb W tk
    refine ⟨_, prg_2 hg hm pa pb (starEach_cons hs) (starEach_cons hs2) (starEach_plain (by simp [hs2])), fun σ H M env S Q f Q' re rs h hbad k => ?_⟩
    rw [bind_assoc] at h
    refine qa σ H M env S _ re rs (WPE.bind h fun dx S1 x H1 M1 x1 rs1 rx h1 => ?_)
    rw [bind_assoc] at h1
    refine qb σ H1 M1 env S1 _ (re.mono x1) rs1 (WPE.bind h1 fun dy S2 y H2 M2 x2 rs2 ry h2 => ?_)
    simp only [R.bind_ok] at h2
    cases e : rangeOf 2 [dx, dy] with
    | none => rw [hbad _ _ e] at h2; exact h2.elim
    | some q =>
      obtain ⟨i, j, e1, rfl, z1, z2, z3, z4⟩ := rangeOf2 e
      cases e1
      exact ⟨i, j, (rx.mono x2).int_, ry.int_, k _ S2 H2 M2 (x1.trans x2) rs2 h2 i j e ⟨z1, z2, z3, z4⟩⟩
theorem de_listRg {es : List Expr} {vs : Ev → Sto → R (List D)} {e : Expr} {n : Nat} {p pos : Pos} (hc : X.calm = true) (hg : Gl X "list") (hm : X.mg "list" = none) (hs : noStar e = true) (h : Rg X es vs e n) :
    DE X (.Call (.Name "list" p) [e] [] pos) (fun e S => (vs e S).bind (prim (.rangeL n) bx)) := by
  intro W tk
  obtain ⟨t, pt, qt⟩ := h.run W tk
  refine ⟨_, pe_listRg hc hg hm pt (starEach_cons hs), fun σ H M env S Q re rs h => ?_⟩
  refine qt σ H M env S _ _ Q re rs h (fun ds S e => by show R.o (rangeOf n ds) _ = _; rw [e]; rfl) fun ds S1 H1 M1 x1 rs1 h1 a b e z => ?_
  replace h1 : WPE X.K X.mg H1 M1 (R.o (rangeOf n ds) fun q => if q.2 ≤ sizeLine then mkL bx (rangeD q.1 q.2) S1 else .bad) Q (fun c d H' => W c d σ H') := h1
  rw [e] at h1
  simp only [R.o_some] at h1
  split at h1
  · rename_i hz
    obtain ⟨_, k⟩ := WPE.mkL rs1 h1
    exact ⟨rg_ok (q := (a, (b - a).toNat)) rfl hz z, fun q hq => k _ q (rg_rel a b _ rfl) hq⟩
  · exact h1.elim
theorem de_tupRg {es : List Expr} {vs : Ev → Sto → R (List D)} {e : Expr} {n : Nat} {p pos : Pos} (hc : X.calm = true) (hg : Gl X "tuple") (hm : X.mg "tuple" = none) (hs : noStar e = true) (h : Rg X es vs e n) :
    DE X (.Call (.Name "tuple" p) [e] [] pos) (fun e S => (vs e S).bind (prim (.rangeT n) bx)) := by
  intro W tk
  obtain ⟨t, pt, qt⟩ := h.run W tk
  refine ⟨_, pe_tupRgF hc hg hm pt (starEach_cons hs), fun σ H M env S Q re rs h => ?_⟩
  refine qt σ H M env S _ _ Q re rs h (fun ds S e => by show R.o (rangeOf n ds) _ = _; rw [e]; rfl) fun ds S1 H1 M1 x1 rs1 h1 a b e z => ?_
  replace h1 : WPE X.K X.mg H1 M1 (R.o (rangeOf n ds) fun q => if q.2 ≤ sizeLine then .ok (.tup (rangeD q.1 q.2)) S1 else .bad) Q (fun c d H' => W c d σ H') := h1
  rw [e] at h1
  simp only [R.o_some] at h1
  split at h1
  · rename_i hz
    exact ⟨rg_ok (q := (a, (b - a).toNat)) rfl hz z, fun q o hq ho => WPE.okT rs1 h1 (rg_rel a b _ rfl) hq ho⟩
  · exact h1.elim
end
end Pw

set_option Elab.async false
set_option linter.all false
set_option maxRecDepth 100000
set_option maxHeartbeats 1000000
namespace Pw
open PySem PySem.Spec PyProof.Rows L2

/-! ## readings of one form -/
def tE (K : PySem.W.Frag) (mg : Str → Option Value) (v : Ev → Sto → R D) (W : WX) : TE := fun σ H Q => ∃ M env S, RelE K H M env σ ∧ RelS K H M S ∧ WPE K mg H M (v env S) Q (fun c d H' => W c d σ H')
def tT (K : PySem.W.Frag) (mg : Str → Option Value) (v : Ev → Sto → R Bool) (W : WX) : TT := fun σ H Q => ∃ M env S, RelE K H M env σ ∧ RelS K H M S ∧ WPT K mg H M (v env S) Q (fun c d H' => W c d σ H')
def tA (K : PySem.W.Frag) (mg : Str → Option Value) (v : Ev → Sto → R (List D)) (W : WX) : TA := fun σ H Q => ∃ M env S, RelE K H M env σ ∧ RelS K H M S ∧ WPA K mg H M (v env S) Q (fun c d H' => W c d σ H')
section
variable {X : Cx} {e : Expr} {es : List Expr} {W : WX}
theorem DE.canon {v : Ev → Sto → R D} (h : DE X e v) (tk : Takes X W) : PE X e (tE X.K X.mg v W) := by
  obtain ⟨t, p, q⟩ := h W tk
  exact ⟨fun pins s σ H Q I ⟨M, env, S, re, rs, h⟩ => p.run pins s σ H Q I (q σ H M env S Q re rs h)⟩
theorem DT.canon {v : Ev → Sto → R Bool} (h : DT X e v) (tk : Takes X W) : PT X e (tT X.K X.mg v W) := by
  obtain ⟨t, p, q⟩ := h W tk
  exact ⟨fun pins s σ H Q I ⟨M, env, S, re, rs, h⟩ => p.run pins s σ H Q I (q σ H M env S Q re rs h)⟩
theorem DA.canon {v : Ev → Sto → R (List D)} (h : DA X es v) (tk : Takes X W) : PA X es (tA X.K X.mg v W) := by
  obtain ⟨t, p, q⟩ := h W tk
  exact ⟨fun pos pins s σ H Q I ⟨M, env, S, re, rs, h⟩ => p.run pos pins s σ H Q I (q σ H M env S Q re rs h)⟩
theorem de_of {v : Ev → Sto → R D} (h : ∀ W, Takes X W → PE X e (tE X.K X.mg v W)) : DE X e v := fun W tk => ⟨_, h W tk, fun σ H M env S Q re rs h => ⟨M, env, S, re, rs, h⟩⟩
end

/-! ## calls of defs -/
def spC (K : PySem.W.Frag) (mg : Str → Option Value) (C : Nat → List D → Sto → R D) (f : Nat) : Sp := fun vs H Q E => ∃ M S ds, RelDs K H M ds vs ∧ RelS K H M S ∧ WPE K mg H M (C f ds S) Q E
/-- keyword values in the parameters' order -/
def gO {α : Type} (z : α) (ord : List Nat) (us ws : List α) : List α := ord.map fun j => (us ++ ws).getD j z
structure KSh where
  f : Nat
  n : Nat
  ks : List Str
  ord : List Nat
  deriving DecidableEq
structure FnsOk (X : Cx) (C : Nat → List D → Sto → R D) (FN : List Str) (PS : Nat → List Str) (KS : List KSh) (k : Nat) : Prop where
  at_ : ∀ (f : Nat) (x : Str), FN[f]? = some x → (x == ("__debug__" : Str)) = false ∧ ∃ fa fd, X.mg x = some (.ref fa) ∧ PySem.W.keepIn X.K (.ref fa) = true ∧ Binds X.K fd (PS f) [] ∧
    FnOk X.prog X.w X.K X.mg X.base (L2.CX X.prog X.w) k fa fd (PS f) (spC X.K X.mg C f) ∧ ∀ q ∈ KS, q.f = f → KBn X.K fd (PS f) q.n q.ks (gO Value.none q.ord) (gO V.non q.ord)
section
variable {X : Cx} {C : Nat → List D → Sto → R D} {FN : List Str} {PS : Nat → List Str} {KS : List KSh} {k f : Nat} {x : Str} {p pos : Pos} {e : Expr} {es : List Expr}
theorem de_call {vs : Ev → Sto → R (List D)} (F : FnsOk X C FN PS KS k) (hr : Room k X.A) (hf : FN[f]? = some x) (hg : Gl X x) (hs : (e :: es).all noStar = true) (ha : DA X (e :: es) vs) :
    DE X (.Call (.Name x p) (e :: es) [] pos) (fun env S => (vs env S).bind fun ds S1 => C f ds S1) := by
  intro W tk
  obtain ⟨ta, pa, qa⟩ := ha W tk
  obtain ⟨hdb, fa, fd, hm, hk, hb, hF, _⟩ := F.at_ f x hf
  rw [List.all_cons, Bool.and_eq_true] at hs
  refine ⟨_, pe_callS hF hr hg hm hk hb (fun σ => passAt tk σ) pa hdb (starEach_cons hs.1) (starEach_plain hs.2), fun σ H M env S Q re rs h => ?_⟩
  exact qa σ H M env S _ re rs (WPA.bindE h fun ds S1 xs H1 M1 x1 rs1 rx h1 => ⟨M1, S1, ds, rx, rs1, h1⟩)
/-! ### .. with keywords -/
theorem run_fnNS {pins : List (Addr × Obj)} {σ : L2.St} {H : Hp} {s : Shared} {Q : VK} {us ws : List Value} {vs zs : List V} {CX : CXT} {n : Nat} {fa : Addr} {fd : FuncData} {ps ks : List Str} {sp : Sp} {E : XK} {g : List Value → List Value → List Value} {gV : List V → List V → List V}
    (F : FnOk X.prog X.w X.K X.mg X.base CX k fa fd ps sp) (hr : Room k X.A) (hb : KBn X.K fd ps n ks g gV) (hx : PassesAt CX X σ E)
    (I : Inv X pins σ H s) (r : Vals vs us) (rz : Vals zs ws) (l1 : vs.length = n) (l2 : zs.length = ks.length) (h : sp (gV vs zs) H Q E) : wpAny (model X.prog X.w) X.A (call (.ref fa) us (ks.zip ws)) (EP X pins σ Q) X.xe s := by
  have r2 := hb.rel r rz
  refine wpAny_call (codeAny_mono (F.run X.A X.stack s H ⟨us, ks.zip ws⟩ (g us ws) (gV vs zs) Q E hr I.env0 (hb.to s us ws I.kIn (r.length.symm.trans l1) (rz.length.symm.trans l2)) r2 h) fun r s' hq => ?_)
  cases r with
  | error e => exact hx pins H s e s' I hq
  | ok fl =>
    cases fl with
    | ret u => exact I.after hq
    | next => exact False.elim hq
    | brk => exact False.elim hq
    | cont => exact False.elim hq
/-- the keywords' names and expressions -/
def kwNames : List Keyword → Option (List Str)
  | [] => some []
  | ⟨some x, _, _⟩ :: r => (kwNames r).map (x :: ·)
  | ⟨none, _, _⟩ :: _ => none
def kwExprs : List Keyword → List Expr
  | [] => []
  | ⟨_, e, _⟩ :: r => e :: kwExprs r
theorem kw_all {env : Env} : ∀ {kws : List Keyword} {ks : List Str}, kwNames kws = some ks → (backToKw pos (keywordEach kws env)).all (·.1.isSome) = true
  | [], _, _ => rfl
  | ⟨some x, e, _⟩ :: r, ks, h => by
    have h : (kwNames r).map (x :: ·) = some ks := h
    obtain ⟨ks', h', _⟩ := Option.map_eq_some_iff.mp h
    show (true && (backToKw pos (keywordEach r env)).all (·.1.isSome)) = true
    rw [kw_all h']; rfl
  | ⟨none, _, _⟩ :: _, _, h => by cases h
theorem kw_none {env : Env} : ∀ {kws : List Keyword} {ks : List Str}, kwNames kws = some ks → (backToKw pos (keywordEach kws env)).any (·.1.isNone) = false
  | [], _, _ => rfl
  | ⟨some x, e, _⟩ :: r, ks, h => by
    have h : (kwNames r).map (x :: ·) = some ks := h
    obtain ⟨ks', h', _⟩ := Option.map_eq_some_iff.mp h
    show (false || (backToKw pos (keywordEach r env)).any (·.1.isNone)) = false
    rw [kw_none h']; rfl
  | ⟨none, _, _⟩ :: _, _, h => by cases h
theorem kw_names {env : Env} : ∀ {kws : List Keyword} {ks : List Str}, kwNames kws = some ks → (backToKw pos (keywordEach kws env)).filterMap (·.1) = ks
  | [], _, h => by cases h; rfl
  | ⟨some x, e, _⟩ :: r, ks, h => by
    have h : (kwNames r).map (x :: ·) = some ks := h
    obtain ⟨ks', h', rfl⟩ := Option.map_eq_some_iff.mp h
    show x :: (backToKw pos (keywordEach r env)).filterMap (·.1) = x :: ks'
    rw [kw_names h']
  | ⟨none, _, _⟩ :: _, _, h => by cases h
/-- the keywords' values -/
def DK (X : Cx) (kws : List Keyword) (v : Ev → Sto → R (List D)) : Prop := ∀ W, Takes X W → ∃ t, PK X kws t ∧ ∀ (σ : L2.St) (H : Hp) (M : Pl) (env : Ev) (S : Sto) (Q : List V → Hp → Prop), RelE X.K H M env σ → RelS X.K H M S →
  WPA X.K X.mg H M (v env S) Q (fun c d H' => W c d σ H') → t σ H Q
theorem dk_nil : DK X [] (fun _ S => .ok [] S) := fun W tk => ⟨_, pk_nil, fun σ H M env S Q re rs h => h [] H M (Ext.refl _ _) rs .nil⟩
theorem dk_cons {nm : Option Str} {kpos : Pos} {kws : List Keyword} {v : Ev → Sto → R D} {vs : Ev → Sto → R (List D)} (ha : DE X e v) (hr : DK X kws vs) :
    DK X (⟨nm, e, kpos⟩ :: kws) (fun e S => (v e S).bind fun x S1 => (vs e S1).bind fun xs S2 => .ok (x :: xs) S2) := by
  intro W tk
  obtain ⟨ta, pa, qa⟩ := ha W tk
  obtain ⟨tb, pb, qb⟩ := hr W tk
  refine ⟨_, pk_cons pa pb, fun σ H M env S Q re rs h => ?_⟩
  refine qa σ H M env S _ re rs (WPE.bindA h fun dx S1 x H1 M1 x1 rs1 rx h1 => ?_)
  refine qb σ H1 M1 env S1 _ (re.mono x1) rs1 (WPA.bind h1 fun dy S2 y H2 M2 x2 rs2 ry h2 => ?_)
  exact h2 (x :: y) H2 M2 (Ext.refl _ _) rs2 (.cons (rx.mono x2) ry)
def tCallNS (n m : Nat) (sp : Sp) (gV : List V → List V → List V) (E : L2.St → XK) (t tk : TA) : TE := fun σ H Q => t σ H fun vs H1 => tk σ H1 fun zs H2 => vs.length = n ∧ zs.length = m ∧ sp (gV vs zs) H2 Q (E σ)
theorem pe_callNS {CX : CXT} {n : Nat} {fa : Addr} {fd : FuncData} {ps ks : List Str} {sp : Sp} {E : L2.St → XK} {kws : List Keyword} {t tk : TA} {g : List Value → List Value → List Value} {gV : List V → List V → List V}
    (F : FnOk X.prog X.w X.K X.mg X.base CX k fa fd ps sp) (hr : Room k X.A) (hg : Gl X x) (hm : X.mg x = some (.ref fa)) (hk : PySem.W.keepIn X.K (.ref fa) = true) (hb : KBn X.K fd ps n ks g gV) (hx : ∀ σ, PassesAt CX X σ (E σ))
    (ha : PA X es t) (hn : es = [] → ∀ σ H Q, t σ H Q → Q [] H) (hkw : PK X kws tk) (hks : kwNames kws = some ks) (hdb : (x == ("__debug__" : Str)) = false) (hs : es.all noStar = true) :
    PE X (.Call (.Name x p) es kws pos) (tCallNS n ks.length sp gV E t tk) := by
  refine ⟨fun pins s σ H Q I h => ?_⟩
  refine wpAny_Call_Name_kw (ld_glob I hg hm ?_ hdb)
  cases es with
  | nil =>
    refine PySem.W.callWith_KW0 (h₀ := X.base) I.ok.mod.kin hk (kw_all hks) ?_ (by rw [kw_none hks]; rfl)
    refine thn (hkw.run pos pins s σ H _ I (hn rfl _ _ _ h)) fun ws s2 ⟨zs, H2, I2, rz, l1, l2, q2⟩ => ⟨I2.kIn, ?_⟩
    rw [kw_names hks]
    exact run_fnNS F hr hb (hx σ) I2 .nil rz l1 l2 q2
  | cons e es =>
    have hs' := hs
    rw [List.all_cons, Bool.and_eq_true] at hs
    refine PySem.W.callWith_KW (h₀ := X.base) I.ok.mod.kin hk (kw_all hks) (thn (ha.run pos pins s σ H _ I h) fun us s1 ⟨vs, H1, I1, r, q⟩ => ?_) (by rw [kw_none hks, starEach_plain hs']; rfl) (starEach_cons hs.1)
    refine thn (hkw.run pos pins s1 σ H1 _ I1 q) fun ws s2 ⟨zs, H2, I2, rz, l1, l2, q2⟩ => ⟨I2.kIn, ?_⟩
    rw [kw_names hks]
    exact run_fnNS F hr hb (hx σ) I2 r rz l1 l2 q2
theorem RelDs.getD {K : PySem.W.Frag} {H : Hp} {M : Pl} : ∀ {ds : List D} {vs : List V}, RelDs K H M ds vs → ∀ j, RelD K H M (ds.getD j .non) (vs.getD j .non)
  | _, _, .nil, _ => .non
  | _, _, .cons r _, 0 => r
  | _, _, .cons _ t, j + 1 => by
    simpa using RelDs.getD t j
theorem RelDs.ord {K : PySem.W.Frag} {H : Hp} {M : Pl} {ds es : List D} {vs us : List V} (r : RelDs K H M ds vs) (q : RelDs K H M es us) (ord : List Nat) : RelDs K H M (ord.map fun j => (ds ++ es).getD j .non) (gO V.non ord vs us) := by
  unfold gO
  have z := r.append q
  induction ord with
  | nil => exact .nil
  | cons j l ih => exact .cons (z.getD j) ih
theorem de_callk {vs ws : Ev → Sto → R (List D)} {kws : List Keyword} {q : KSh} (F : FnsOk X C FN PS KS k) (hr : Room k X.A) (hf : FN[q.f]? = some x) (hg : Gl X x) (hs : es.all noStar = true) (hq : q ∈ KS) (hks : kwNames kws = some q.ks)
    (ha : DA X es vs) (hw : DK X kws ws) (hl : ∀ env S ds S1, vs env S = .ok ds S1 → ds.length = q.n) (hl2 : ∀ env S ds S1, ws env S = .ok ds S1 → ds.length = q.ks.length) (h0 : es = [] → vs = fun _ S => .ok [] S) :
    DE X (.Call (.Name x p) es kws pos) (fun env S => (vs env S).bind fun ds S1 => (ws env S1).bind fun zs S2 => C q.f (q.ord.map fun j => (ds ++ zs).getD j .non) S2) := by
  intro W tk
  obtain ⟨hdb, fa, fd, hm, hk, _, hF, hB⟩ := F.at_ q.f x hf
  have core : ∀ {ta tb : TA} (pa : PA X es ta) (hn : es = [] → ∀ σ H Q, ta σ H Q → Q [] H) (pb : PK X kws tb)
      (qa : ∀ (σ : L2.St) (H : Hp) (M : Pl) (env : Ev) (S : Sto) (Q : List V → Hp → Prop), RelE X.K H M env σ → RelS X.K H M S → WPA X.K X.mg H M (vs env S) Q (fun c d H' => W c d σ H') → ta σ H Q)
      (qb : ∀ (σ : L2.St) (H : Hp) (M : Pl) (env : Ev) (S : Sto) (Q : List V → Hp → Prop), RelE X.K H M env σ → RelS X.K H M S → WPA X.K X.mg H M (ws env S) Q (fun c d H' => W c d σ H') → tb σ H Q),
      ∃ t, PE X (.Call (.Name x p) es kws pos) t ∧ ∀ (σ : L2.St) (H : Hp) (M : Pl) (env : Ev) (S : Sto) (Q : VK), RelE X.K H M env σ → RelS X.K H M S →
        WPE X.K X.mg H M ((vs env S).bind fun ds S1 => (ws env S1).bind fun zs S2 => C q.f (q.ord.map fun j => (ds ++ zs).getD j .non) S2) Q (fun c d H' => W c d σ H') → t σ H Q := by
    intro ta tb pa hn pb qa qb
    refine ⟨_, pe_callNS hF hr hg hm hk (hB q hq rfl) (fun σ => passAt tk σ) pa hn pb hks hdb hs, fun σ H M env S Q re rs h => ?_⟩
    refine qa σ H M env S _ re rs ?_
    cases e1 : vs env S with
    | bad => rw [e1] at h; exact h.elim
    | exc z S' => rw [e1] at h; exact h
    | ok ds S1 =>
      rw [e1] at h
      intro xs H1 M1 x1 rs1 rx
      replace h := WPE.ext x1 h
      refine qb σ H1 M1 env S1 _ (re.mono x1) rs1 ?_
      simp only [R.bind_ok] at h
      cases e2 : ws env S1 with
      | bad => rw [e2] at h; exact h.elim
      | exc z S' => rw [e2] at h; exact h
      | ok zs S2 =>
        rw [e2] at h
        intro ys H2 M2 x2 rs2 ry
        replace h := WPE.ext x2 h
        have rx2 := rx.mono x2
        exact ⟨by rw [← rx.length]; exact hl _ _ _ _ e1, by rw [← ry.length]; exact hl2 _ _ _ _ e2, M2, S2, _, rx2.ord ry q.ord, rs2, h⟩
  obtain ⟨tb, pb, qb⟩ := hw W tk
  by_cases he : es = []
  · subst he
    have := h0 rfl
    subst this
    exact core pa_nil (fun _ σ H Q h => h) pb (fun σ H M env S Q re rs h => h [] H M (Ext.refl _ _) rs .nil) qb
  · obtain ⟨ta, pa, qa⟩ := ha W tk
    exact core pa (fun h => absurd h he) pb qa qb
end
end Pw

set_option Elab.async false
set_option linter.all false
set_option maxRecDepth 100000
set_option maxHeartbeats 1000000
namespace Pw
open PySem PySem.Spec PyProof.Rows L2

/-! ## as Ext, but what is reserved may change, and more may be reserved -/
structure ExtW (H : Hp) (M : Pl) (H' : Hp) (M' : Pl) : Prop where
  pre : ∃ T, M'.m = M.m ++ T
  res : ∀ a ∈ M.r, a ∈ M'.r
  resN : ∀ a ∈ M'.r, a ∈ M.r ∨ H a = none
  keep : ∀ a o, a ∉ M.m → a ∉ M.r → H a = some o → H' a = some o ∧ a ∉ M'.m
  tups : ∀ a xs, H a = some (.tup xs) → H' a = some (.tup xs)
  frzs : ∀ a o u, H a = some (.frz o u) → H' a = some (.frz o u)
  dom : ∀ a o, H a = some o → ∃ o', H' a = some o'
section
variable {K : PySem.W.Frag} {H H' H2 : Hp} {M M' M2 : Pl} {S S' : Sto}
theorem ExtW.refl (H : Hp) (M : Pl) : ExtW H M H M := ⟨⟨[], by simp⟩, fun _ h => h, fun _ h => .inl h, fun _ _ n _ h => ⟨h, n⟩, fun _ _ h => h, fun _ _ _ h => h, fun _ o h => ⟨o, h⟩⟩
theorem Ext.w (x : Ext H M H' M') (rs : RelS K H' M' S') : ExtW H M H' M' :=
  ⟨x.pre, fun a h => by rw [x.res]; exact h, fun a h => by rw [x.res] at h; exact .inl h, fun a o n _ h => x.keep a o n h, x.tups, x.frzs, fun a o h => by
    by_cases hm : a ∈ M.m
    · obtain ⟨T, e⟩ := x.pre
      obtain ⟨u, hu, _⟩ := rs.tracked (a := a) (by rw [e]; exact List.mem_append_left _ hm)
      exact ⟨u, hu⟩
    · exact ⟨o, (x.keep a o hm h).1⟩⟩
theorem ExtW.trans (a : ExtW H M H' M') (b : ExtW H' M' H2 M2) : ExtW H M H2 M2 := by
  obtain ⟨T, e⟩ := a.pre
  obtain ⟨T', e'⟩ := b.pre
  refine ⟨⟨T ++ T', by rw [e', e, List.append_assoc]⟩, fun x h => b.res x (a.res x h), fun x h => ?_, fun x o n n2 h => ?_, fun x xs h => b.tups _ _ (a.tups _ _ h), fun x o u h => b.frzs _ _ _ (a.frzs _ _ _ h), fun x o h => let ⟨o', h'⟩ := a.dom x o h; b.dom x o' h'⟩
  · rcases b.resN x h with h1 | h1
    · exact a.resN x h1
    · cases q : H x with
      | none => exact .inr rfl
      | some o => obtain ⟨o', z⟩ := a.dom x o q; rw [h1] at z; cases z
  · obtain ⟨h1, m1⟩ := a.keep x o n n2 h
    refine b.keep x o m1 (fun z => ?_) h1
    rcases a.resN x z with z | z
    · exact n2 z
    · rw [h] at z; cases z
theorem ExtW.get (a : ExtW H M H' M') {l : Nat} {x : Addr} (h : M.m[l]? = some x) : M'.m[l]? = some x := by
  obtain ⟨T, e⟩ := a.pre
  have : l < M.m.length := by
    rcases Nat.lt_or_ge l M.m.length with z | z
    · exact z
    · rw [List.getElem?_eq_none z] at h; cases h
  rw [e]; rw [List.getElem?_append_left this]; exact h
theorem ExtW.sqT (a : ExtW H M H' M') {x : Addr} {vs : List V} (h : TupAt K H x vs) : TupAt K H' x vs := by
  rcases h with ⟨o, h, q⟩ | h
  · exact .inl ⟨o, a.frzs _ _ _ h, q⟩
  · exact .inr h
theorem ExtW.lstF (a : ExtW H M H' M') {x : Addr} {vs : List V} (h : LstF K H x vs) : LstF K H' x vs := by
  rcases h with ⟨o, h⟩ | h
  · exact .inl ⟨o, a.frzs _ _ _ h⟩
  · exact .inr h
theorem ExtW.nres (a : ExtW H M H' M') {x : Addr} {o : HO} (h : H x = some o) (n : x ∉ M.r) : x ∉ M'.r := fun z => by
  rcases a.resN x z with z | z
  · exact n z
  · rw [h] at z; cases z
theorem ExtW.rdL (a : ExtW H M H' M') {x : Addr} {vs : List V} (h : Rd H x (.lst vs)) (n : x ∉ M.m) (n2 : x ∉ M.r) : Rd H' x (.lst vs) ∧ x ∉ M'.m ∧ x ∉ M'.r := by
  rcases h with h | ⟨o, h⟩
  · obtain ⟨h1, m1⟩ := a.keep _ _ n n2 h; exact ⟨.inl h1, m1, a.nres h n2⟩
  · obtain ⟨h1, m1⟩ := a.keep _ _ n n2 h; exact ⟨.inr ⟨o, h1⟩, m1, a.nres h n2⟩
mutual
theorem RelD.monoW (x : ExtW H M H' M') : ∀ {d : D} {v : V}, RelD K H M d v → RelD K H' M' d v
  | _, _, .non => .non
  | _, _, .bl b => .bl b
  | _, _, .int i => .int i
  | _, _, .str z => .str z
  | _, _, .tup h r => .tup (x.sqT h) (RelDs.monoW x r)
  | _, _, .lst h n q r => let z := x.rdL h n q; .lst z.1 z.2.1 z.2.2 (RelDs.monoW x r)
  | _, _, .lstF h r => .lstF (x.lstF h) (RelDs.monoW x r)
  | _, _, .dctK h n q e r => let z := x.keep _ _ n q h; .dctK z.1 z.2 (x.nres h q) e (RelDs.monoW x r)
  | _, _, .ref h => .ref (x.get h)
theorem RelDs.monoW (x : ExtW H M H' M') : ∀ {ds : List D} {vs : List V}, RelDs K H M ds vs → RelDs K H' M' ds vs
  | _, _, .nil => .nil
  | _, _, .cons h r => .cons (RelD.monoW x h) (RelDs.monoW x r)
end
theorem RelM.monoW (x : ExtW H M H' M') : ∀ {m : MO} {o : HO}, RelM K H M m o → RelM K H' M' m o
  | .lst xs, o, ⟨vs, e, r⟩ => ⟨vs, e, r.monoW x⟩
  | .dct ks ds, o, ⟨kvs, e, e2, r⟩ => ⟨kvs, e, e2, r.monoW x⟩
/-- a new thing is reserved -/
theorem ExtW.reserve {p : Addr} {o : HO} (h : H p = none) : ExtW H M (upd H p o) ⟨M.m, p :: M.r⟩ :=
  ⟨⟨[], by simp⟩, fun a ha => List.mem_cons_of_mem _ ha, fun a ha => by
    rcases List.mem_cons.mp ha with rfl | ha
    · exact .inr h
    · exact .inl ha, fun a u n _ e => ⟨by rw [upd_ne (ne_of_none e h)]; exact e, n⟩, fun a xs e => by rw [upd_ne (ne_of_none e h)]; exact e, fun a x u e => by rw [upd_ne (ne_of_none e h)]; exact e, fun a u e => ⟨u, by rw [upd_ne (ne_of_none e h)]; exact e⟩⟩
theorem RelS.nm (r : RelS K H M S) {p : Addr} (h : H p = none) : p ∉ M.m := fun z => by obtain ⟨u, e, _⟩ := r.tracked z; rw [h] at e; cases e
theorem RelS.reserve {p : Addr} {o : HO} (r : RelS K H M S) (h : H p = none) : RelS K (upd H p o) ⟨M.m, p :: M.r⟩ S := by
  have x : ExtW H M (upd H p o) ⟨M.m, p :: M.r⟩ := ExtW.reserve h
  refine ⟨r.len, r.nd, fun a ha => ?_, fun l a m h1 h2 => ?_⟩
  · rcases List.mem_cons.mp ha with rfl | ha
    · exact ⟨r.nm h, o, upd_same⟩
    · obtain ⟨n, u, e⟩ := r.apart a ha
      exact ⟨n, u, by rw [upd_ne (ne_of_none e h)]; exact e⟩
  · obtain ⟨u, hu, q⟩ := r.at_ l a m h1 h2
    exact ⟨u, by rw [upd_ne (ne_of_none hu h)]; exact hu, q.monoW x⟩
/-- what is reserved changes -/
theorem ExtW.rewrite {p : Addr} {xs : List V} {o : HO} (h : H p = some (.lst xs)) (hp : p ∈ M.r) : ExtW H M (upd H p o) M :=
  ⟨⟨[], by simp⟩, fun a ha => ha, fun a ha => .inl ha, fun a u n n2 e => ⟨by rw [upd_ne (show a ≠ p from fun z => n2 (by rw [z]; exact hp))]; exact e, n⟩,
    fun a ys e => by rw [upd_ne (fun z => by subst z; rw [h] at e; cases e)]; exact e, fun a x u e => by rw [upd_ne (fun z => by subst z; rw [h] at e; cases e)]; exact e, fun a u e => by
      by_cases z : a = p
      · subst z; exact ⟨o, upd_same⟩
      · exact ⟨u, by rw [upd_ne z]; exact e⟩⟩
theorem RelS.rewrite {p : Addr} {xs : List V} {o : HO} (r : RelS K H M S) (h : H p = some (.lst xs)) (hp : p ∈ M.r) : RelS K (upd H p o) M S := by
  have x : ExtW H M (upd H p o) M := ExtW.rewrite h hp
  refine ⟨r.len, r.nd, fun a ha => ⟨(r.apart a ha).1, ?_⟩, fun l a m h1 h2 => ?_⟩
  · obtain ⟨u, e⟩ := (r.apart a ha).2
    exact x.dom a u e
  · obtain ⟨u, hu, q⟩ := r.at_ l a m h1 h2
    exact ⟨u, by rw [upd_ne (show a ≠ p from fun z => (r.apart p hp).1 (by rw [← z]; exact List.mem_of_getElem? h1))]; exact hu, q.monoW x⟩
mutual
theorem RelD.unres {rr r2 : List Addr} (x : ∀ a ∈ r2, a ∈ rr) : ∀ {d : D} {v : V}, RelD K H ⟨M.m, rr⟩ d v → RelD K H ⟨M.m, r2⟩ d v
  | _, _, .non => .non
  | _, _, .bl b => .bl b
  | _, _, .int i => .int i
  | _, _, .str z => .str z
  | _, _, .tup h r => .tup h (RelDs.unres x r)
  | _, _, .lst h n q r => .lst h n (fun z => q (x _ z)) (RelDs.unres x r)
  | _, _, .lstF h r => .lstF h (RelDs.unres x r)
  | _, _, .dctK h n q e r => .dctK h n (fun z => q (x _ z)) e (RelDs.unres x r)
  | _, _, .ref h => .ref h
theorem RelDs.unres {rr r2 : List Addr} (x : ∀ a ∈ r2, a ∈ rr) : ∀ {ds : List D} {vs : List V}, RelDs K H ⟨M.m, rr⟩ ds vs → RelDs K H ⟨M.m, r2⟩ ds vs
  | _, _, .nil => .nil
  | _, _, .cons h r => .cons (RelD.unres x h) (RelDs.unres x r)
end
theorem RelS.unres {rr r2 : List Addr} (x : ∀ a ∈ r2, a ∈ rr) (r : RelS K H ⟨M.m, rr⟩ S) : RelS K H ⟨M.m, r2⟩ S :=
  ⟨r.len, r.nd, fun a ha => r.apart a (x a ha), fun l a m h1 h2 => by
    obtain ⟨u, hu, q⟩ := r.at_ l a m h1 h2
    refine ⟨u, hu, ?_⟩
    cases m with
    | lst xs => obtain ⟨vs, e, q⟩ := q; exact ⟨vs, e, q.unres x⟩
    | dct ks ds => obtain ⟨kvs, e, e2, q⟩ := q; exact ⟨kvs, e, e2, q.unres x⟩⟩
end

/-! ## what is walked -/
/-- an item: of the pairs that enumerate and zip lay the object is not known -/
def RelY (b : Bool) (K : PySem.W.Frag) (H : Hp) (M : Pl) (d : D) (v : V) : Prop := RelD K H M d v ∨ (b = true ∧ ∃ T ds vs, d = .tup ds ∧ v = .ref T ∧ SqT K H T vs ∧ RelDs K H M ds vs)
structure IterOk (K : PySem.W.Frag) (J : It) (b : Bool) (src : Src) (H : Hp) (M : Pl) : Prop where
  go : ∀ H2 M2 S2 i d, ExtW H M H2 M2 → RelS K H2 M2 S2 → src.stays S2 → src.xs[i]? = some d → J.go i H2 ∧ ∀ x H3, J.yld i H2 x H3 → Ext H2 M2 H3 M2 ∧ RelS K H3 M2 S2 ∧ RelY b K H3 M2 d x
  stop : ∀ H2 M2 S2, ExtW H M H2 M2 → RelS K H2 M2 S2 → src.stays S2 → J.stop src.xs.length H2
def WPI (K : PySem.W.Frag) (mg : Str → Option Value) (b : Bool) (H : Hp) (M : Pl) (r : R Src) (R' : It → Hp → Prop) (E : XK) : Prop :=
  match r with
  | .ok src S' => ∀ J H' M', Ext H M H' M' → RelS K H' M' S' → IterOk K J b src H' M' → R' J H'
  | .exc x S' => ∀ cls dd H' M', Ext H M H' M' → RelS K H' M' S' → RelX K mg H' M' x cls dd → E cls dd H'
  | .bad => False
def tI (K : PySem.W.Frag) (mg : Str → Option Value) (b : Bool) (v : Ev → Sto → R Src) (W : WX) : TI := fun σ H R' => ∃ M env S, RelE K H M env σ ∧ RelS K H M S ∧ WPI K mg b H M (v env S) R' (fun c d H' => W c d σ H')
/-- e is walked as v says -/
def DI (X : Cx) (tg e : Expr) (b : Bool) (v : Ev → Sto → R Src) : Prop := ∀ W, Takes X W → PI X tg e (tI X.K X.mg b v W)
section
variable {K : PySem.W.Frag} {H H2 : Hp} {M M2 : Pl} {S S2 : Sto}
/-- a list, as it stands at any turn -/
theorem src_list {d : D} {v : V} {xs : List D} (rs : RelS K H M S) (r : RelD K H M d v) (e : rd S d = .lst xs) : ∃ a, v = .ref a ∧ (∃ vs, SqL K H a vs) ∧ ∀ H2 M2 S2, ExtW H M H2 M2 → RelS K H2 M2 S2 → (∀ p ∈ guardOf d xs, S2[p.1]? = some (.lst p.2)) → ∃ vs, SqL K H2 a vs ∧ RelDs K H2 M2 xs vs := by
  cases d with
  | lst ys =>
    cases e
    cases r with
    | lst h n q rr => exact ⟨_, rfl, ⟨_, .inl h⟩, fun H2 M2 S2 x rs2 _ => ⟨_, .inl (x.rdL h n q).1, rr.monoW x⟩⟩
    | lstF h rr => exact ⟨_, rfl, ⟨_, h.sq⟩, fun H2 M2 S2 x rs2 _ => ⟨_, (x.lstF h).sq, rr.monoW x⟩⟩
  | ref l =>
    obtain ⟨a, rfl, hm⟩ := r.ref_
    obtain ⟨m, hS⟩ := rs.lt hm
    rw [rd_ref, hS] at e
    cases m with
    | dct _ _ => cases e
    | lst zs =>
      cases e
      obtain ⟨o, ho, vs, rfl, rr⟩ := rs.at_ l a _ hm hS
      refine ⟨a, rfl, ⟨vs, .inl (.inl ho)⟩, fun H2 M2 S2 x rs2 g => ?_⟩
      have g1 := g (l, xs) (by simp [guardOf])
      obtain ⟨o2, ho2, vs2, rfl, rr2⟩ := rs2.at_ l a _ (x.get hm) g1
      exact ⟨vs2, .inl (.inl ho2), rr2⟩
  | _ => cases e
theorem src_tup {d : D} {v : V} {xs : List D} (rs : RelS K H M S) (r : RelD K H M d v) (e : rd S d = .tup xs) : ∃ a, v = .ref a ∧ (∃ vs, SqT K H a vs) ∧ ∀ H2 M2, ExtW H M H2 M2 → ∃ vs, SqT K H2 a vs ∧ RelDs K H2 M2 xs vs := by
  have q := rd_rel rs r
  rw [e] at q
  obtain ⟨a, vs, rfl, hs, rr⟩ := q.sqT
  exact ⟨a, rfl, ⟨vs, hs.sq⟩, fun H2 M2 x => ⟨vs, (x.sqT hs).sq, rr.monoW x⟩⟩
theorem iter_list {a : Addr} {src : Src} (h : ∀ H2 M2 S2, ExtW H M H2 M2 → RelS K H2 M2 S2 → src.stays S2 → ∃ vs, SqL K H2 a vs ∧ RelDs K H2 M2 src.xs vs) : IterOk K (Itl K a) false src H M where
  go := fun H2 M2 S2 i d x rs st e => by
    obtain ⟨vs, hs, rr⟩ := h H2 M2 S2 x rs st
    obtain ⟨v, hv, rv⟩ := rr.get e
    refine ⟨⟨vs, v, hs, hv⟩, fun y H3 hy => ?_⟩
    obtain ⟨rfl, hy⟩ := hy
    have := hy vs hs
    rw [hv] at this
    cases this
    exact ⟨Ext.refl _ _, rs, .inl rv⟩
  stop := fun H2 M2 S2 x rs st => by
    obtain ⟨vs, hs, rr⟩ := h H2 M2 S2 x rs st
    exact ⟨vs, hs, by rw [rr.length]; exact Nat.le_refl _⟩
theorem iter_tup {a : Addr} {src : Src} (h : ∀ H2 M2, ExtW H M H2 M2 → ∃ vs, SqT K H2 a vs ∧ RelDs K H2 M2 src.xs vs) : IterOk K (Itt K a) false src H M where
  go := fun H2 M2 S2 i d x rs st e => by
    obtain ⟨vs, hs, rr⟩ := h H2 M2 x
    obtain ⟨v, hv, rv⟩ := rr.get e
    refine ⟨⟨vs, v, hs, hv⟩, fun y H3 hy => ?_⟩
    obtain ⟨rfl, hy⟩ := hy
    have := hy vs hs
    rw [hv] at this
    cases this
    exact ⟨Ext.refl _ _, rs, .inl rv⟩
  stop := fun H2 M2 S2 x rs st => by
    obtain ⟨vs, hs, rr⟩ := h H2 M2 x
    exact ⟨vs, hs, by rw [rr.length]; exact Nat.le_refl _⟩
theorem iter_str {x : Str} : IterOk K (Its x) false ⟨chars x, []⟩ H M where
  go := fun H2 M2 S2 i d _ rs st e => by
    have e : (chars x)[i]? = some d := e
    unfold chars at e
    rw [List.getElem?_map] at e
    obtain ⟨c, hc, rfl⟩ := Option.map_eq_some_iff.mp e
    have hc' : x.cps[i]? = some c := by rw [← Array.getElem?_toList]; exact hc
    refine ⟨(Array.getElem?_eq_some_iff.mp hc').1, fun y H3 hy => ?_⟩
    obtain ⟨rfl, c', hc2, rfl⟩ := hy
    rw [hc'] at hc2
    cases hc2
    exact ⟨Ext.refl _ _, rs, .inl (.str _)⟩
  stop := fun H2 M2 S2 _ rs st => by
    show x.cps.size ≤ (chars x).length
    unfold chars
    simp
theorem iter_rng {lo : Int} {n : Nat} : IterOk K (Itr lo n) false ⟨rangeD lo n, []⟩ H M where
  go := fun H2 M2 S2 i d _ rs st e => by
    have e : (rangeD lo n)[i]? = some d := e
    unfold rangeD at e
    rw [List.getElem?_map] at e
    obtain ⟨k, hk, rfl⟩ := Option.map_eq_some_iff.mp e
    obtain ⟨hi, hk⟩ := List.getElem?_eq_some_iff.mp hk
    rw [List.getElem_range] at hk
    subst hk
    refine ⟨show i < n by simpa using hi, fun y H3 hy => ?_⟩
    obtain ⟨rfl, rfl⟩ := hy
    exact ⟨Ext.refl _ _, rs, .inl (.int _)⟩
  stop := fun H2 M2 S2 _ rs st => by
    show n ≤ (rangeD lo n).length
    unfold rangeD
    simp
end
section
variable {X : Cx} {tg e : Expr}
def iAny (K : PySem.W.Frag) (te : TE) : TI := fun σ H R => te σ H fun x H1 => (∃ a, x = .ref a ∧ (∃ xs, SqL K H1 a xs) ∧ R (Itl K a) H1) ∨ (∃ a, x = .ref a ∧ (∃ xs, SqT K H1 a xs) ∧ R (Itt K a) H1) ∨ (∃ y, x = .str y ∧ R (Its y) H1)
theorem pi_anyA {te : TE} (he : PE X e te) : PI X tg e (iAny X.K te) := by
  refine ⟨fun pins s σ H R I h => ?_⟩
  refine thn (he.run pins s σ H _ I h) fun v s1 ⟨x, H1, I1, r1, q1⟩ => ?_
  rcases q1 with ⟨a, e, ⟨xs, hq⟩, q⟩ | ⟨a, e, ⟨xs, hq⟩, q⟩ | ⟨y, ex, q⟩
  · subst e
    cases r1
    obtain ⟨its, rv, p, hz⟩ := I1.list hq
    refine wpAny_pyIter_list p.isList ?_
    refine ⟨s1.heap.objs.size, [s1.heap.objs.size], _, _, H1, rfl, I1.kept (t' := s1.toks) fun b o e => Heap.get?_push_of_some _ e, turn_list a _, ⟨_, Heap.get?_push_size _ rfl, rfl, rfl⟩, fun b hb => ?_, q⟩
    have e : b = s1.heap.objs.size := by simpa using hb
    subst e
    exact I1.fpOk (Nat.le_refl _) (I1.hok.fresh (Nat.le_refl _))
  · subst e
    cases r1
    obtain ⟨its, rv, p, hz⟩ := I1.tuple hq
    refine wpAny_pyIter_tuple (show s1.heap.IsTuple a its.toArray from p) ?_
    refine ⟨s1.heap.objs.size, [s1.heap.objs.size], _, _, H1, rfl, I1.kept (t' := s1.toks) fun b o e => Heap.get?_push_of_some _ e, turn_tuple a _, ⟨_, Heap.get?_push_size _ rfl, rfl, rfl⟩, fun b hb => ?_, q⟩
    have e : b = s1.heap.objs.size := by simpa using hb
    subst e
    exact I1.fpOk (Nat.le_refl _) (I1.hok.fresh (Nat.le_refl _))
  · subst ex
    obtain ⟨t, rfl⟩ := r1
    cases ha : y.cps.all (· < 128)
    · exact wpAny_pyIter_wide ha (pi_one (tk := s1.toks) I1 _ (turn_str _ y t "str_iterator" (.inr rfl)) ⟨_, Heap.get?_push_size _ rfl, rfl, rfl⟩ q)
    · exact wpAny_pyIter_ascii ha (pi_one (tk := s1.toks) I1 _ (turn_str _ y t "str_ascii_iterator" (.inl rfl)) ⟨_, Heap.get?_push_size _ rfl, rfl, rfl⟩ q)
theorem di_e {v : Ev → Sto → R D} (he : DE X e v) : DI X tg e false (fun e S => (v e S).bind fun x S1 => R.opt S1 (src1 S1 x)) := by
  intro W tk
  obtain ⟨t, p, q⟩ := he W tk
  refine ⟨fun pins s σ H R' I ⟨M, env, S, re, rs, h⟩ => (pi_anyA p).run pins s σ H R' I ?_⟩
  refine q σ H M env S _ re rs ?_
  dsimp only at h
  cases e1 : v env S with
  | bad => rw [e1] at h; exact h.elim
  | exc z S' => rw [e1] at h; exact h
  | ok d S1 =>
    rw [e1] at h
    intro x H1 M1 x1 rs1 rx
    simp only [R.bind_ok] at h
    unfold src1 at h
    cases e2 : rd S1 d with
    | tup xs =>
      rw [e2] at h
      obtain ⟨a, rfl, hs, k⟩ := src_tup rs1 rx e2
      exact .inr (.inl ⟨a, rfl, hs, h _ H1 M1 x1 rs1 (iter_tup k)⟩)
    | lst xs =>
      rw [e2] at h
      obtain ⟨a, rfl, hs, k⟩ := src_list rs1 rx e2
      exact .inl ⟨a, rfl, hs, h _ H1 M1 x1 rs1 (iter_list fun H2 M2 S2 x rs2 st => k H2 M2 S2 x rs2 st)⟩
    | str y =>
      rw [e2] at h
      have qx := rd_rel rs1 rx
      rw [e2] at qx
      exact .inr (.inr ⟨y, qx.str_, h _ H1 M1 x1 rs1 iter_str⟩)
    | _ => rw [e2] at h; exact h.elim
theorem di_rng1 {a : Expr} {va : Ev → Sto → R (List D)} {p pos : Pos} (hg : Gl X "range") (hm : X.mg "range" = none) (ha : DA X [a] va) (hs : noStar a = true) :
    DI X tg (.Call (.Name "range" p) [a] [] pos) false (fun e S => (va e S).bind fun xs S1 => R.opt S1 ((rangeOf 1 xs).map fun q => ⟨rangeD q.1 q.2, []⟩)) := by
  intro W tk
  obtain ⟨t, pa, q⟩ := ha W tk
  refine ⟨fun pins s σ H R' I ⟨M, env, S, re, rs, h⟩ => (pi_range1 hg hm pa (by rw [starEach_cons hs]; rfl)).run pins s σ H R' I ?_⟩
  refine q σ H M env S _ re rs ?_
  dsimp only at h
  cases e1 : va env S with
  | bad => rw [e1] at h; exact h.elim
  | exc z S' => rw [e1] at h; exact h
  | ok ds S1 =>
    rw [e1] at h
    intro xs H1 M1 x1 rs1 rx
    simp only [R.bind_ok] at h
    cases e2 : rangeOf 1 ds with
    | none => rw [e2] at h; exact h.elim
    | some q =>
      rw [e2] at h
      obtain ⟨j, rfl, rfl, z1, z2⟩ := rangeOf1 e2
      obtain ⟨v, rfl, rv⟩ := rx.one
      rw [rv.int_]
      exact ⟨j, rfl, z1, z2, h _ H1 M1 x1 rs1 iter_rng⟩
theorem di_rng2 {a b : Expr} {va : Ev → Sto → R (List D)} {p pos : Pos} (hg : Gl X "range") (hm : X.mg "range" = none) (ha : DA X [a, b] va) (hs : noStar a = true) (hs2 : noStar b = true) :
    DI X tg (.Call (.Name "range" p) [a, b] [] pos) false (fun e S => (va e S).bind fun xs S1 => R.opt S1 ((rangeOf 2 xs).map fun q => ⟨rangeD q.1 q.2, []⟩)) := by
  intro W tk
  obtain ⟨t, pa, q⟩ := ha W tk
  refine ⟨fun pins s σ H R' I ⟨M, env, S, re, rs, h⟩ => (pi_range2 hg hm pa (by rw [starEach_cons hs, starEach_cons hs2]; rfl) (by rw [starEach_cons hs2]; rfl)).run pins s σ H R' I ?_⟩
  refine q σ H M env S _ re rs ?_
  dsimp only at h
  cases e1 : va env S with
  | bad => rw [e1] at h; exact h.elim
  | exc z S' => rw [e1] at h; exact h
  | ok ds S1 =>
    rw [e1] at h
    intro xs H1 M1 x1 rs1 rx
    simp only [R.bind_ok] at h
    cases e2 : rangeOf 2 ds with
    | none => rw [e2] at h; exact h.elim
    | some q =>
      rw [e2] at h
      obtain ⟨i, j, rfl, rfl, z1, z2, z3, z4⟩ := rangeOf2 e2
      obtain ⟨v, u, rfl, rv, ru⟩ := rx.two
      rw [rv.int_, ru.int_]
      exact ⟨i, j, rfl, ⟨z1, z2, z3, z4⟩, h _ H1 M1 x1 rs1 iter_rng⟩
end
end Pw

set_option Elab.async false
set_option linter.all false
set_option maxRecDepth 100000
set_option maxHeartbeats 1000000
namespace PySem
open Sem (wp)
theorem meets_enumerate_newB1 {v : Value} {o : Obj} {H : Heap → Prop} (B : Begins v o H) :
    Meets (Builtin.«enumerate.__new__» ⟨[.type "enumerate", v], []⟩) (fun _ R s => H s.heap ∧
      R (.ok (.ret (.ref (s.heap.push o).objs.size))) { s with heap := (s.heap.push o).push { cls := .type "enumerate", data := .fields #[.none, .bool false, .ref s.heap.objs.size, rawInt 0, .none, .none] } }) :=
  .of_wp fun prog w A R s h => by
    obtain ⟨hp, g, d, tk, os⟩ := s; obtain ⟨h1, h⟩ := h
    have hsub := sub_enumerate
    have q1 : ∀ {A' : Around} {E : Value → Shared → Prop} {Q : Value → Shared → Prop}, Q (.ref hp.objs.size) ⟨hp.push o, g, d, tk, os⟩ → wpAny (model prog w) A' (pyIter v) Q E ⟨hp, g, d, tk, os⟩ :=
      fun q => B.iter prog w _ _ ⟨hp, g, d, tk, os⟩ _ h1 q
    wp_walk using q1
    refine wpAny_stack_any fun st => wpAny_pure ?_
    split
    · rename_i c _ _ _ _ _
      cases (c == Value.type "enumerate")
      · wp_walk using q1
        exact ⟨_, rfl, h⟩
      · wp_walk using q1
        exact ⟨_, rfl, h⟩
    · wp_walk using q1
      exact ⟨_, rfl, h⟩
section
variable {prog : Program} {w : World} {A : Around} {E : Value → Shared → Prop} {s : Shared}
theorem enum_begins1 {v : Value} {o : Obj} {H : Heap → Prop} {Q : Value → Shared → Prop} (B : Begins v o H) (h1 : H s.heap)
    (h : ∀ h', IsEnum h' (s.heap.objs.size + 1) s.heap.objs.size 0 .none → h'.get? s.heap.objs.size = some o → h'.objs.size = s.heap.objs.size + 2 →
      (∀ b o, s.heap.get? b = some o → h'.get? b = some o) → Q (.ref (s.heap.objs.size + 1)) { s with heap := h' }) :
    wpAny (model prog w) A (call (.type "enumerate") [v]) Q E s := by
  refine callType_new F.called_enumerate (by decide) (F.typeCall_enumerate_1 _) (F.newCall_enumerate_1 _) (fun obj => F.args_object_init_2 obj _) F.entry_enumerate_new
    (meets_enumerate_newB1 B) ⟨h1, ?_⟩
  have hz : (s.heap.push o).objs.size = s.heap.objs.size + 1 := Heap.size_push ..
  show _ ∧ _
  rw [hz]
  have he : IsEnum ((s.heap.push o).push { cls := .type "enumerate", data := .fields #[.none, .bool false, .ref s.heap.objs.size, rawInt 0, .none, .none] }) (s.heap.objs.size + 1) s.heap.objs.size 0 .none := by
    have := Heap.get?_push_size (s.heap.push o) (o := { cls := .type "enumerate", data := .fields #[.none, .bool false, .ref s.heap.objs.size, rawInt 0, .none, .none] }) rfl
    rw [hz] at this; exact this
  refine ⟨⟨_, he, rfl⟩, h _ he (Heap.get?_push_of_some _ (Heap.get?_push_size _ B.free)) (by rw [Heap.size_push, hz]) fun b o x => Heap.get?_push_of_some _ (Heap.get?_push_of_some _ x)⟩
end
end PySem
namespace Pw
open PySem PySem.Spec PyProof.Rows L2
/-- the tuple at a, its items with their numbers, in new pairs -/
def IteT (K : PySem.W.Frag) (a : Addr) : It :=
  ⟨fun i H => ∃ (xs : List V) (x : V), SqT K H a xs ∧ xs[i]? = some x, fun i H v H' => ∃ T x, v = .ref T ∧ H T = none ∧ H' = upd H T (.tup [.int (i : Nat), x]) ∧ ∀ xs, SqT K H a xs → xs[i]? = some x, fun i H => ∃ xs : List V, SqT K H a xs ∧ xs.length ≤ i⟩
theorem turn_enumT {P : Program} {w : World} {K : PySem.W.Frag} {elts : List Expr} {kk : Nat} {tpos : Pos} (a e it : Addr) (hea : e ≠ a) (hai : a ≠ it) :
    Turn P w K (.Tuple elts kk tpos) (IteT K a) [e, it] e (fun i h => (∃ old, IsEnum h e it ((i : Nat) : Int) old) ∧ h.IsTupleIter it a i ∧ e ≠ it) where
  mem := by simp
  obj := fun i h st b hb => by
    obtain ⟨⟨old, he⟩, ⟨o, ho, hc, hd⟩, _⟩ := st
    have e' : b = e ∨ b = it := by simpa using hb
    rcases e' with z | z
    · rw [z]; exact ⟨_, he, fun v q => nomatch q⟩
    · rw [z]; exact ⟨o, ho, fun v q => by rw [hd] at q; cases q⟩
  keep := fun i h h' st k => by
    obtain ⟨⟨old, he⟩, ⟨o, ho, r⟩, hne⟩ := st
    exact ⟨⟨old, k e (by simp) _ he⟩, ⟨o, k it (by simp) o ho, r⟩, hne⟩
  item := by
    intro X hP hw hK hc i pins s σ H E I hf st hg
    subst hP hw hK
    obtain ⟨⟨old, he⟩, hit, hne⟩ := st
    obtain ⟨xs, x, hq, hx⟩ := hg
    obtain ⟨its, rv, p, hz⟩ := I.tuple hq
    obtain ⟨u, hu, ru⟩ := rv.get hx
    have hel : e < s.heap.objs.size := Heap.lt_size he
    have hil : it < s.heap.objs.size := by obtain ⟨_, q, _⟩ := hit; exact Heap.lt_size q
    have hlt : i < its.toArray.size := by
      have := (List.getElem?_eq_some_iff.mp hu).1
      simpa using this
    have D : Draws X.prog X.w X.A.in1 it [it, a] its.toArray.size (fun i v => its.toArray[i]? = some v) (fun i h => h.IsTupleIter it a i ∧ h.IsTuple a its.toArray) := Draws.tuple (A := X.A.in1) (I.ok.hd hc) it a hai its.toArray
    refine wpAny_pyNext_enum_itemC D he ⟨hit, show s.heap.IsTuple a its.toArray from p⟩ hlt hne (by simp [hne, hea]) fun x' h' tk hx' ho hst' hT hsz hk => ?_
    have hx2 : x' = u := by
      have : its.toArray[i]? = some u := by simpa using hu
      rw [this] at hx'
      exact (Option.some.inj hx').symm
    subst hx2
    refine ⟨_, rfl, wpAny_letOwnedTupleGo_enum (s := { s with heap := h', toks := tk + 1 }) ho fun h'' he' sb => ?_⟩
    have hT2 : h''.get? s.heap.objs.size = some { cls := .type "tuple", data := .seq #[.int i tk, x'] } := (sb.2 _ (Nat.ne_of_gt hel)).trans hT
    have new : ObjOk X.prog X.w (upd H s.heap.objs.size (.tup [.int (i : Nat), x])) h'' s.heap.objs.size (.tup [.int (i : Nat), x]) :=
      ⟨by show 2 ≤ sizeLine; decide, [.int i tk, x'], .cons ⟨_, rfl⟩ (.cons ru .nil), ⟨_, hT2, rfl, _, rfl⟩⟩
    have I1 : Inv X pins σ (upd H s.heap.objs.size (.tup [.int (i : Nat), x])) { s with heap := h'', toks := tk + 1 } :=
      I.turnedNew (ch := [e, it]) (fun b ob hb q => (sb.2 b (fun z => hb (by simp [z]))).trans (hk b ob (fun z => hb (by simp [z])) (fun z => hb (by simp [z])) q)) hf (Nat.le_refl _) new
    have hit'' : h''.IsTupleIter it a (i + 1) := by
      obtain ⟨o, q, r⟩ := hst'.1
      exact ⟨o, (sb.2 it (Ne.symm hne)).trans q, r⟩
    refine ⟨.ref s.heap.objs.size, _, I1, rfl, ⟨_, x, rfl, I.hok.fresh (Nat.le_refl _), rfl, fun ys hy => by rw [I.tuple_inj hy hq]; exact hx⟩, ⟨⟨x', ?_⟩, hit'', hne⟩, fun b hb => ?_⟩
    · have e1 : ((i + 1 : Nat) : Int) = (i : Int) + 1 := by omega
      rw [e1]; exact he'
    · have hb' : b < s.heap.objs.size := by
        have e' : b = e ∨ b = it := by simpa using hb
        rcases e' with z | z
        · rw [z]; exact hel
        · rw [z]; exact hil
      rw [upd_ne (Nat.ne_of_lt hb')]
      exact (hf b hb).1
  done := by
    intro X hP hw hK hc i pins s σ H E I hf st hg
    subst hP hw hK
    obtain ⟨⟨old, he⟩, hit, hne⟩ := st
    obtain ⟨xs, hq, hx⟩ := hg
    obtain ⟨its, rv, p, hz⟩ := I.tuple hq
    obtain ⟨f0, f1, f2, f3, f4, f5⟩ := hf it (by simp)
    have hl := rv.length
    have hT : s.TypeIs (.ref e) "enumerate" := ⟨_, he, rfl⟩
    unfold pyNext
    refine wpAny_bind (wpAny_attempt (wpAny_callSpecial?_slot (name := Str.ofString "__next__") hT F.slot_enumerate_next
      (wpAny_call_entry F.slot_enumerate_next hT F.entry_enumerate_next ?_ (F.args_enumerate_next_1 _))))
    show wpAny _ _ (field (.ref e) 2 >>= _) _ _ _
    refine wpAny_bind (wpAny_field he rfl (x := .ref it) rfl ?_)
    refine wpAny_bind (wpAny_nextOf_tuple_end (A := X.A.in1) (I.ok.hd hc) hit (show s.heap.IsTuple a its.toArray from p) (by simp; omega) fun h' x he' hx' => ?_)
    obtain ⟨o, ho, hcx⟩ := hx'
    refine wpAny_bind (wpAny_isInstance (T := "StopIteration") (b := true) ⟨o, ho, hcx⟩ isSubtype_stop ?_)
    exact wpAny_pure ⟨rfl, I.turned (t' := s.toks) (fun b o hb q => he' b o hb q) f0 f1 f3 f4 f5⟩
  self := fun A i s Q E st h => let ⟨⟨_, he⟩, _⟩ := st; wpAny_pyIter_enum he h
def iEnumA (K : PySem.W.Frag) (ta : TA) : TI := fun σ H R => ta σ H fun vs H1 => ∃ a xs, vs = [.ref a] ∧ ((SqL K H1 a xs ∧ R (Ite K a) H1) ∨ (SqT K H1 a xs ∧ R (IteT K a) H1))
theorem pi_enumA {X : Cx} {e : Expr} {ta : TA} {p pos tpos : Pos} {elts : List Expr} {kk : Nat} (hg : Gl X "enumerate") (hm : X.mg "enumerate" = none) (ha : PA X [e] ta) (hs : starEach [e] X.env = [(false, eval e X.env)]) :
    PI X (.Tuple elts kk tpos) (.Call (.Name "enumerate" p) [e] [] pos) (iEnumA X.K ta) := by
  refine ⟨fun pins s σ H R I h => ?_⟩
  refine Call_ (ld_blt I hg hm PyProof.Rows.boot_enumerate (PyProof.Rows.callWith_type1 (thn (ha.run pos pins s σ H _ I h) fun us s1 ⟨vs, H1, I1, r1, q1⟩ => ?_) hs rfl))
  obtain ⟨a, xs, ex, q1⟩ := q1
  subst ex
  obtain ⟨u, rfl, ru⟩ := r1.one
  cases ru
  have fp2 : ∀ b ∈ [s1.heap.objs.size + 1, s1.heap.objs.size], FpOk X pins H1 b := fun b hb => by
    have e' : b = s1.heap.objs.size + 1 ∨ b = s1.heap.objs.size := by simpa using hb
    have hle : s1.heap.objs.size ≤ b := by
      rcases e' with z | z
      · rw [z]; exact Nat.le_add_right _ _
      · rw [z]; exact Nat.le_refl _
    exact I1.fpOk hle (I1.hok.fresh hle)
  rcases q1 with ⟨hq, q⟩ | ⟨hq, q⟩
  · obtain ⟨its, rv, p', hz⟩ := I1.list hq
    refine call_enumerate_list p'.isList fun h' he hit hsz hk => wpAny_pyIter_enum he ?_
    have I2 : Inv X pins σ H1 { s1 with heap := h' } := I1.kept (t' := s1.toks) hk
    exact ⟨s1.heap.objs.size + 1, [s1.heap.objs.size + 1, s1.heap.objs.size], _, _, H1, rfl, I2, turn_enum a (s1.heap.objs.size + 1) s1.heap.objs.size, ⟨⟨.none, he⟩, hit, Nat.succ_ne_self _⟩, fp2, q⟩
  · obtain ⟨its, rv, p', hz⟩ := I1.tuple hq
    have hla : a < s1.heap.objs.size := by obtain ⟨o, ho, _⟩ := p'; exact Heap.lt_size ho
    refine enum_begins1 (begins_tuple a its.toArray) (show s1.heap.IsTuple a its.toArray from p') fun h' he hit hsz hk => wpAny_pyIter_enum he ?_
    have I2 : Inv X pins σ H1 { s1 with heap := h' } := I1.kept (t' := s1.toks) hk
    exact ⟨s1.heap.objs.size + 1, [s1.heap.objs.size + 1, s1.heap.objs.size], _, _, H1, rfl, I2, turn_enumT a (s1.heap.objs.size + 1) s1.heap.objs.size (Nat.ne_of_gt (Nat.lt_succ_of_lt hla)) (Nat.ne_of_lt hla), ⟨⟨.none, he⟩, ⟨_, hit, rfl, rfl⟩, Nat.succ_ne_self _⟩, fp2, q⟩
section
variable {K : PySem.W.Frag} {H : Hp} {M : Pl}
theorem enumD_get {xs : List D} {i : Nat} {d : D} (h : (enumD xs)[i]? = some d) : ∃ x, xs[i]? = some x ∧ d = .tup [.int (i : Nat), x] := by
  unfold enumD at h
  rw [List.getElem?_zipWith] at h
  cases e : xs[i]? with
  | none => rw [e] at h; cases e2 : (List.range xs.length)[i]? <;> rw [e2] at h <;> cases h
  | some x =>
    have hi : i < xs.length := (List.getElem?_eq_some_iff.mp e).1
    rw [e, List.getElem?_range hi] at h
    exact ⟨x, rfl, (Option.some.inj h).symm⟩
theorem enumD_length (xs : List D) : (enumD xs).length = xs.length := by
  unfold enumD
  rw [List.length_zipWith, List.length_range, Nat.min_self]
theorem pair_y {H2 : Hp} {M2 : Pl} {S2 : Sto} {T : Addr} {vs : List V} {ds : List D} (rs : RelS K H2 M2 S2) (hT : H2 T = none) (r : RelDs K H2 M2 ds vs) : Ext H2 M2 (upd H2 T (.tup vs)) M2 ∧ RelS K (upd H2 T (.tup vs)) M2 S2 ∧ RelY true K (upd H2 T (.tup vs)) M2 (.tup ds) (.ref T) :=
  ⟨Ext.new hT, rs.new hT, .inr ⟨rfl, T, ds, vs, rfl, rfl, .inl (.inl upd_same), r.mono (Ext.new hT)⟩⟩
theorem iter_enumL {a : Addr} {xs : List D} {gd : List (Nat × List D)} (h : ∀ H2 M2 S2, ExtW H M H2 M2 → RelS K H2 M2 S2 → Src.stays ⟨enumD xs, gd⟩ S2 → ∃ vs, SqL K H2 a vs ∧ RelDs K H2 M2 xs vs) : IterOk K (Ite K a) true ⟨enumD xs, gd⟩ H M where
  go := fun H2 M2 S2 i d x rs st e => by
    obtain ⟨vs, hs, rr⟩ := h H2 M2 S2 x rs st
    obtain ⟨y, hy, rfl⟩ := enumD_get e
    obtain ⟨v, hv, rv⟩ := rr.get hy
    refine ⟨⟨vs, v, hs, hv⟩, fun z H3 hz => ?_⟩
    obtain ⟨T, w, rfl, hT, rfl, hw⟩ := hz
    have := hw vs hs
    rw [hv] at this
    cases this
    exact pair_y rs hT (.cons (.int _) (.cons rv .nil))
  stop := fun H2 M2 S2 x rs st => by
    obtain ⟨vs, hs, rr⟩ := h H2 M2 S2 x rs st
    exact ⟨vs, hs, by show vs.length ≤ (enumD xs).length; rw [enumD_length, rr.length]; exact Nat.le_refl _⟩
theorem iter_enumT {a : Addr} {xs : List D} (h : ∀ H2 M2, ExtW H M H2 M2 → ∃ vs, SqT K H2 a vs ∧ RelDs K H2 M2 xs vs) : IterOk K (IteT K a) true ⟨enumD xs, []⟩ H M where
  go := fun H2 M2 S2 i d x rs st e => by
    obtain ⟨vs, hs, rr⟩ := h H2 M2 x
    obtain ⟨y, hy, rfl⟩ := enumD_get e
    obtain ⟨v, hv, rv⟩ := rr.get hy
    refine ⟨⟨vs, v, hs, hv⟩, fun z H3 hz => ?_⟩
    obtain ⟨T, w, rfl, hT, rfl, hw⟩ := hz
    have := hw vs hs
    rw [hv] at this
    cases this
    exact pair_y rs hT (.cons (.int _) (.cons rv .nil))
  stop := fun H2 M2 S2 x rs st => by
    obtain ⟨vs, hs, rr⟩ := h H2 M2 x
    exact ⟨vs, hs, by show vs.length ≤ (enumD xs).length; rw [enumD_length, rr.length]; exact Nat.le_refl _⟩
end
theorem di_enum {X : Cx} {e : Expr} {v : Ev → Sto → R D} {p pos tpos : Pos} {elts : List Expr} {kk : Nat} (hg : Gl X "enumerate") (hm : X.mg "enumerate" = none) (he : DE X e v) (hs : noStar e = true) :
    DI X (.Tuple elts kk tpos) (.Call (.Name "enumerate" p) [e] [] pos) true (fun e S => (v e S).bind fun x S1 => R.opt S1 (srcEnum S1 x)) := by
  intro W tk
  obtain ⟨t, pa, q⟩ := (da_cons (starEach_cons (es := []) hs) he da_nil) W tk
  refine ⟨fun pins s σ H R' I ⟨M, env, S, re, rs, h⟩ => (pi_enumA hg hm pa (by rw [starEach_cons hs]; rfl)).run pins s σ H R' I ?_⟩
  refine q σ H M env S _ re rs ?_
  dsimp only at h ⊢
  cases e1 : v env S with
  | bad => rw [e1] at h; exact h.elim
  | exc z S' => rw [e1] at h; exact h
  | ok d S1 =>
    rw [e1] at h
    simp only [R.bind_ok]
    intro xs H1 M1 x1 rs1 rx
    obtain ⟨u, rfl, ru⟩ := rx.one
    simp only [R.bind_ok] at h
    unfold srcEnum at h
    cases e2 : rd S1 d with
    | tup ys =>
      rw [e2] at h
      obtain ⟨a, rfl, ⟨vs, hs⟩, k⟩ := src_tup rs1 ru e2
      exact ⟨a, vs, rfl, .inr ⟨hs, h _ H1 M1 x1 rs1 (iter_enumT k)⟩⟩
    | lst ys =>
      rw [e2] at h
      obtain ⟨a, rfl, ⟨vs, hs⟩, k⟩ := src_list rs1 ru e2
      exact ⟨a, vs, rfl, .inl ⟨hs, h _ H1 M1 x1 rs1 (iter_enumL fun H2 M2 S2 x rs2 st => k H2 M2 S2 x rs2 st)⟩⟩
    | _ => rw [e2] at h; exact h.elim
end Pw

set_option Elab.async false
set_option linter.all false
set_option maxRecDepth 100000
set_option maxHeartbeats 1000000
namespace Pw
open PySem PySem.Spec PyProof.Rows L2
/-! ## targets -/
mutual
def Tg.slots : Tg → List Nat
  | .n i => [i]
  | .tu ts => Tg.slotss ts
def Tg.slotss : List Tg → List Nat
  | [] => []
  | t :: ts => t.slots ++ Tg.slotss ts
end
def gT (K : PySem.W.Frag) (t : Tg) (b : Bool) : TG := fun v σ H Q => ∃ M env S d env', RelE K H M env σ ∧ RelS K H M S ∧ RelY b K H M d v ∧ Tg.put t d S env = some env' ∧
  ∀ σ', RelE K H M env' σ' → (∀ j, j ∉ t.slots → σ'[j]? = σ[j]?) → Q σ' H
def gTs (K : PySem.W.Frag) (ts : List Tg) : TGs := fun vs σ H Q => ∃ M env S ds env', RelE K H M env σ ∧ RelS K H M S ∧ RelDs K H M ds vs ∧ Tg.puts ts ds S env = some env' ∧
  ∀ σ', RelE K H M env' σ' → (∀ j, j ∉ Tg.slotss ts → σ'[j]? = σ[j]?) → Q σ' H
theorem PG_or {X : Cx} {e : Expr} {g g' : TG} (h : PG X e g) (h' : PG X e g') : PG X e (fun v σ H Q => g v σ H Q ∨ g' v σ H Q) :=
  ⟨fun pins s σ H v u Q I r q => by
    rcases q with q | q
    · exact h.run pins s σ H v u Q I r q
    · exact h'.run pins s σ H v u Q I r q⟩
theorem PG_imp {X : Cx} {e : Expr} {g g' : TG} (h : PG X e g) (k : ∀ v σ H Q, g' v σ H Q → g v σ H Q) : PG X e g' := ⟨fun pins s σ H v u Q I r q => h.run pins s σ H v u Q I r (k v σ H Q q)⟩
theorem PGs_imp {X : Cx} {e : List Expr} {g g' : TGs} (h : PGs X e g) (k : ∀ v σ H Q, g' v σ H Q → g v σ H Q) : PGs X e g' := ⟨fun pins s σ H v u Q I r q => h.run pins s σ H v u Q I r (k v σ H Q q)⟩
theorem assignEach_cons {e : Expr} {es : List Expr} {env : Env} (h : noStar e = true) : assignEach (e :: es) env = (false, assign e env) :: assignEach es env := by
  cases e <;> first | rfl | cases h
theorem assignEach_none {env : Env} : ∀ {es : List Expr}, es.all noStar = true → (assignEach es env).findIdx? (·.1) = none
  | [], _ => rfl
  | e :: es, h => by
    rw [List.all_cons, Bool.and_eq_true] at h
    rw [assignEach_cons h.1, List.findIdx?_cons, assignEach_none h.2]
    rfl
theorem assignEach_length {env : Env} : ∀ {es : List Expr}, es.all noStar = true → (assignEach es env).length = es.length
  | [], _ => rfl
  | e :: es, h => by
    rw [List.all_cons, Bool.and_eq_true] at h
    rw [assignEach_cons h.1, List.length_cons, assignEach_length h.2, List.length_cons]
section
variable {X : Cx} {pos : Pos}
theorem dg_name {i : Nat} {x : Str} (hN : X.N.Nodup) (hi : X.N[i]? = some x) (hx : Loc X.env.scope x) (hf : X.fn x = true ∨ X.env.scope.names.lookup x = some .local) : PG X (.Name x pos) (gT X.K (.n i) false) :=
  PG_imp (pg_name hN hi hx hf) fun v σ H Q ⟨M, env, S, d, env', re, rs, ry, hp, q⟩ => by
    rcases ry with ry | ⟨z, _⟩
    · unfold Tg.put at hp
      split at hp
      · cases hp
        exact q _ (re.set i ry) fun j hj => by
          rw [List.getElem?_set_ne]
          intro z
          exact hj (by simp [Tg.slots, z])
      · cases hp
    · cases z
theorem dgs_nil : PGs X [] (gTs X.K []) := PGs_imp pgs_nil fun vs σ H Q ⟨M, env, S, ds, env', re, rs, rd, hp, q⟩ => by
  cases ds with
  | nil => cases rd; cases hp; exact ⟨rfl, q σ re fun _ _ => rfl⟩
  | cons _ _ => cases hp
theorem dgs_cons {e : Expr} {es : List Expr} {t : Tg} {ts : List Tg} (h1 : PG X e (gT X.K t false)) (h2 : PGs X es (gTs X.K ts)) (hs : noStar e = true) : PGs X (e :: es) (gTs X.K (t :: ts)) :=
  PGs_imp (pgs_cons h1 h2 (by rw [assignEach_cons hs]; rfl)) fun vs σ H Q ⟨M, env, S, ds, env', re, rs, rd, hp, q⟩ => by
    cases ds with
    | nil => cases hp
    | cons d ds =>
      cases rd with
      | cons r rr =>
        unfold Tg.puts at hp
        cases e1 : Tg.put t d S env with
        | none => rw [e1] at hp; cases hp
        | some e2 =>
          rw [e1] at hp
          refine ⟨_, _, rfl, M, env, S, d, e2, re, rs, .inl r, e1, fun σ2 re2 h2 => ?_⟩
          exact ⟨M, e2, S, ds, env', re2, rs, rr, hp, fun σ3 re3 h3 => q σ3 re3 fun j hj => by
            simp only [Tg.slotss, List.mem_append, not_or] at hj
            rw [h3 j hj.2, h2 j hj.1]⟩
theorem dg_tup {es : List Expr} {k : Nat} {ts : List Tg} {b : Bool} (hc : X.calm = true) (h : PGs X es (gTs X.K ts)) (hl : es.length = ts.length) (hs : es.all noStar = true) : PG X (.Tuple es k pos) (gT X.K (.tu ts) b) :=
  PG_imp (PG_or (pg_tup (n := es.length) hc h (assignEach_length hs) (assignEach_none hs)) (pg_lst (n := es.length) hc h (assignEach_length hs) (assignEach_none hs))) fun v σ H Q ⟨M, env, S, d, env', re, rs, ry, hp, q⟩ => by
    unfold Tg.put at hp
    have fin : ∀ xs vs, seqOf S d = some xs → RelDs X.K H M xs vs → vs.length = es.length ∧ gTs X.K ts vs σ H Q := by
      intro xs vs e rr
      rw [e] at hp
      simp only at hp
      split at hp
      · rename_i hz
        exact ⟨by rw [← rr.length, hz, hl], M, env, S, xs, env', re, rs, rr, hp, q⟩
      · cases hp
    rcases ry with ry | ⟨_, T, ds, vs, rfl, rfl, hT, rr⟩
    · cases e : seqOf S d with
      | none => rw [e] at hp; cases hp
      | some xs =>
        obtain ⟨a, vs, rfl, hs2, rr⟩ := seqOf_rel rs ry e
        obtain ⟨z1, z2⟩ := fin xs vs e rr
        rcases hs2 with hs2 | hs2
        · exact .inr ⟨a, vs, rfl, hs2, z1, z2⟩
        · exact .inl ⟨a, vs, rfl, hs2.sq, z1, z2⟩
    · obtain ⟨z1, z2⟩ := fin ds vs rfl rr
      exact .inl ⟨T, vs, rfl, hT, z1, z2⟩
end

mutual
theorem put_length : ∀ {t : Tg} {d : D} {S : Sto} {e e' : Ev}, Tg.put t d S e = some e' → e'.length = e.length
  | .n i, d, S, e, e', h => by
    unfold Tg.put at h
    split at h
    · cases h; simp
    · cases h
  | .tu ts, d, S, e, e', h => by
    unfold Tg.put at h
    split at h
    · split at h
      · exact puts_length h
      · cases h
    · cases h
theorem puts_length : ∀ {t : List Tg} {d : List D} {S : Sto} {e e' : Ev}, Tg.puts t d S e = some e' → e'.length = e.length
  | [], [], S, e, e', h => by cases h; rfl
  | t :: ts, d :: ds, S, e, e', h => by
    unfold Tg.puts at h
    split at h
    · rename_i e1 h1
      rw [puts_length h, put_length h1]
    · cases h
  | [], _ :: _, _, _, _, h => by cases h
  | _ :: _, [], _, _, _, h => by cases h
end
/-! ## comprehensions -/
section
variable {K : PySem.W.Frag} {mg : Str → Option Value} {H H1 H5 : Hp} {M M1 M5 : Pl} {S S5 : Sto} {Dd : Addr}
theorem ext_in (x : Ext H1 M1 H ⟨M.m, M1.r⟩) (hr : M.r = Dd :: M1.r) (hD : H1 Dd = none) (rs : RelS K H M S) : ExtW H1 M1 H M :=
  ⟨x.pre, fun a h => by rw [hr]; exact List.mem_cons_of_mem _ h, fun a h => by
    rw [hr] at h
    rcases List.mem_cons.mp h with rfl | h
    · exact .inr hD
    · exact .inl h, fun a o n _ h => x.keep a o n h, x.tups, x.frzs, fun a o h => by
      by_cases hm : a ∈ M1.m
      · obtain ⟨T, e⟩ := x.pre
        obtain ⟨u, hu, _⟩ := rs.tracked (a := a) (by show a ∈ M.m; rw [show M.m = M1.m ++ T from e]; exact List.mem_append_left _ hm)
        exact ⟨u, hu⟩
      · exact ⟨o, (x.keep a o hm h).1⟩⟩
theorem ext_step {o : HO} {acc : List V} (x : Ext H1 M1 H ⟨M.m, M1.r⟩) (hr : M.r = Dd :: M1.r) (hD : H1 Dd = none) (y : Ext H M H5 M5) (h5 : H5 Dd = some (.lst acc)) : Ext H1 M1 (upd H5 Dd o) ⟨M5.m, M1.r⟩ := by
  obtain ⟨T, e⟩ := x.pre
  obtain ⟨T', e'⟩ := y.pre
  refine ⟨⟨T ++ T', by show M5.m = _; rw [e', show M.m = M1.m ++ T from e, List.append_assoc]⟩, rfl, fun a u n h => ?_, fun a xs h => ?_, fun a u w h => ?_⟩
  · obtain ⟨h2, n2⟩ := x.keep a u n h
    obtain ⟨h3, n3⟩ := y.keep a u n2 h2
    exact ⟨by rw [upd_ne (ne_of_none h hD)]; exact h3, n3⟩
  · have h3 := y.tups _ _ (x.tups _ _ h)
    rw [upd_ne (show a ≠ Dd from fun z => by subst z; rw [h5] at h3; cases h3)]; exact h3
  · have h3 := y.frzs _ _ _ (x.frzs _ _ _ h)
    rw [upd_ne (show a ≠ Dd from fun z => by subst z; rw [h5] at h3; cases h3)]; exact h3
theorem ext_same (x : Ext H1 M1 H ⟨M.m, M1.r⟩) (hr : M.r = Dd :: M1.r) (y : Ext H M H5 M5) : Ext H1 M1 H5 ⟨M5.m, M1.r⟩ := by
  obtain ⟨T, e⟩ := x.pre
  obtain ⟨T', e'⟩ := y.pre
  refine ⟨⟨T ++ T', by show M5.m = _; rw [e', show M.m = M1.m ++ T from e, List.append_assoc]⟩, rfl, fun a u n h => ?_, fun a xs h => y.tups _ _ (x.tups _ _ h), fun a u w h => y.frzs _ _ _ (x.frzs _ _ _ h)⟩
  obtain ⟨h2, n2⟩ := x.keep a u n h
  exact y.keep a u n2 h2
mutual
theorem RelD.mv {m2 r2 : List Addr} (p : ∃ T, m2 = M.m ++ T) (x : ∀ a ∈ m2, a ∈ M.m ∨ a ∈ M.r) (y : ∀ a ∈ r2, a ∈ M.r) : ∀ {d : D} {v : V}, RelD K H M d v → RelD K H ⟨m2, r2⟩ d v
  | _, _, .non => .non
  | _, _, .bl b => .bl b
  | _, _, .int i => .int i
  | _, _, .str z => .str z
  | _, _, .tup h r => .tup h (RelDs.mv p x y r)
  | _, _, .lst h n q r => .lst h (fun z => (x _ z).elim n q) (fun z => q (y _ z)) (RelDs.mv p x y r)
  | _, _, .lstF h r => .lstF h (RelDs.mv p x y r)
  | _, _, .dctK h n q e r => .dctK h (fun z => (x _ z).elim n q) (fun z => q (y _ z)) e (RelDs.mv p x y r)
  | _, _, .ref h => .ref (by
    obtain ⟨T, e⟩ := p
    rw [e]
    obtain ⟨hl, _⟩ := List.getElem?_eq_some_iff.mp h
    rw [List.getElem?_append_left hl]; exact h)
theorem RelDs.mv {m2 r2 : List Addr} (p : ∃ T, m2 = M.m ++ T) (x : ∀ a ∈ m2, a ∈ M.m ∨ a ∈ M.r) (y : ∀ a ∈ r2, a ∈ M.r) : ∀ {ds : List D} {vs : List V}, RelDs K H M ds vs → RelDs K H ⟨m2, r2⟩ ds vs
  | _, _, .nil => .nil
  | _, _, .cons h r => .cons (RelD.mv p x y h) (RelDs.mv p x y r)
end
/-- what was reserved becomes a list of the store -/
theorem RelS.take {accD : List D} {acc : List V} {rr : List Addr} (rs : RelS K H M S) (hr : M.r = Dd :: rr) (nr : Dd ∉ rr) (h : H Dd = some (.lst acc)) (ra : RelDs K H M accD acc) : RelS K H ⟨M.m ++ [Dd], rr⟩ (S ++ [.lst accD]) := by
  have hn : Dd ∉ M.m := (rs.apart Dd (by rw [hr]; exact List.mem_cons_self ..)).1
  have p : ∃ T, M.m ++ [Dd] = M.m ++ T := ⟨_, rfl⟩
  have x : ∀ a ∈ M.m ++ [Dd], a ∈ M.m ∨ a ∈ M.r := fun a ha => by
    rcases List.mem_append.mp ha with z | z
    · exact .inl z
    · rw [List.mem_singleton.mp z, hr]; exact .inr (List.mem_cons_self ..)
  have y : ∀ a ∈ rr, a ∈ M.r := fun a ha => by rw [hr]; exact List.mem_cons_of_mem _ ha
  refine ⟨by simp [rs.len], ?_, fun a ha => ⟨fun z => ?_, (rs.apart a (y a ha)).2⟩, fun l a m h1 h2 => ?_⟩
  · rw [List.nodup_append]
    exact ⟨rs.nd, by simp, fun a ha b hb => by simp at hb; subst hb; exact fun e => hn (e ▸ ha)⟩
  · rcases List.mem_append.mp z with z | z
    · exact (rs.apart a (y a ha)).1 z
    · rw [List.mem_singleton.mp z] at ha; exact nr ha
  · have mv : ∀ {m : MO} {o : HO}, RelM K H M m o → RelM K H ⟨M.m ++ [Dd], rr⟩ m o := by
      intro m o q
      cases m with
      | lst xs => obtain ⟨vs, e, q⟩ := q; exact ⟨vs, e, q.mv p x y⟩
      | dct ks ds => obtain ⟨kvs, e, e2, q⟩ := q; exact ⟨kvs, e, e2, q.mv p x y⟩
    rcases Nat.lt_trichotomy l M.m.length with hl | hl | hl
    · rw [List.getElem?_append_left hl] at h1
      rw [List.getElem?_append_left (by rw [← rs.len]; exact hl)] at h2
      obtain ⟨u, hu, z⟩ := rs.at_ l a m h1 h2
      exact ⟨u, hu, mv z⟩
    · subst hl
      rw [List.getElem?_append_right (Nat.le_refl _)] at h1
      rw [List.getElem?_append_right (by rw [rs.len]; exact Nat.le_refl _), rs.len] at h2
      simp at h1 h2
      subst h1 h2
      exact ⟨.lst acc, h, acc, rfl, ra.mv p x y⟩
    · rw [List.getElem?_eq_none (by simp; omega)] at h1; cases h1
/-- the new list, at the end -/
theorem mkAt {bx : Bool} {accD : List D} {acc : List V} {Q : VK} {E : XK} (ob : WPE K mg H1 M1 (mkL bx accD S) Q E) (rs1 : RelS K H1 M1 S5) (x : Ext H1 M1 H ⟨M.m, M1.r⟩) (hr : M.r = Dd :: M1.r) (hD : H1 Dd = none) (h : H Dd = some (.lst acc)) (rs : RelS K H M S)
    (ra : RelDs K H M accD acc) : Q (.ref Dd) H := by
  have hn : Dd ∉ M.m := (rs.apart Dd (by rw [hr]; exact List.mem_cons_self ..)).1
  have sub : ∀ a ∈ M1.r, a ∈ M.r := fun a ha => by rw [hr]; exact List.mem_cons_of_mem _ ha
  have nr : Dd ∉ M1.r := fun z => by obtain ⟨_, u, e⟩ := rs1.apart Dd z; rw [hD] at e; cases e
  unfold mkL at ob
  split at ob
  · split at ob
    · refine ob (.ref Dd) H ⟨M.m ++ [Dd], M1.r⟩ ?_ (rs.take hr nr h ra) (.ref ?_)
      · obtain ⟨T, e⟩ := x.pre
        refine ⟨⟨T ++ [Dd], by show M.m ++ [Dd] = _; rw [show M.m = M1.m ++ T from e, List.append_assoc]⟩, rfl, fun a u n h1 => ?_, x.tups, x.frzs⟩
        obtain ⟨h2, n2⟩ := x.keep a u n h1
        refine ⟨h2, fun z => ?_⟩
        rcases List.mem_append.mp z with z | z
        · exact n2 z
        · rw [List.mem_singleton.mp z, hD] at h1; cases h1
      · show (M.m ++ [Dd])[S.length]? = some Dd
        rw [List.getElem?_append_right (by rw [rs.len]; exact Nat.le_refl _), rs.len]
        simp
    · exact ob (.ref Dd) H ⟨M.m, M1.r⟩ x (rs.unres sub) (.lst (.inl h) hn nr (ra.unres sub))
  · exact ob.elim
end
section
variable {K : PySem.W.Frag} {mg : Str → Option Value}
theorem RelE.monoW {H H' : Hp} {M M' : Pl} {e : Ev} {σ : L2.St} (x : ExtW H M H' M') (r : RelE K H M e σ) : RelE K H' M' e σ := ⟨r.1, fun i d h => let ⟨v, h1, h2⟩ := r.2 i d h; ⟨v, h1, h2.monoW x⟩⟩
theorem RelE.none {H : Hp} {M : Pl} {e : Ev} {σ : L2.St} (r : RelE K H M e σ) (i : Nat) : RelE K H M (e.set i none) (σ.set i none) := by
  refine ⟨by simp [r.1], fun j d' h => ?_⟩
  by_cases hj : j = i
  · subst hj
    by_cases hl : j < e.length
    · rw [List.getElem?_set_self hl] at h; cases h
    · rw [List.getElem?_eq_none (by simp; omega)] at h; cases h
  · rw [List.getElem?_set_ne (Ne.symm hj)] at h
    obtain ⟨u, h1, h2⟩ := r.2 j d' h
    exact ⟨u, by rw [List.getElem?_set_ne (Ne.symm hj)]; exact h1, h2⟩
theorem RelE.wipe {H : Hp} {M : Pl} {e : Ev} {σ : L2.St} (r : RelE K H M e σ) : ∀ vs : List Nat, RelE K H M (wipeE e vs) (L2.wipe σ vs)
  | [] => r
  | v :: vs => (RelE.wipe r vs).none v
theorem wipe_get (σ : L2.St) : ∀ (vs : List Nat) (j : Nat), (L2.wipe σ vs)[j]? = if j ∈ vs ∧ j < σ.length then some none else σ[j]?
  | [], j => by simp [L2.wipe]
  | v :: vs, j => by
    unfold L2.wipe
    by_cases hj : j = v
    · subst hj
      by_cases hl : j < σ.length
      · rw [List.getElem?_set_self (by rw [wipe_length]; exact hl)]
        simp [hl]
      · rw [List.getElem?_eq_none (by rw [List.length_set, wipe_length]; omega), if_neg (fun z => hl z.2), List.getElem?_eq_none (by omega)]
    · rw [List.getElem?_set_ne (Ne.symm hj), wipe_get σ vs j]
      simp [hj]
/-- a store at the block's own names -/
theorem wipe_same {σ σ2 : L2.St} {vs sl : List Nat} (hl : σ2.length = σ.length) (h : ∀ j, j ∉ sl → σ2[j]? = (L2.wipe σ vs)[j]?) (hs : ∀ j ∈ sl, j ∈ vs) : L2.wipe σ2 vs = L2.wipe σ vs := by
  apply List.ext_getElem?
  intro j
  rw [wipe_get, wipe_get, hl]
  by_cases hj : j ∈ vs ∧ j < σ.length
  · rw [if_pos hj, if_pos hj]
  · rw [if_neg hj, if_neg hj]
    by_cases hsl : j ∈ sl
    · have : ¬ j < σ.length := fun z => hj ⟨hs j hsl, z⟩
      rw [List.getElem?_eq_none (by omega), List.getElem?_eq_none (by omega)]
    · rw [h j hsl, wipe_get, if_neg hj]
/-- nothing is let out -/
abbrev W0 : WX := fun _ _ _ _ => False
theorem lc_ok {b bx : Bool} {vI : Ev → Sto → R Src} {tg : Tg} {own : List Nat} {t : Ev → Sto → R Bool} {elt : Ev → Sto → R D} {W : WX} {σ : L2.St} {H : Hp} {M : Pl} {env : Ev} {S : Sto} {Q : VK} (hsl : ∀ j ∈ tg.slots, j ∈ own)
    (re : RelE K H M env σ) (rs : RelS K H M S)
    (h : WPE K mg H M ((vI env S).bind fun src S1 => (compLoop tg own src env t elt src.xs [] S1).bind fun acc S2 => mkL bx acc S2) Q (fun c d H' => W c d σ H')) :
    tLc (tI K mg b vI W) (gT K tg b) (tT K mg t W0) (tE K mg elt W0) own σ H Q := by
  refine ⟨M, env, S, re, rs, ?_⟩
  cases e1 : vI env S with
  | bad => rw [e1] at h; exact h.elim
  | exc z S' => rw [e1] at h; exact h
  | ok src S1 =>
    rw [e1] at h
    intro J H1 M1 x1 rs1 it Dd hD
    replace h := WPE.ext x1 h
    simp only [R.bind_ok] at h
    refine ⟨fun i m H => ∃ M S accD acc, M.r = Dd :: M1.r ∧ H Dd = some (.lst acc) ∧ RelS K H M S ∧ RelDs K H M accD acc ∧ Ext H1 M1 H ⟨M.m, M1.r⟩ ∧ m = src.xs.length - i ∧ i ≤ src.xs.length ∧
      WPE K mg H1 M1 ((compLoop tg own src env t elt (src.xs.drop i) accD S).bind fun acc S2 => mkL bx acc S2) Q (fun c d H' => W c d σ H'), ⟨src.xs.length, ⟨M1.m, Dd :: M1.r⟩, S1, [], [], rfl, upd_same, rs1.reserve hD, .nil, Ext.new hD, rfl, Nat.zero_le _, h⟩, ?_⟩
    rintro i m H ⟨M, S, accD, acc, hr, hA, rs, ra, x, rfl, hi, ob⟩
    have xw : ExtW H1 M1 H M := ext_in x hr hD rs
    have hDn : Dd ∉ M.m := (rs.apart Dd (by rw [hr]; exact List.mem_cons_self ..)).1
    by_cases hlt : i < src.xs.length
    · rw [List.drop_eq_getElem_cons hlt] at ob
      unfold compLoop at ob
      split at ob
      rotate_left
      · exact ob.elim
      · rename_i hst
        cases e2 : Tg.put tg src.xs[i] S (wipeE env own) with
        | none => rw [e2] at ob; exact ob.elim
        | some en1 =>
          rw [e2] at ob
          dsimp only at ob
          obtain ⟨go, yd⟩ := it.go H M S i src.xs[i] xw rs hst (List.getElem?_eq_getElem hlt)
          refine .inr ⟨go, _, fun H' hw => ⟨src.xs.length - (i + 1), by omega, hw⟩, fun y H3 hy => ?_⟩
          obtain ⟨x3, rs3, ry⟩ := yd y H3 hy
          have re3 : RelE K H3 M (wipeE env own) (L2.wipe σ own) := RelE.mono x3 (((re.mono x1).monoW xw).wipe own)
          refine ⟨M, wipeE env own, S, src.xs[i], en1, re3, rs3, ry, e2, fun σ2 re2 hj => ⟨wipe_same (by rw [re2.1, ← wipe_length σ own, re3.1]; exact (put_length e2)) hj hsl, ?_⟩⟩
          refine ⟨M, en1, S, re2, rs3, ?_⟩
          cases e3 : t en1 S with
          | bad => rw [e3] at ob; exact ob.elim
          | exc z S' => rw [e3] at ob; exact ob.elim
          | ok k S2 =>
            rw [e3] at ob
            intro H4 M4 x4 rs4
            have x34 := x3.trans x4
            cases k with
            | false =>
              simp only [R.nox_ok, R.bind_ok] at ob
              refine ⟨M4, S2, accD, acc, x34.res.trans hr, (x34.keep _ _ hDn hA).1, rs4, ra.mono x34, ext_same x hr x34, rfl, hlt, ob⟩
            | true =>
              simp only [R.nox_ok, R.bind_ok, if_true] at ob
              refine ⟨M4, en1, S2, re2.mono x4, rs4, ?_⟩
              cases e4 : elt en1 S2 with
              | bad => rw [e4] at ob; exact ob.elim
              | exc z S' => rw [e4] at ob; exact ob.elim
              | ok d S3 =>
                rw [e4] at ob
                intro v H5 M5 x5 rs5 rv
                have x35 := x34.trans x5
                simp only [R.nox_ok, R.bind_ok] at ob
                split at ob
                rotate_left
                · exact ob.elim
                · rename_i hz
                  have hA5 := (x35.keep _ _ hDn hA).1
                  have ra5 := ra.mono x35
                  have hr5 : M5.r = Dd :: M1.r := x35.res.trans hr
                  have hDr : Dd ∈ M5.r := by rw [hr5]; exact List.mem_cons_self ..
                  have xr : ExtW H5 M5 (upd H5 Dd (.lst (acc ++ [v]))) M5 := ExtW.rewrite hA5 hDr
                  refine ⟨acc, hA5, by rw [← ra.length]; exact hz, M5, S3, accD ++ [d], acc ++ [v], hr5, upd_same, rs5.rewrite hA5 hDr, (ra5.append (.cons rv .nil)).monoW xr, ext_step x hr hD x35 hA5, rfl, hlt, ob⟩
    · have hi' : i = src.xs.length := by omega
      subst hi'
      rw [List.drop_length] at ob
      unfold compLoop at ob
      split at ob
      · rename_i hst
        exact .inl ⟨it.stop H M S xw rs hst, mkAt ob rs1 x hr hD hA rs ra⟩
      · exact ob.elim
end
end Pw

set_option Elab.async false
set_option linter.all false
set_option maxRecDepth 100000
set_option maxHeartbeats 1000000
namespace Pw
open PySem PySem.Spec PyProof.Rows L2
section
variable {X : Cx} {pos : Pos}
def notSet : Expr → Bool
  | .Set _ _ _ => false
  | _ => true
theorem fold_id {e : Expr} {env : Env} (h : notSet e = true) (x : Value) : foldedSetIterable e env x = pure x := by
  cases e <;> first | rfl | cases h
theorem pts_of {ifs : List Expr} {t : Ev → Sto → R Bool} {W : WX} (h : (ifs = [] ∧ t = fun _ S => .ok true S) ∨ ∃ c, ifs = [c] ∧ PT X c (tT X.K X.mg t W)) : PTs X ifs (tT X.K X.mg t W) := by
  rcases h with ⟨rfl, rfl⟩ | ⟨c, rfl, h⟩
  · exact ⟨fun pins s σ H Q I ⟨M, env, S, re, rs, h⟩ => pts_nil.run pins s σ H Q I (h H M (Ext.refl _ _) rs)⟩
  · exact pts_one h
theorem de_comp {elt tg iter : Expr} {ifs : List Expr} {scope : Scope} {own : List (Str × Nat)} {b bx : Bool} {tgI : Tg} {vI : Ev → Sto → R Src} {t : Ev → Sto → R Bool} {v : Ev → Sto → R D}
    (hc : X.calm = true) (hN : X.N.Nodup) (hi : DI X tg iter b vI) (ok : BlkOk X.N X.env.scope scope own)
    (hg : ∀ (s : Shared) (H : Hp) (C : Addr) (cl : List (Str × Addr)) (fp : List Addr), PG (X.blk s H scope (compEnvC scope cl C X.env) fp) tg (gT X.K tgI b)) (ht : ∀ (s : Shared) (H : Hp) (C : Addr) (cl : List (Str × Addr)) (fp : List Addr), PTs (X.blk s H scope (compEnvC scope cl C X.env) fp) ifs (tT X.K X.mg t W0))
    (he : ∀ (s : Shared) (H : Hp) (C : Addr) (cl : List (Str × Addr)) (fp : List Addr), PE (X.blk s H scope (compEnvC scope cl C X.env) fp) elt (tE X.K X.mg v W0)) (hsl : ∀ j ∈ tgI.slots, j ∈ own.map (·.2)) (hs : notSet iter = true) :
    DE X (.ListComp elt [⟨tg, iter, ifs, 0⟩] scope pos) (fun e S => (vI e S).bind fun src S1 => (compLoop tgI (own.map (·.2)) src e t v src.xs [] S1).bind fun acc S2 => mkL bx acc S2) := by
  intro W tk
  exact ⟨_, pe_lc hc hN (hi W tk) ok hg ht he (fold_id hs), fun σ H M env S Q re rs h => lc_ok hsl re rs h⟩
end

/-! ## statements -/
def WPS (K : PySem.W.Frag) (mg : Str → Option Value) (H : Hp) (M : Pl) (r : SR) (D : Ends) (W : WX) : Prop :=
  match r with
  | .nx e S' => ∀ σ' H' M', Ext H M H' M' → RelS K H' M' S' → RelE K H' M' e σ' → D.nx σ' H'
  | .ret d S' => ∀ v H' M', Ext H M H' M' → RelS K H' M' S' → RelD K H' M' d v → D.rt v H'
  | .exc x e S' => ∀ c dd σ' H' M', Ext H M H' M' → RelS K H' M' S' → RelE K H' M' e σ' → RelX K mg H' M' x c dd → W c dd σ' H'
  | .bad => False
def tS (K : PySem.W.Frag) (mg : Str → Option Value) (f : Ev → Sto → SR) (W : WX) : TS := fun D σ H => ∃ M env S, RelE K H M env σ ∧ RelS K H M S ∧ WPS K mg H M (f env S) D W
def DS (X : Cx) (st : Stmt) (f : Ev → Sto → SR) : Prop := ∀ W, Takes X W → PS X st (tS X.K X.mg f W)
def DSs (X : Cx) (st : List Stmt) (f : Ev → Sto → SR) : Prop := ∀ W, Takes X W → PSs X st (tS X.K X.mg f W)
section
variable {K : PySem.W.Frag} {mg : Str → Option Value} {H H' : Hp} {M M' : Pl} {S : Sto} {D D' : Ends} {W : WX} {env : Ev} {σ : L2.St}
theorem WPS.ext {r : SR} (x : Ext H M H' M') (h : WPS K mg H M r D W) : WPS K mg H' M' r D W := by
  cases r with
  | nx e S' => exact fun σ' H2 M2 y => h σ' H2 M2 (x.trans y)
  | ret d S' => exact fun v H2 M2 y => h v H2 M2 (x.trans y)
  | exc z e S' => exact fun c dd σ' H2 M2 y => h c dd σ' H2 M2 (x.trans y)
  | bad => exact h
theorem WPS.st {r : R Pw.D} {f : Pw.D → Sto → SR} {Q : VK} (h : WPS K mg H M (r.st env f) D W) (re : RelE K H M env σ)
    (n : ∀ d S1 v H1 M1, Ext H M H1 M1 → RelS K H1 M1 S1 → RelD K H1 M1 d v → RelE K H1 M1 env σ → WPS K mg H1 M1 (f d S1) D W → Q v H1) : WPE K mg H M r Q (fun c d H' => W c d σ H') := by
  cases r with
  | ok d S1 => exact fun v H1 M1 x rs r => n d S1 v H1 M1 x rs r (re.mono x) (WPS.ext x h)
  | exc z S1 => exact fun c dd H1 M1 x rs rx => h c dd σ H1 M1 x rs (re.mono x) rx
  | bad => exact h
theorem WPS.stT {r : R Bool} {f : Bool → Sto → SR} {Q : Bool → Hp → Prop} (h : WPS K mg H M (r.st env f) D W) (re : RelE K H M env σ)
    (n : ∀ d S1 H1 M1, Ext H M H1 M1 → RelS K H1 M1 S1 → RelE K H1 M1 env σ → WPS K mg H1 M1 (f d S1) D W → Q d H1) : WPT K mg H M r Q (fun c d H' => W c d σ H') := by
  cases r with
  | ok d S1 => exact fun H1 M1 x rs => n d S1 H1 M1 x rs (re.mono x) (WPS.ext x h)
  | exc z S1 => exact fun c dd H1 M1 x rs rx => h c dd σ H1 M1 x rs (re.mono x) rx
  | bad => exact h
theorem WPS.stA {r : R (List Pw.D)} {f : List Pw.D → Sto → SR} {Q : List V → Hp → Prop} (h : WPS K mg H M (r.st env f) D W) (re : RelE K H M env σ)
    (n : ∀ d S1 v H1 M1, Ext H M H1 M1 → RelS K H1 M1 S1 → RelDs K H1 M1 d v → RelE K H1 M1 env σ → WPS K mg H1 M1 (f d S1) D W → Q v H1) : WPA K mg H M r Q (fun c d H' => W c d σ H') := by
  cases r with
  | ok d S1 => exact fun v H1 M1 x rs r => n d S1 v H1 M1 x rs r (re.mono x) (WPS.ext x h)
  | exc z S1 => exact fun c dd H1 M1 x rs rx => h c dd σ H1 M1 x rs (re.mono x) rx
  | bad => exact h
theorem WPS.nx {e : Ev} (h : WPS K mg H M (.nx e S) D W) (rs : RelS K H M S) (re : RelE K H M e σ) : D.nx σ H := h σ H M (Ext.refl _ _) rs re
theorem WPS.then_ {r : SR} {f : Ev → Sto → SR} (h : WPS K mg H M (r.then_ f) D W) : WPS K mg H M r { D with nx := tS K mg f W D } W := by
  cases r with
  | nx e S1 => exact fun σ' H1 M1 x rs re => ⟨M1, e, S1, re, rs, WPS.ext x h⟩
  | ret d S1 => exact h
  | exc z e S1 => exact h
  | bad => exact h
end
section
variable {X : Cx} {pos : Pos} {e : Expr} {v : Ev → Sto → R D}
theorem PS_imp {st : Stmt} {t t' : TS} (h : PS X st t) (k : ∀ D σ H, t' D σ H → t D σ H) : PS X st t' := ⟨fun pins s σ H D I q => h.run pins s σ H D I (k D σ H q)⟩
theorem PSs_imp {st : List Stmt} {t t' : TS} (h : PSs X st t) (k : ∀ D σ H, t' D σ H → t D σ H) : PSs X st t' := ⟨fun pins s σ H D I q => h.run pins s σ H D I (k D σ H q)⟩
theorem dss_nil : DSs X [] (fun e S => .nx e S) := fun W tk => PSs_imp pss_nil fun D σ H ⟨M, env, S, re, rs, h⟩ => h.nx rs re
theorem dss_cons {s : Stmt} {ss : List Stmt} {f g : Ev → Sto → SR} (h1 : DS X s f) (h2 : DSs X ss g) : DSs X (s :: ss) (fun e S => (f e S).then_ g) :=
  fun W tk => PSs_imp (pss_cons (h1 W tk) (h2 W tk)) fun D σ H ⟨M, env, S, re, rs, h⟩ => ⟨M, env, S, re, rs, h.then_⟩
def isComp : Expr → Bool
  | .ListComp .. => true
  | .SetComp .. => true
  | .DictComp .. => true
  | _ => false
theorem sw_nc {l : Nat} {env : Env} {tg : Option Expr} (h : isComp e = false) : swapsWith e tg l env = pure false := by
  cases e <;> first | rfl | cases h
theorem ds_expr (he : DE X e v) (hs : isComp e = false) : DS X (.Expr e pos) (fun env S => (v env S).st env fun _ S1 => .nx env S1) := by
  intro W tk
  obtain ⟨t, p, q⟩ := he W tk
  exact PS_imp (ps_expr p (sw_nc hs)) fun D σ H ⟨M, env, S, re, rs, h⟩ => q σ H M env S _ re rs (WPS.st h re fun d S1 u H1 M1 x rs1 rd re1 h1 => h1.nx rs1 re1)
theorem ds_ret (he : DE X e v) : DS X (.Return (some e) pos) (fun env S => (v env S).st env fun x S1 => .ret x S1) := by
  intro W tk
  obtain ⟨t, p, q⟩ := he W tk
  exact PS_imp (ps_ret p) fun D σ H ⟨M, env, S, re, rs, h⟩ => q σ H M env S _ re rs (WPS.st h re fun d S1 u H1 M1 x rs1 rd re1 h1 => h1 u H1 M1 (Ext.refl _ _) rs1 rd)
theorem ds_ret0 : DS X (.Return none pos) (fun _ S => .ret .non S) := fun W tk => PS_imp ps_retN fun D σ H ⟨M, env, S, re, rs, h⟩ => h .non H M (Ext.refl _ _) rs .non
theorem ds_pass : DS X (.Pass pos) (fun e S => .nx e S) := fun W tk => PS_imp ps_pass fun D σ H ⟨M, env, S, re, rs, h⟩ => h.nx rs re
theorem ds_if {a b : List Stmt} {t : Ev → Sto → R Bool} {f g : Ev → Sto → SR} (hc : DT X e t) (ha : DSs X a f) (hb : DSs X b g) : DS X (.If e a b pos) (fun env S => (t env S).st env fun k S1 => if k then f env S1 else g env S1) := by
  intro W tk
  obtain ⟨tc, p, q⟩ := hc W tk
  refine PS_imp (ps_if p (ha W tk) (hb W tk)) fun D σ H ⟨M, env, S, re, rs, h⟩ => q σ H M env S _ re rs (WPS.stT h re fun k S1 H1 M1 x rs1 re1 h1 => ?_)
  cases k with
  | true => exact ⟨M1, env, S1, re1, rs1, h1⟩
  | false => exact ⟨M1, env, S1, re1, rs1, h1⟩
theorem asg_core {i : Nat} {x : D} {u : V} {K : PySem.W.Frag} {mg : Str → Option Value} {H : Hp} {M : Pl} {S : Sto} {env : Ev} {σ : L2.St} {D : Ends} {W : WX} (h : WPS K mg H M (optS (Tg.put (.n i) x S env) fun e1 => .nx e1 S) D W) (rs : RelS K H M S) (re : RelE K H M env σ) (rx : RelD K H M x u) : D.nx (σ.set i (some u)) H := by
  unfold Tg.put at h
  split at h
  · exact h.nx rs (re.set i rx)
  · exact h.elim
/-- name = e; sw: whether the display's list is stored at once -/
theorem ds_set {i : Nat} {x : Str} {pos' : Pos} (hN : X.N.Nodup) (hi : X.N[i]? = some x) (hx : Loc X.env.scope x) (he : DE X e v) (hs : swapsWith e (some (.Name x pos')) pos.line X.env = pure false) (hf : X.fn x = true ∨ X.env.scope.names.lookup x = some .local) :
    DS X (.Assign [.Name x pos'] e pos) (fun env S => (v env S).st env fun d S1 => optS (Tg.put (.n i) d S1 env) fun e1 => .nx e1 S1) := by
  intro W tk
  obtain ⟨t, p, q⟩ := he W tk
  exact PS_imp (ps_set hN hi hx p hs hf) fun D σ H ⟨M, env, S, re, rs, h⟩ => q σ H M env S _ re rs (WPS.st h re fun d S1 u H1 M1 x rs1 rd re1 h1 => asg_core h1 rs1 re1 rd)
theorem ds_setLc {i : Nat} {y : Str} {py : Pos} {elt tg iter : Expr} {ifs : List Expr} {scope : Scope} {own : List (Str × Nat)} {p : Pos} {b bx : Bool} {tgI : Tg} {vI : Ev → Sto → R Src} {t : Ev → Sto → R Bool} {v : Ev → Sto → R D}
    (hc : X.calm = true) (hN : X.N.Nodup) (hy : X.N[i]? = some y) (hyl : X.env.scope.names.lookup y = some .local) (hsw : swapsWith (.ListComp elt [⟨tg, iter, ifs, 0⟩] scope p) (some (.Name y py)) pos.line X.env = pure true) (hi : DI X tg iter b vI) (ok : BlkOk X.N X.env.scope scope own)
    (hg : ∀ (s : Shared) (H : Hp) (C : Addr) (cl : List (Str × Addr)) (fp : List Addr), PG (X.blk s H scope (compEnvC scope cl C X.env) fp) tg (gT X.K tgI b)) (ht : ∀ (s : Shared) (H : Hp) (C : Addr) (cl : List (Str × Addr)) (fp : List Addr), PTs (X.blk s H scope (compEnvC scope cl C X.env) fp) ifs (tT X.K X.mg t W0))
    (he : ∀ (s : Shared) (H : Hp) (C : Addr) (cl : List (Str × Addr)) (fp : List Addr), PE (X.blk s H scope (compEnvC scope cl C X.env) fp) elt (tE X.K X.mg v W0)) (hsl : ∀ j ∈ tgI.slots, j ∈ own.map (·.2)) (hs : notSet iter = true) :
    DS X (.Assign [.Name y py] (.ListComp elt [⟨tg, iter, ifs, 0⟩] scope p) pos) (fun env S => ((vI env S).bind fun src S1 => (compLoop tgI (own.map (·.2)) src env t v src.xs [] S1).bind fun acc S2 => mkL bx acc S2).st env fun d S1 => optS (Tg.put (.n i) d S1 env) fun e1 => .nx e1 S1) := by
  intro W tk
  exact PS_imp (ps_setLc hc hN hy hyl hsw (hi W tk) ok hg ht he (fold_id hs)) fun D σ H ⟨M, env, S, re, rs, h⟩ => lc_ok hsl re rs (WPS.st h re fun d S1 u H1 M1 x rs1 rd re1 h1 => asg_core h1 rs1 re1 rd)
/-- a target that is a tuple -/
theorem ds_asg {tg : Expr} {t : Tg} (he : DE X e v) (hg : PG X tg (gT X.K t false)) (hs : swapsWithSole [tg] e pos.line X.env = pure false) (hw : swappedStores [tg] e X.env = pure none) (hn : noStar tg = true) :
    DS X (.Assign [tg] e pos) (fun env S => (v env S).st env fun d S1 => optS (Tg.put t d S1 env) fun e1 => .nx e1 S1) := by
  intro W tk
  obtain ⟨te, p, q⟩ := he W tk
  refine PS_imp (ps_asg p hg hs hw (by rw [assignEach_cons hn]; rfl)) fun D σ H ⟨M, env, S, re, rs, h⟩ => q σ H M env S _ re rs (WPS.st h re fun d S1 u H1 M1 x rs1 rd re1 h1 => ?_)
  cases e1 : Tg.put t d S1 env with
  | none => rw [e1] at h1; exact h1.elim
  | some env' =>
    rw [e1] at h1
    exact ⟨M1, env, S1, d, env', re1, rs1, .inl rd, e1, fun σ' re' _ => h1.nx rs1 re'⟩
/-- a, b = x, y -/
theorem ds_par {i j : Nat} {x y : Str} {a b : Expr} {va : Ev → Sto → R (List D)} {px py pt : Pos} {kt k2 pt2} (hc : X.calm = true) (hN : X.N.Nodup) (hi : X.N[i]? = some x) (hj : X.N[j]? = some y) (hij : i ≠ j)
    (hx : X.env.scope.names.lookup x = some .local) (hy : X.env.scope.names.lookup y = some .local) (ha : DA X [a, b] va)
    (hw : swappedStores [.Tuple [.Name x px, .Name y py] kt pt] (.Tuple [a, b] k2 pt2) X.env = pure (some [x, y])) :
    DS X (.Assign [.Tuple [.Name x px, .Name y py] kt pt] (.Tuple [a, b] k2 pt2) pos) (fun env S => ((va env S).bind fun xs S1 => if xs.length ≤ sizeLine then .ok (.tup xs) S1 else .bad).st env fun d S1 => optS (Tg.put (.tu [.n i, .n j]) d S1 env) fun e1 => .nx e1 S1) := by
  intro W tk
  obtain ⟨te, p, q⟩ := ha W tk
  refine PS_imp (ps_par hc hN hi hj hij hx hy p hw rfl) fun D σ H ⟨M, env, S, re, rs, h⟩ => q σ H M env S _ re rs ?_
  have e0 : ((va env S).bind fun xs S1 => if xs.length ≤ sizeLine then R.ok (Pw.D.tup xs) S1 else R.bad).st env (fun d S1 => optS (Tg.put (.tu [.n i, .n j]) d S1 env) fun e1 => .nx e1 S1) = (va env S).st env fun xs S1 => if xs.length ≤ sizeLine then optS (Tg.put (.tu [.n i, .n j]) (Pw.D.tup xs) S1 env) fun e1 => .nx e1 S1 else .bad := by
    cases va env S with
    | ok xs S1 =>
      show (if xs.length ≤ sizeLine then R.ok (Pw.D.tup xs) S1 else .bad).st env _ = if xs.length ≤ sizeLine then _ else _
      split <;> rfl
    | exc _ _ => rfl
    | bad => rfl
  replace h : WPS X.K X.mg H M (((va env S).bind fun xs S1 => if xs.length ≤ sizeLine then R.ok (Pw.D.tup xs) S1 else R.bad).st env (fun d S1 => optS (Tg.put (.tu [.n i, .n j]) d S1 env) fun e1 => .nx e1 S1)) D W := h
  rw [e0] at h
  refine WPS.stA h re fun ds S1 us H1 M1 x1 rs1 rd re1 h1 => ?_
  split at h1
  · match ds, rd, h1 with
    | [d1, d2], rd, h1 =>
      obtain ⟨u1, u2, rfl, r1, r2⟩ := rd.two
      refine ⟨u1, u2, rfl, ?_⟩
      by_cases hl1 : i < env.length
      · by_cases hl2 : j < env.length
        · have : Tg.put (.tu [.n i, .n j]) (.tup [d1, d2]) S1 env = some ((env.set i (some d1)).set j (some d2)) := by
            simp [Tg.put, Tg.puts, seqOf, hl1, hl2]
          rw [this] at h1
          exact h1.nx rs1 ((re1.set i r1).set j r2)
        · have : Tg.put (.tu [.n i, .n j]) (.tup [d1, d2]) S1 env = none := by
            simp [Tg.put, Tg.puts, seqOf, hl1, hl2]
          rw [this] at h1; exact h1.elim
      · have : Tg.put (.tu [.n i, .n j]) (.tup [d1, d2]) S1 env = none := by
          simp [Tg.put, Tg.puts, seqOf, hl1]
        rw [this] at h1; exact h1.elim
    | [], _, h1 => simp [Tg.put, Tg.puts, seqOf, optS] at h1; exact h1.elim
    | [_], _, h1 => simp [Tg.put, Tg.puts, seqOf, optS] at h1; exact h1.elim
    | _ :: _ :: _ :: _, _, h1 => simp [Tg.put, Tg.puts, seqOf, optS] at h1; exact h1.elim
  · exact h1.elim
end
end Pw

set_option Elab.async false
set_option linter.all false
set_option maxRecDepth 100000
set_option maxHeartbeats 1000000
namespace Pw
open PySem PySem.Spec PyProof.Rows L2
section
variable {X : Cx} {pos : Pos} {e : Expr} {v : Ev → Sto → R D}
/-! ### o[i] = v -/
def rSetD : TSet := fun o i v H Q => ∃ a H', o = .ref a ∧ DPut H a i v H' ∧ Q H'
theorem set_dict (hu : X.A.units + 64 < cLine) : PSet X rSetD := by
  intro pins s σ H o i v ov iv u Q I ro ri rv h
  obtain ⟨a, H', rfl, g, q⟩ := h
  cases ro
  exact d_setItem (by omega) I g ri rv fun s' I' => ⟨H', I', q⟩
def rSetA : TSet := fun o i v H Q => rSetL o i v H Q ∨ rSetD o i v H Q
theorem set_all (hu : X.A.units + 64 < cLine) : PSet X rSetA := by
  intro pins s σ H o i v ov iv u Q I ro ri rv h
  rcases h with h | h
  · exact set_list pins s σ H o i v ov iv u Q I ro ri rv h
  · exact set_dict hu pins s σ H o i v ov iv u Q I ro ri rv h
theorem putK_ok {K : PySem.W.Frag} {H : Hp} {M : Pl} {k : D} {kk : Key} {d : D} {v : V} (hk : dkey k = some kk) (rv : RelD K H M d v) : ∀ {kvs : List (Key × V)} {ds : List D}, RelDs K H M ds (kvs.map (·.2)) →
    (dput k d ((kvs.map (·.1)).map kD) ds).1 = ((putK kvs kk v).map (·.1)).map kD ∧ RelDs K H M (dput k d ((kvs.map (·.1)).map kD) ds).2 ((putK kvs kk v).map (·.2)) := by
  intro kvs ds rd
  have any_eq : (((kvs.map (·.1)).map kD).any fun x => keyEq x k) = kvs.any fun kv => decide (kv.1 = kk) := by
    rw [List.map_map, List.any_map]
    congr 1
    funext kv
    exact keyEq_iff kv.1 k hk
  unfold dput putK
  rw [any_eq]
  by_cases h : (kvs.any fun kv => decide (kv.1 = kk)) = true
  · rw [if_pos h, if_pos h]
    refine ⟨?_, ?_⟩
    · rw [List.map_map, List.map_map, List.map_map]
      apply List.map_congr_left
      intro kv _
      show kD kv.1 = kD (if kv.1 = kk then (kv.1, v) else kv).1
      split <;> rfl
    · clear h any_eq
      induction kvs generalizing ds with
      | nil => cases rd; exact .nil
      | cons kv r ih =>
        cases rd with
        | cons r1 r2 =>
          refine .cons ?_ (ih r2)
          show RelD K H M (if keyEq (kD kv.1) k = true then d else _) (if kv.1 = kk then (kv.1, v) else kv).2
          rw [keyEq_iff kv.1 k hk]
          by_cases z : kv.1 = kk
          · rw [if_pos (by simpa using z), if_pos z]; exact rv
          · rw [if_neg (by simpa using z), if_neg z]; exact r1
  · rw [if_neg h, if_neg h]
    refine ⟨?_, ?_⟩
    · rw [List.map_append, List.map_append]
      show _ = _ ++ [kD kk]
      rw [dkey_kD hk]
    · rw [List.map_append]
      exact rd.append (.cons rv .nil)
theorem set_ok {H : Hp} {M : Pl} {S S4 : Sto} {o i x : D} {vo vi vx : V} {Q : Hp → Prop} (rs : RelS X.K H M S) (ro : RelD X.K H M o vo) (ri : RelD X.K H M i vi) (rx : RelD X.K H M x vx) (h : setItemD o i x S = some S4)
    (q : ∀ H', Ext H M H' M → RelS X.K H' M S4 → Q H') : rSetA vo vi vx H Q := by
  unfold setItemD at h
  cases o with
  | ref l =>
    simp only at h
    cases e : S[l]? with
    | none => rw [e] at h; cases h
    | some m =>
      rw [e] at h
      cases m with
      | lst xs =>
        simp only at h
        cases i with
        | int k =>
          simp only at h
          cases e2 : ixN xs.length k with
          | none => rw [e2] at h; cases h
          | some j =>
            rw [e2] at h
            cases h
            obtain ⟨a, vs, rfl, hm, ha, rr⟩ := refL rs ro e
            refine .inl ⟨a, vs, k, j, rfl, ri.int_, ha, by rw [← rr.length]; exact e2, q _ (Ext.write rs hm) (rs.write hm ⟨_, rfl, RelDs.set rx j rr⟩)⟩
        | _ => cases h
      | dct ks ds =>
        simp only at h
        split at h
        · rename_i hc
          rw [Bool.and_eq_true] at hc
          cases h
          obtain ⟨kk, hk⟩ := keyFits_key hc.1
          obtain ⟨a, kvs, rfl, hm, ha, hks, rr⟩ := refD rs ro e
          subst hks
          have hx := relD_key hk ri
          subst hx
          have hl : kvs.length < sizeLine := by
            have := of_decide_eq_true hc.2
            rw [List.length_map, List.length_map] at this
            exact this
          obtain ⟨p1, p2⟩ := putK_ok hk rx rr
          exact .inr ⟨a, _, rfl, DPut.k ha hl, q _ (Ext.write rs hm) (rs.write hm ⟨_, rfl, p1, p2⟩)⟩
        · cases h
  | _ => cases h
theorem ds_sub {o i : Expr} {vo vi : Ev → Sto → R D} {spos : Pos} (hu : X.A.units + 64 < cLine) (he : DE X e v) (ho : DE X o vo) (hi : DE X i vi) (hs : isComp e = false)
    (ha : ∀ v, assign (.Subscript o i spos) X.env v = (do
      let ov ← holding [v] (eval o X.env)
      let iv ← holding [v, ov] (eval i X.env)
      standAt spos
      holding [v, ov, iv] (setItem ov iv v)
      release [v, ov, iv] [])) :
    DS X (.Assign [.Subscript o i spos] e pos) (fun env S => (v env S).st env fun x S1 => (vo env S1).st env fun ov S2 => (vi env S2).st env fun iv S3 => match setItemD ov iv x S3 with
      | some S4 => .nx env S4
      | none => .bad) := by
  intro W tk
  obtain ⟨te, pe, qe⟩ := he W tk
  obtain ⟨to, po, qo⟩ := ho W tk
  obtain ⟨ti, pi, qi⟩ := hi W tk
  refine PS_imp (ps_asg pe (pg_sub po pi (set_all hu) ha) (show swapsWith e (some (.Subscript o i spos)) pos.line X.env = pure false from sw_nc hs) rfl rfl) fun D σ H ⟨M, env, S, re, rs, h⟩ => ?_
  refine qe σ H M env S _ re rs (WPS.st h re fun x S1 u H1 M1 x1 rs1 rx re1 h1 => ?_)
  refine qo σ H1 M1 env S1 _ re1 rs1 (WPS.st h1 re1 fun ov S2 vo H2 M2 x2 rs2 ro re2 h2 => ?_)
  refine qi σ H2 M2 env S2 _ re2 rs2 (WPS.st h2 re2 fun iv S3 vi H3 M3 x3 rs3 ri re3 h3 => ?_)
  cases e1 : setItemD ov iv x S3 with
  | none => rw [e1] at h3; exact h3.elim
  | some S4 =>
    rw [e1] at h3
    exact set_ok rs3 (ro.mono x3) ri ((rx.mono x2).mono x3) e1 fun H' x' rs' => (h3.ext x').nx rs' (re3.mono x')
/-! ### name op= e -/
def rIpA (K : PySem.W.Frag) : TIp := fun x y H Q => (∃ l b xs zs, x = .ref l ∧ y = .ref b ∧ H l = some (.lst xs) ∧ (SqL K H b zs ∨ SqT K H b zs) ∧ xs.length + zs.length ≤ sizeLine ∧ Q (.ref l) (upd H l (.lst (xs ++ zs)))) ∨
  (∃ i j, x = .int i ∧ y = .int j ∧ Q (.int (i + j)) H) ∨ (∃ i j, x = .str i ∧ y = .str j ∧ i.length + j.length ≤ sizeLine ∧ Q (.str (i ++ j)) H) ∨ rCatF K x y H Q
/-! ### loops -/
theorem ds_for {tg iter : Expr} {body : List Stmt} {t : Tg} {b : Bool} {vI : Ev → Sto → R Src} {f : Ev → Sto → SR} (hp : PassesOwn (model X.prog X.w) X.A X.env X.xe) (hc : X.calm = true) (hi : DI X tg iter b vI) (hg : PG X tg (gT X.K t b)) (hb : DSs X body f)
    (hs : notSet iter = true) :
    DS X (.For tg iter body [] pos) (fun env S => (vI env S).st env fun src S1 => forLoop t src f src.xs env S1) := by
  intro W tk
  refine PS_imp (ps_for hp hc (hi W tk) hg (hb W tk) (fold_id hs)) fun D σ H ⟨M, env, S, re, rs, h⟩ => ?_
  refine ⟨M, env, S, re, rs, ?_⟩
  replace h : WPS X.K X.mg H M ((vI env S).st env fun src S1 => forLoop t src f src.xs env S1) D W := h
  cases e1 : vI env S with
  | bad => rw [e1] at h; exact h.elim
  | exc z S' => rw [e1] at h; exact fun c dd H1 M1 x rs1 rx => h c dd σ H1 M1 x rs1 (re.mono x) rx
  | ok src S1 =>
    rw [e1] at h
    intro J H1 M1 x1 rs1 it
    replace h := WPS.ext x1 h
    refine ⟨fun i m σ H => ∃ M env S, RelE X.K H M env σ ∧ RelS X.K H M S ∧ ExtW H1 M1 H M ∧ m = src.xs.length - i ∧ i ≤ src.xs.length ∧ WPS X.K X.mg H M (forLoop t src f (src.xs.drop i) env S) D W,
      ⟨src.xs.length, M1, env, S1, re.mono x1, rs1, ExtW.refl _ _, rfl, Nat.zero_le _, h⟩, ?_⟩
    rintro i m σ H ⟨M, env, S, re, rs, xw, rfl, hi, ob⟩
    by_cases hlt : i < src.xs.length
    · rw [List.drop_eq_getElem_cons hlt] at ob
      unfold forLoop at ob
      split at ob
      rotate_left
      · exact ob.elim
      · rename_i hst
        cases e2 : Tg.put t src.xs[i] S env with
        | none => rw [e2] at ob; exact ob.elim
        | some en1 =>
          rw [e2] at ob
          obtain ⟨go, yd⟩ := it.go H M S i src.xs[i] xw rs hst (List.getElem?_eq_getElem hlt)
          refine .inr ⟨go, _, fun σ' H' hw => ⟨src.xs.length - (i + 1), by omega, hw⟩, fun y H3 hy => ?_⟩
          obtain ⟨x3, rs3, ry⟩ := yd y H3 hy
          refine ⟨M, env, S, src.xs[i], en1, re.mono x3, rs3, ry, e2, fun σ2 re2 _ => ⟨M, en1, S, re2, rs3, ?_⟩⟩
          replace ob : WPS X.K X.mg H M ((f en1 S).then_ fun e2 S2 => forLoop t src f (src.xs.drop (i + 1)) e2 S2) D W := ob
          have ob3 := WPS.ext x3 ob
          cases e3 : f en1 S with
          | bad => rw [e3] at ob3; exact ob3.elim
          | ret d S2 => rw [e3] at ob3; exact ob3
          | exc z en2 S2 => rw [e3] at ob3; exact ob3
          | nx en2 S2 =>
            rw [e3] at ob3
            intro σ3 H4 M4 x4 rs4 re4
            exact ⟨M4, en2, S2, re4, rs4, xw.trans ((x3.trans x4).w rs4), rfl, hlt, WPS.ext x4 ob3⟩
    · have hi' : i = src.xs.length := by omega
      subst hi'
      rw [List.drop_length] at ob
      unfold forLoop at ob
      split at ob
      · rename_i hst
        exact .inl ⟨it.stop H M S xw rs hst, ob.nx rs re⟩
      · exact ob.elim
theorem ds_while {body : List Stmt} {c : Ev → Sto → R Bool} {f : Ev → Sto → SR} (hp : PassesOwn (model X.prog X.w) X.A X.env X.xe) (hc : DT X e c) (hb : DSs X body f) :
    DS X (.While e body [] pos) (whileS c f) := by
  intro W tk
  obtain ⟨tc, pc, qc⟩ := hc W tk
  refine PS_imp (ps_while hp pc (hb W tk)) fun D σ H ⟨M, env, S, re, rs, h⟩ => ?_
  have hne : whileS c f env S ≠ .bad := fun z => by rw [z] at h; exact h
  obtain ⟨n, hn⟩ := whileS_ne hne
  rw [hn] at h
  refine ⟨fun m σ H => ∃ M env S, RelE X.K H M env σ ∧ RelS X.K H M S ∧ WPS X.K X.mg H M (whileN c f m env S) D W, ⟨n, M, env, S, re, rs, h⟩, ?_⟩
  rintro m σ H ⟨M, env, S, re, rs, h⟩
  cases m with
  | zero => exact h.elim
  | succ m =>
    replace h : WPS X.K X.mg H M ((c env S).st env fun t S1 => if t then (f env S1).then_ (fun e2 S2 => whileN c f m e2 S2) else .nx env S1) D W := h
    refine qc σ H M env S _ re rs (WPS.stT h re fun k S1 H1 M1 x1 rs1 re1 h1 => ?_)
    cases k with
    | false => exact h1.nx rs1 re1
    | true =>
      refine ⟨_, fun σ' H' hw => ⟨m, Nat.lt_succ_self m, hw⟩, M1, env, S1, re1, rs1, ?_⟩
      replace h1 : WPS X.K X.mg H1 M1 ((f env S1).then_ fun e2 S2 => whileN c f m e2 S2) D W := h1
      cases e3 : f env S1 with
      | bad => rw [e3] at h1; exact h1.elim
      | ret d S2 => rw [e3] at h1; exact h1
      | exc z en2 S2 => rw [e3] at h1; exact h1
      | nx en2 S2 =>
        rw [e3] at h1
        intro σ3 H4 M4 x4 rs4 re4
        exact ⟨M4, en2, S2, re4, rs4, WPS.ext x4 h1⟩
end
end Pw

set_option Elab.async false
set_option linter.all false
set_option maxRecDepth 100000
set_option maxHeartbeats 1000000
namespace Pw
open PySem PySem.Spec PyProof.Rows L2
/-! ## the end of a call -/
section
variable {K : PySem.W.Frag} {mg : Str → Option Value} {H H' : Hp} {M M' : Pl} {S S' : Sto}
mutual
theorem low_of : ∀ {d : D} {v : V}, RelD K H M d v → D.low M.m.length d = true
  | _, _, .non => rfl
  | _, _, .bl b => rfl
  | _, _, .int i => rfl
  | _, _, .str z => rfl
  | _, _, .tup h r => lows_of r
  | _, _, .lst h n q r => lows_of r
  | _, _, .lstF h r => lows_of r
  | _, _, .dctK h n q e r => lows_of r
  | _, _, .ref h => decide_eq_true (List.getElem?_eq_some_iff.mp h).1
theorem lows_of : ∀ {ds : List D} {vs : List V}, RelDs K H M ds vs → D.lows M.m.length ds = true
  | _, _, .nil => rfl
  | _, _, .cons h r => by unfold D.lows; rw [low_of h, lows_of r]; rfl
end
mutual
theorem un_low (p : ∃ T, M'.m = M.m ++ T) (hr : M'.r = M.r) : ∀ {d : D} {v : V}, D.low M.m.length d = true → RelD K H M' d v → RelD K H M d v
  | _, _, _, .non => .non
  | _, _, _, .bl b => .bl b
  | _, _, _, .int i => .int i
  | _, _, _, .str z => .str z
  | _, _, l, .tup h r => .tup h (un_lows p hr l r)
  | _, _, l, .lst h n q r => .lst h (fun z => n (by obtain ⟨T, e⟩ := p; rw [e]; exact List.mem_append_left _ z)) (by rw [← hr]; exact q) (un_lows p hr l r)
  | _, _, l, .lstF h r => .lstF h (un_lows p hr l r)
  | _, _, l, .dctK h n q e r => .dctK h (fun z => n (by obtain ⟨T, e⟩ := p; rw [e]; exact List.mem_append_left _ z)) (by rw [← hr]; exact q) e (un_lows p hr l r)
  | _, _, l, .ref h => .ref (by
    obtain ⟨T, e⟩ := p
    have hl := of_decide_eq_true l
    rw [e, List.getElem?_append_left hl] at h
    exact h)
theorem un_lows (p : ∃ T, M'.m = M.m ++ T) (hr : M'.r = M.r) : ∀ {ds : List D} {vs : List V}, D.lows M.m.length ds = true → RelDs K H M' ds vs → RelDs K H M ds vs
  | _, _, _, .nil => .nil
  | _, _, l, .cons h r => by
    unfold D.lows at l
    rw [Bool.and_eq_true] at l
    exact .cons (un_low p hr l.1 h) (un_lows p hr l.2 r)
end
/-- freezing goes right -/
def FrzOk (K : PySem.W.Frag) (H : Hp) (M M' : Pl) (F : List D → Option (List D)) : Prop := ∀ xs ys vs, F xs = some ys → RelDs K H M' xs vs → RelDs K H M ys vs
mutual
theorem frz1_ok {F : List D → Option (List D)} (hF : FrzOk K H M M' F) (p : ∃ T, M'.m = M.m ++ T) (hr : M'.r = M.r) (rs : RelS K H M' S') : ∀ {d d' : D} {v : V}, frz1 M.m.length S' F d = some d' → RelD K H M' d v → RelD K H M d' v
  | .non, d', v, h, r => by cases h; cases r; exact .non
  | .bl b, d', v, h, r => by cases h; cases r; exact .bl _
  | .int b, d', v, h, r => by cases h; cases r; exact .int _
  | .str b, d', v, h, r => by cases h; cases r; exact .str _
  | .tup xs, d', v, h, r => by
    have h : (frz1s M.m.length S' F xs).map .tup = some d' := h
    obtain ⟨ys, hy, rfl⟩ := Option.map_eq_some_iff.mp h
    cases r with
    | tup ht rr => exact .tup ht (frz1s_ok hF p hr rs hy rr)
  | .lst xs, d', v, h, r => by
    have h : (frz1s M.m.length S' F xs).map .lst = some d' := h
    obtain ⟨ys, hy, rfl⟩ := Option.map_eq_some_iff.mp h
    cases r with
    | lst ht n q rr => exact .lst ht (fun z => n (by obtain ⟨T, e⟩ := p; rw [e]; exact List.mem_append_left _ z)) (by rw [← hr]; exact q) (frz1s_ok hF p hr rs hy rr)
    | lstF ht rr => exact .lstF ht (frz1s_ok hF p hr rs hy rr)
  | .dct ks xs, d', v, h, r => by
    have h : (frz1s M.m.length S' F xs).map (D.dct ks) = some d' := h
    obtain ⟨ys, hy, rfl⟩ := Option.map_eq_some_iff.mp h
    cases r with
    | dctK ht n q e rr => exact .dctK ht (fun z => n (by obtain ⟨T, e⟩ := p; rw [e]; exact List.mem_append_left _ z)) (by rw [← hr]; exact q) e (frz1s_ok hF p hr rs hy rr)
  | .ref l, d', v, h, r => by
    unfold frz1 at h
    obtain ⟨a, rfl, hm⟩ := r.ref_
    by_cases hl : l < M.m.length
    · rw [if_pos hl] at h
      cases h
      refine .ref ?_
      obtain ⟨T, e⟩ := p
      rw [e, List.getElem?_append_left hl] at hm
      exact hm
    · rw [if_neg hl] at h
      have ham : a ∈ M'.m := List.mem_of_getElem? hm
      have hn : a ∉ M.m := fun z => by
        obtain ⟨T, e⟩ := p
        obtain ⟨j, hj, e2⟩ := List.getElem_of_mem z
        have h1 : M'.m[j]? = some a := by rw [e, List.getElem?_append_left hj, List.getElem?_eq_getElem hj, e2]
        have h2 : j < M'.m.length := (List.getElem?_eq_some_iff.mp h1).1
        have := (List.getElem?_inj h2 rs.nd).mp (h1.trans hm.symm)
        omega
      have hq : a ∉ M.r := fun z => (rs.apart a (by rw [hr]; exact z)).1 ham
      cases e : S'[l]? with
      | none => rw [e] at h; cases h
      | some m =>
        rw [e] at h
        cases m with
        | lst xs =>
          obtain ⟨ys, hy, rfl⟩ := Option.map_eq_some_iff.mp h
          obtain ⟨o, ho, vs, rfl, rr⟩ := rs.at_ l a _ hm e
          exact .lst (.inl ho) hn hq (hF _ _ _ hy rr)
        | dct ks xs =>
          obtain ⟨ys, hy, rfl⟩ := Option.map_eq_some_iff.mp h
          obtain ⟨o, ho, kvs, rfl, hk, rr⟩ := rs.at_ l a _ hm e
          exact .dctK ho hn hq hk (hF _ _ _ hy rr)
theorem frz1s_ok {F : List D → Option (List D)} (hF : FrzOk K H M M' F) (p : ∃ T, M'.m = M.m ++ T) (hr : M'.r = M.r) (rs : RelS K H M' S') : ∀ {ds ds' : List D} {vs : List V}, frz1s M.m.length S' F ds = some ds' → RelDs K H M' ds vs → RelDs K H M ds' vs
  | [], _, _, h, r => by cases h; cases r; exact .nil
  | d :: ds, ds', _, h, r => by
    unfold frz1s at h
    cases r with
    | cons r1 r2 =>
      cases e1 : frz1 M.m.length S' F d with
      | none => rw [e1] at h; cases h
      | some y =>
        cases e2 : frz1s M.m.length S' F ds with
        | none => rw [e1, e2] at h; cases h
        | some ys =>
          rw [e1, e2] at h
          cases h
          exact .cons (frz1_ok hF p hr rs e1 r1) (frz1s_ok hF p hr rs e2 r2)
end
theorem frzs_ok (p : ∃ T, M'.m = M.m ++ T) (hr : M'.r = M.r) (rs : RelS K H M' S') : ∀ k, FrzOk K H M M' (frzs M.m.length S' k)
  | 0 => fun xs ys vs h r => frz1s_ok (F := fun _ => none) (fun _ _ _ h => nomatch h) p hr rs h r
  | k + 1 => fun xs ys vs h r => frz1s_ok (frzs_ok p hr rs k) p hr rs h r
/-- the old part of the store -/
theorem RelS.old (rs0 : RelS K H M S) (x : Ext H M H' M') (rs : RelS K H' M' S') (ho : OldOk S S') : RelS K H' M (S'.take S.length) := by
  obtain ⟨T, e⟩ := x.pre
  have hlen : S.length ≤ S'.length := by rw [← rs0.len, ← rs.len, e, List.length_append]; omega
  refine ⟨by rw [List.length_take, rs0.len]; omega, rs0.nd, fun a ha => ?_, fun l a m h1 h2 => ?_⟩
  · obtain ⟨n, u⟩ := rs.apart a (by rw [x.res]; exact ha)
    exact ⟨fun z => n (by rw [e]; exact List.mem_append_left _ z), u⟩
  · have hl : l < M.m.length := (List.getElem?_eq_some_iff.mp h1).1
    have h3 : S'[l]? = some m := by
      rw [List.getElem?_take] at h2
      split at h2
      · exact h2
      · cases h2
    obtain ⟨o, hO, q⟩ := rs.at_ l a m (x.get h1) h3
    refine ⟨o, hO, ?_⟩
    have hm : m.low M.m.length = true := by
      rcases ho l (by rw [← rs0.len]; exact hl) with z | ⟨m', z, zl⟩
      · obtain ⟨o0, _, q0⟩ := rs0.at_ l a m h1 (by rw [← z]; exact h3)
        cases m with
        | lst xs => obtain ⟨vs, _, r⟩ := q0; exact lows_of r
        | dct ks xs => obtain ⟨kvs, _, _, r⟩ := q0; exact lows_of r
      · rw [h3] at z
        cases z
        rw [rs0.len]; exact zl
    cases m with
    | lst xs => obtain ⟨vs, e2, r⟩ := q; exact ⟨vs, e2, un_lows x.pre x.res hm r⟩
    | dct ks xs => obtain ⟨kvs, e2, e3, r⟩ := q; exact ⟨kvs, e2, e3, un_lows x.pre x.res hm r⟩
theorem Ext.old (x : Ext H M H' M') : Ext H M H' M := ⟨⟨[], by simp⟩, rfl, fun a o n h => ⟨(x.keep a o n h).1, n⟩, x.tups, x.frzs⟩
theorem close_ok {fz : Bool} {r : SR} {Q : VK} {E : XK} (rs0 : RelS K H M S) (h : WPE K mg H M (closeR fz S r) Q E) :
    WPS K mg H M r { nx := fun _ H' => Q .non H', rt := Q } (fun c d _ H' => E c d H') := by
  cases r with
  | bad => exact h.elim
  | nx e S' =>
    intro σ' H' M' x rs _
    replace h : WPE K mg H M (.ok .non (if fz then (close S S' .non).2 else S')) Q E := h
    cases fz with
    | false => exact h .non H' M' x rs .non
    | true =>
      simp only [if_true] at h
      unfold close at h
      split at h
      · exact h .non H' M' x rs .non
      · have e : frz S.length S' .non = some .non := rfl
        rw [e] at h
        simp only at h
        split at h
        · exact h .non H' M x.old (rs0.old x rs ‹_›) .non
        · exact h .non H' M' x rs .non
  | ret d S' =>
    intro v H' M' x rs rd
    cases fz with
    | false => exact h v H' M' x rs rd
    | true =>
      replace h : WPE K mg H M (.ok (close S S' d).1 (close S S' d).2) Q E := h
      unfold close at h
      split at h
      · exact h v H' M' x rs rd
      · cases e : frz S.length S' d with
        | none => rw [e] at h; exact h v H' M' x rs rd
        | some d' =>
          rw [e] at h
          simp only at h
          split at h
          · refine h v H' M x.old (rs0.old x rs ‹_›) ?_
            unfold frz at e
            rw [← rs0.len] at e
            exact frz1_ok (frzs_ok x.pre x.res rs 6) x.pre x.res rs e rd
          · exact h v H' M' x rs rd
  | exc z e S' =>
    intro c dd σ' H' M' x rs _ rx
    cases fz with
    | false => exact h c dd H' M' x rs rx
    | true =>
      replace h : WPE K mg H M (.exc (closeX S S' z).1 (closeX S S' z).2) Q E := h
      unfold closeX at h
      split at h
      · exact h c dd H' M' x rs rx
      · cases e : frz1s S.length S' (frzs S.length S' 6) (z.fs.map (·.2)) with
        | none => rw [e] at h; exact h c dd H' M' x rs rx
        | some ds =>
          rw [e] at h
          simp only at h
          split at h
          · refine h c dd H' M x.old (rs0.old x rs ‹_›) ?_
            obtain ⟨C, hC, hcls, hf⟩ := rx
            refine ⟨C, hC, hcls, ?_⟩
            rcases hf with ⟨hf, hd⟩ | ⟨a, vs, hf, hd, ha, na, nr, rv⟩
            · left
              rw [hf]
              exact ⟨rfl, hd⟩
            · right
              rw [← rs0.len] at e
              have rv' := frz1s_ok (frzs_ok x.pre x.res rs 6) x.pre x.res rs e rv
              have hl : ds.length = z.fs.length := by rw [rv'.length, ← rv.length, List.length_map]
              have e1 : (((z.fs.map (·.1)).zip ds).map (·.1)) = z.fs.map (·.1) := by
                rw [List.map_fst_zip]
                rw [List.length_map, hl]; exact Nat.le_refl _
              have e2 : (((z.fs.map (·.1)).zip ds).map (·.2)) = ds := by
                rw [List.map_snd_zip]
                rw [List.length_map, hl]; exact Nat.le_refl _
              refine ⟨a, vs, fun q => hf ?_, hd, by rw [e1]; exact ha, fun z => na (by obtain ⟨T, e⟩ := x.pre; rw [e]; exact List.mem_append_left _ z), by rw [← x.res]; exact nr, by rw [e2]; exact rv'⟩
              have := congrArg List.length q
              rw [List.length_zip, List.length_map, hl, Nat.min_self] at this
              exact List.eq_nil_of_length_eq_zero this
          · exact h c dd H' M' x rs rx
/-- the slots at a call -/
theorem start_rel {N : List Str} {ds : List D} {vs : List V} {k : Nat} (r : RelDs K H M ds vs) (hk : N.length = ds.length + k) : RelE K H M (ds.map some ++ List.replicate k none) (L2.start N vs) := by
  unfold L2.start
  have hl := r.length
  refine ⟨by simp [← hl, hk], fun i d h => ?_⟩
  by_cases hi : i < ds.length
  · rw [List.getElem?_append_left (by simpa using hi), List.getElem?_map] at h
    obtain ⟨d', hd, e⟩ := Option.map_eq_some_iff.mp h
    cases e
    obtain ⟨v, hv, rv⟩ := r.get hd
    refine ⟨v, ?_, rv⟩
    rw [List.getElem?_append_left (by simpa [← hl] using hi), List.getElem?_map, hv]
    rfl
  · rw [List.getElem?_append_right (by simpa using Nat.le_of_not_lt hi), List.getElem?_replicate] at h
    split at h <;> cases h
end
end Pw

set_option Elab.async false
set_option linter.all false
set_option maxRecDepth 100000
set_option maxHeartbeats 1000000
namespace Pw
open PySem PySem.Spec PyProof.Rows L2
/-! ## the check that an expression of the text is what the evaluator's term says -/
structure CC where
  N : List Str
  sc : Scope
  fn : Str → Bool
  FN : List Str
  KS : List KSh
def CC.blk (c : CC) (scope : Scope) : CC := { c with sc := relS scope c.sc, fn := fun x => scope.names.lookup x == some .cell }
def bltNames : List Str := ["len", "tuple", "list", "dict", "all", "any", "sum", "max", "min", "sorted", "int", "abs", "range", "enumerate", "zip", "isinstance", "bool", "str"]
structure CtxOk (X : Cx) (c : CC) (C : Nat → List D → Sto → R D) (PS : Nat → List Str) (k : Nat) : Prop where
  N : X.N = c.N
  nd : c.N.Nodup
  sc : X.env.scope = c.sc
  fn : X.fn = c.fn
  calm : X.calm = true
  room : Room k X.A
  kind : c.sc.kind = .function
  fns : FnsOk X C c.FN PS c.KS k
  blt : ∀ x ∈ bltNames, X.mg x = none
theorem CtxOk.hu {X : Cx} {c : CC} {C : Nat → List D → Sto → R D} {PS : Nat → List Str} {k : Nat} (h : CtxOk X c C PS k) : X.A.units + 70 < cLine := by have := h.room.un; omega
theorem CtxOk.hu2 {X : Cx} {c : CC} {C : Nat → List D → Sto → R D} {PS : Nat → List Str} {k : Nat} (h : CtxOk X c C PS k) : X.A.units + 64 < cLine := by have := h.room.un; omega
theorem CtxOk.blk {X : Cx} {c : CC} {C : Nat → List D → Sto → R D} {PS : Nat → List Str} {k : Nat} (h : CtxOk X c C PS k) {scope : Scope} (hk : scope.kind = .function) (s : Shared) (H : Hp) (Ca : Addr) (cl : List (Str × Addr)) (fp : List Addr) :
    CtxOk (X.blk s H scope (compEnvC scope cl Ca X.env) fp) (c.blk scope) C PS k :=
  ⟨h.N, h.nd, by show relS scope X.env.scope = relS scope c.sc; rw [h.sc], rfl, h.calm, h.room, hk, ⟨h.fns.at_⟩, h.blt⟩
def glB (c : CC) (x : Str) : Bool := match c.sc.names.lookup x with | some .globalImplicit => true | _ => false
def visB (c : CC) (x : Str) : Bool := match c.sc.names.lookup x with | some .local => true | some .cell => true | some .free => true | _ => false
def stB (c : CC) (x : Str) : Bool := match c.sc.names.lookup x with | some .local => true | some .cell => c.fn x | _ => false
def nmB (c : CC) (i : Nat) (x : Str) : Bool := match c.N[i]? with | some y => y == x | none => false
section
variable {X : Cx} {c : CC} {C : Nat → List D → Sto → R D} {PS : Nat → List Str} {k : Nat} (K : CtxOk X c C PS k)
include K
theorem gl_of {x : Str} (h : glB c x = true) : Gl X x := by
  unfold glB at h
  show X.env.scope.names.lookup x = _
  rw [K.sc]
  split at h
  · assumption
  · cases h
theorem vis_of {x : Str} (h : visB c x = true) : Vis X.env.scope x := by
  unfold visB at h
  rw [K.sc]
  split at h
  · exact .inl (by assumption)
  · exact .inr (.inl (by assumption))
  · exact .inr (.inr (by assumption))
  · cases h
theorem st_of {x : Str} (h : stB c x = true) : Loc X.env.scope x ∧ (X.fn x = true ∨ X.env.scope.names.lookup x = some .local) := by
  unfold stB at h
  rw [K.sc, K.fn]
  split at h
  · exact ⟨.inl (by assumption), .inr (by assumption)⟩
  · exact ⟨.inr (by assumption), .inl h⟩
  · cases h
theorem nm_of {i : Nat} {x : Str} (h : nmB c i x = true) : X.N[i]? = some x := by
  unfold nmB at h
  rw [K.N]
  split at h
  · rename_i y hy
    rw [hy, eq_of_beq h]
  · cases h
theorem blt_of {x : Str} (h : bltNames.contains x = true) : X.mg x = none := K.blt x (by simpa using h)
end
/-- as a test -/
def plainB : Expr → Bool
  | .UnaryOp .Not _ _ => false
  | .BoolOp _ _ _ => false
  | .IfExp _ _ _ _ => false
  | .Compare _ _ _ _ => false
  | _ => true
def isIte : Expr → Bool
  | .IfExp _ _ _ _ => true
  | _ => false
theorem plain_of {X : Cx} {e : Expr} (h : plainB e = true) : PlainTest X e := by
  intro whole
  cases e with
  | UnaryOp op a p => cases op <;> first | rfl | cases h
  | BoolOp _ _ _ => cases h
  | IfExp _ _ _ _ => cases h
  | Compare _ _ _ _ => cases h
  | _ => rfl
structure Snd (X : Cx) (ex : Expr) (d : Den) : Prop where
  e : DE X ex d.v
  t : isIte ex = false → DT X ex d.t
  w : ∀ op es pos, ex = .BoolOp op es pos → DW X ex d.t
theorem Snd.plain {X : Cx} {ex : Expr} {v : Ev → Sto → R D} (h : DE X ex v) (hp : plainB ex = true) : Snd X ex (ofV v) :=
  ⟨h, fun _ => dt_of (plain_of hp) h, fun op es pos e => by rw [e] at hp; cases hp⟩
abbrev Ck := CC → E → Expr → Bool
def Good (C : Nat → List D → Sto → R D) (G : Nat → Option D) (PS : Nat → List Str) (k : Nat) (r : Ck) : Prop := ∀ c ir ex X, CtxOk X c C PS k → r c ir ex = true → Snd X ex (den C G ir)
/-- lists -/
def cks (r : Ck) (c : CC) : List E → List Expr → Bool
  | [], [] => true
  | a :: as, e :: es => r c a e && noStar e && cks r c as es
  | _, _ => false
section
variable {X : Cx} {c : CC} {C : Nat → List D → Sto → R D} {G : Nat → Option D} {PS : Nat → List Str} {k : Nat} {r : Ck}
theorem cks_ok (hr : Good C G PS k r) (K : CtxOk X c C PS k) : ∀ {as : List E} {es : List Expr}, cks r c as es = true → DA X es (dens C G as) ∧ es.all noStar = true ∧ as.length = es.length
  | [], [], _ => ⟨da_nil, rfl, rfl⟩
  | a :: as, e :: es, h => by
    unfold cks at h
    rw [Bool.and_eq_true, Bool.and_eq_true] at h
    obtain ⟨h1, h2, h3⟩ := cks_ok hr K h.2
    exact ⟨da_cons (starEach_cons h.1.2) (hr c a e X K h.1.1).e h1, by rw [List.all_cons, h.1.2, h2]; rfl, by rw [List.length_cons, List.length_cons, h3]⟩
  | [], _ :: _, h => by cases h
  | _ :: _, [], h => by cases h
/-! ### one constructor at a time -/
def constB : D → Const → Bool
  | .non, .none => true
  | .bl b, .bool b' => b == b'
  | .int i, .int j => i == j
  | .str x, .str y => x == y
  | _, _ => false
theorem const_ok {d : D} {cn : Const} {j : Nat} {pos : Pos} (h : constB d cn = true) : DE X (.Constant cn j pos) (fun _ S => .ok d S) := by
  unfold constB at h
  split at h
  · exact de_k pe_non fun _ _ => .non
  · rw [← eq_of_beq h]; exact de_k pe_bl fun _ _ => .bl _
  · rw [← eq_of_beq h]; exact de_k pe_int fun _ _ => .int _
  · rw [← eq_of_beq h]; exact de_k pe_str fun _ _ => .str _
  · cases h
def ckV (c : CC) (i : Nat) : Expr → Bool
  | .Name x _ => nmB c i x && visB c x && !(x == ("__debug__" : Str)) && !(x == ("__classdict__" : Str))
  | _ => false
theorem ckV_ok (K : CtxOk X c C PS k) {i : Nat} {ex : Expr} (h : ckV c i ex = true) : Snd X ex (den C G (.v i)) := by
  unfold ckV at h
  split at h
  · simp only [Bool.and_eq_true, Bool.not_eq_true'] at h
    exact .plain (de_var (nm_of K h.1.1.1) (vis_of K h.1.1.2) h.1.2 h.2) rfl
  · cases h
def ckK (d : D) : Expr → Bool
  | .Constant cn _ _ => constB d cn
  | _ => false
theorem ckK_ok {d : D} {ex : Expr} (h : ckK d ex = true) : Snd X ex (den C G (.k d)) := by
  unfold ckK at h
  split at h
  · exact .plain (const_ok h) rfl
  · cases h
def ckBin (r : Ck) (c : CC) (o : BOp) (a b : E) : Expr → Bool
  | .BinOp x op y _ => decide (op = bOp o) && r c a x && r c b y
  | _ => false
theorem ckBin_ok (hr : Good C G PS k r) (K : CtxOk X c C PS k) {o : BOp} {bx : Bool} {a b : E} {ex : Expr} (h : ckBin r c o a b ex = true) : Snd X ex (den C G (.bin o bx a b)) := by
  unfold ckBin at h
  split at h
  · simp only [Bool.and_eq_true, decide_eq_true_eq] at h
    obtain ⟨⟨rfl, h1⟩, h2⟩ := h
    exact .plain (de_bin o bx (hr c a _ X K h1).e (hr c b _ X K h2).e) rfl
  · cases h
def ckNeg (r : Ck) (c : CC) (a : E) : Expr → Bool
  | .UnaryOp .USub x _ => r c a x
  | _ => false
theorem ckNeg_ok (hr : Good C G PS k r) (K : CtxOk X c C PS k) {a : E} {ex : Expr} (h : ckNeg r c a ex = true) : Snd X ex (den C G (.neg a)) := by
  unfold ckNeg at h
  split at h
  · exact .plain (de_neg (hr c a _ X K h).e) rfl
  · cases h
def ckNot (r : Ck) (c : CC) (a : E) : Expr → Bool
  | .UnaryOp .Not x _ => r c a x && !isIte x
  | _ => false
theorem ckNot_ok (hr : Good C G PS k r) (K : CtxOk X c C PS k) {a : E} {ex : Expr} (h : ckNot r c a ex = true) : Snd X ex (den C G (.not a)) := by
  unfold ckNot at h
  split at h
  · rw [Bool.and_eq_true, Bool.not_eq_true'] at h
    have s := hr c a _ X K h.1
    exact ⟨de_not s.e, fun _ => dt_not (s.t h.2), fun _ _ _ e => nomatch e⟩
  · cases h
def ckCmp (r : Ck) (c : CC) (o : COp) (a b : E) : Expr → Bool
  | .Compare x [op] [y] _ => decide (op = cOp o) && !behindInMarks op y && r c a x && r c b y
  | _ => false
theorem ckCmp_ok (hr : Good C G PS k r) (K : CtxOk X c C PS k) {o : COp} {a b : E} {ex : Expr} (h : ckCmp r c o a b ex = true) : Snd X ex (den C G (.cmp o a b)) := by
  unfold ckCmp at h
  split at h
  · simp only [Bool.and_eq_true, decide_eq_true_eq, Bool.not_eq_true'] at h
    obtain ⟨⟨⟨rfl, hm⟩, h1⟩, h2⟩ := h
    exact ⟨de_cmp K.hu2 o hm (hr c a _ X K h1).e (hr c b _ X K h2).e, fun _ => dt_cmp K.hu2 o hm (hr c a _ X K h1).e (hr c b _ X K h2).e, fun _ _ _ e => nomatch e⟩
  · cases h
def ckCmp2 (r : Ck) (c : CC) (o o' : COp) (a b d : E) : Expr → Bool
  | .Compare x [op, op'] [y, z] _ => decide (op = cOp o) && decide (op' = cOp o') && !lastMarks [op, op'] [y, z] && r c a x && r c b y && r c d z
  | _ => false
theorem ckCmp2_ok (hr : Good C G PS k r) (K : CtxOk X c C PS k) {o o' : COp} {a b d : E} {ex : Expr} (h : ckCmp2 r c o o' a b d ex = true) : Snd X ex (den C G (.cmp2 o o' a b d)) := by
  unfold ckCmp2 at h
  split at h
  · simp only [Bool.and_eq_true, decide_eq_true_eq, Bool.not_eq_true'] at h
    obtain ⟨⟨⟨⟨⟨rfl, rfl⟩, hm⟩, h1⟩, h2⟩, h3⟩ := h
    exact ⟨de_cmp2 K.hu2 o o' hm (hr c a _ X K h1).e (hr c b _ X K h2).e (hr c d _ X K h3).e, fun _ => dt_cmp2 K.hu2 o o' hm (hr c a _ X K h1).e (hr c b _ X K h2).e (hr c d _ X K h3).e, fun _ _ _ e => nomatch e⟩
  · cases h
def ckIsk (r : Ck) (c : CC) (ng : Bool) (a : E) (d : D) : Expr → Bool
  | .Compare x [op] [.Constant cn _ _] _ => decide (op = isE ng) && constB d cn && (match d with | .non => true | .bl _ => true | _ => false) && r c a x
  | _ => false
theorem ckIsk_ok (hr : Good C G PS k r) (K : CtxOk X c C PS k) {ng : Bool} {a : E} {d : D} {ex : Expr} (h : ckIsk r c ng a d ex = true) : Snd X ex (den C G (.isk ng a d)) := by
  unfold ckIsk at h
  split at h
  · rename_i x op cn j p1 p2
    simp only [Bool.and_eq_true, decide_eq_true_eq] at h
    obtain ⟨⟨⟨rfl, hc⟩, hd⟩, h1⟩ := h
    have pb : PE X (.Constant cn j p1) (tC (cV d)) := by
      cases d with
      | non => cases cn <;> first | exact pe_non | cases hc
      | bl b =>
        cases cn with
        | bool b' => rw [show b' = b from (eq_of_beq hc).symm]; exact pe_bl
        | _ => cases hc
      | _ => cases hd
    exact ⟨de_isk ng d rfl pb (hr c a _ X K h1).e, fun _ => dt_isk ng d rfl pb (hr c a _ X K h1).e, fun _ _ _ e => nomatch e⟩
  · cases h
def ckAnd (r : Ck) (c : CC) (a b : E) : Expr → Bool
  | .BoolOp .And (x :: y :: es) pos => r c a x && !isIte x && r c b (.BoolOp .And (y :: es) pos)
  | _ => false
theorem ckAnd_ok (hr : Good C G PS k r) (K : CtxOk X c C PS k) {a b : E} {ex : Expr} (h : ckAnd r c a b ex = true) : Snd X ex (den C G (.and a b)) := by
  unfold ckAnd at h
  split at h
  · simp only [Bool.and_eq_true, Bool.not_eq_true'] at h
    have s := hr c a _ X K h.1.1
    have s2 := hr c b _ X K h.2
    have w := dw_and (s.t h.1.2) (s2.w _ _ _ rfl)
    exact ⟨de_and s.e s2.e, fun _ => w.dt, fun _ _ _ _ => w⟩
  · cases h
def ckOr (r : Ck) (c : CC) (a b : E) : Expr → Bool
  | .BoolOp .Or (x :: y :: es) pos => r c a x && !isIte x && r c b (.BoolOp .Or (y :: es) pos)
  | _ => false
theorem ckOr_ok (hr : Good C G PS k r) (K : CtxOk X c C PS k) {a b : E} {ex : Expr} (h : ckOr r c a b ex = true) : Snd X ex (den C G (.or a b)) := by
  unfold ckOr at h
  split at h
  · simp only [Bool.and_eq_true, Bool.not_eq_true'] at h
    have s := hr c a _ X K h.1.1
    have s2 := hr c b _ X K h.2
    have w := dw_or (s.t h.1.2) (s2.w _ _ _ rfl)
    exact ⟨de_or s.e s2.e, fun _ => w.dt, fun _ _ _ _ => w⟩
  · cases h
def ckIte (r : Ck) (c : CC) (t a b : E) : Expr → Bool
  | .IfExp x y z _ => r c t x && !isIte x && r c a y && r c b z
  | _ => false
theorem ckIte_ok (hr : Good C G PS k r) (K : CtxOk X c C PS k) {t a b : E} {ex : Expr} (h : ckIte r c t a b ex = true) : Snd X ex (den C G (.ite t a b)) := by
  unfold ckIte at h
  split at h
  · simp only [Bool.and_eq_true, Bool.not_eq_true'] at h
    obtain ⟨⟨⟨h0, h1⟩, h2⟩, h3⟩ := h
    exact ⟨de_ite ((hr c t _ X K h0).t h1) (hr c a _ X K h2).e (hr c b _ X K h3).e, (fun z => nomatch z), fun _ _ _ e => nomatch e⟩
  · cases h
def fnB (c : CC) (f : Nat) (x : Str) : Bool := match c.FN[f]? with | some y => y == x | none => false
theorem fn_of {f : Nat} {x : Str} (h : fnB c f x = true) : c.FN[f]? = some x := by
  unfold fnB at h
  split at h
  · rename_i y hy
    rw [hy, eq_of_beq h]
  · cases h
def ckCall (r : Ck) (c : CC) (f : Nat) (as : List E) : Expr → Bool
  | .Call (.Name x _) (e :: es) [] _ => fnB c f x && glB c x && cks r c as (e :: es)
  | _ => false
theorem ckCall_ok (hr : Good C G PS k r) (K : CtxOk X c C PS k) {f : Nat} {as : List E} {ex : Expr} (h : ckCall r c f as ex = true) : Snd X ex (den C G (.call f as)) := by
  unfold ckCall at h
  split at h
  · simp only [Bool.and_eq_true] at h
    obtain ⟨h1, h2, _⟩ := cks_ok hr K h.2
    exact .plain (de_call K.fns K.room (fn_of h.1.1) (gl_of K h.1.2) h2 h1) rfl
  · cases h
def ckKws (r : Ck) (c : CC) : List E → List Keyword → Bool
  | [], [] => true
  | a :: as, ⟨some _, e, _⟩ :: ks => r c a e && ckKws r c as ks
  | _, _ => false
theorem ckKws_ok (hr : Good C G PS k r) (K : CtxOk X c C PS k) : ∀ {as : List E} {ks : List Keyword}, ckKws r c as ks = true → DK X ks (dens C G as)
  | [], [], _ => dk_nil
  | a :: as, ⟨some _, e, _⟩ :: ks, h => by
    unfold ckKws at h
    rw [Bool.and_eq_true] at h
    exact dk_cons (hr c a e X K h.1).e (ckKws_ok hr K h.2)
  | [], _ :: _, h => by cases h
  | _ :: _, [], h => by cases h
  | _ :: _, ⟨none, _, _⟩ :: _, h => by cases h
theorem dens_length : ∀ {as : List E} {e : Ev} {S S1 : Sto} {ds : List D}, dens C G as e S = .ok ds S1 → ds.length = as.length
  | [], _, _, _, _, h => by cases h; rfl
  | a :: as, e, S, S1, ds, h => by
    replace h : (((den C G a).v e S).bind fun x S1 => (dens C G as e S1).bind fun xs S2 => .ok (x :: xs) S2) = .ok ds S1 := h
    cases e1 : (den C G a).v e S with
    | bad => rw [e1] at h; cases h
    | exc _ _ => rw [e1] at h; cases h
    | ok x S2 =>
      rw [e1] at h
      simp only [R.bind_ok] at h
      cases e2 : dens C G as e S2 with
      | bad => rw [e2] at h; cases h
      | exc _ _ => rw [e2] at h; cases h
      | ok xs S3 =>
        rw [e2] at h
        cases h
        rw [List.length_cons, List.length_cons, dens_length e2]
def ckCallk (r : Ck) (c : CC) (f : Nat) (as bs : List E) (ord : List Nat) : Expr → Bool
  | .Call (.Name x _) es kws _ => fnB c f x && glB c x && cks r c as es && ckKws r c bs kws && (match kwNames kws with | some ks => decide (⟨f, as.length, ks, ord⟩ ∈ c.KS) && decide (bs.length = ks.length) | none => false)
  | _ => false
theorem ckCallk_ok (hr : Good C G PS k r) (K : CtxOk X c C PS k) {f : Nat} {as bs : List E} {ord : List Nat} {ex : Expr} (h : ckCallk r c f as bs ord ex = true) : Snd X ex (den C G (.callk f as bs ord)) := by
  unfold ckCallk at h
  split at h
  · rename_i x p es kws p2
    simp only [Bool.and_eq_true] at h
    obtain ⟨⟨⟨⟨h1, h2⟩, h3⟩, h4⟩, h5⟩ := h
    cases e : kwNames kws with
    | none => rw [e] at h5; cases h5
    | some ks =>
      rw [e] at h5
      simp only [Bool.and_eq_true, decide_eq_true_eq] at h5
      obtain ⟨a1, a2, a3⟩ := cks_ok hr K h3
      refine .plain (de_callk (q := ⟨f, as.length, ks, ord⟩) K.fns K.room (fn_of h1) (gl_of K h2) a2 h5.1 e a1 (ckKws_ok hr K h4) (fun _ _ _ _ h => dens_length h) (fun _ _ _ _ h => (dens_length h).trans h5.2) fun z => ?_) rfl
      subst z
      cases as with
      | nil => rfl
      | cons _ _ => cases a3
  · cases h
end
end Pw

set_option Elab.async false
set_option linter.all false
set_option maxRecDepth 100000
set_option maxHeartbeats 1000000
namespace Pw
open PySem PySem.Spec PyProof.Rows L2
section
variable {X : Cx} {c : CC} {C : Nat → List D → Sto → R D} {G : Nat → Option D} {PS : Nat → List Str} {k : Nat} {r : Ck}
/-! ### built-ins -/
def prName : Pr → Option Str
  | .len => some "len" | .tuple => some "tuple" | .list => some "list" | .all => some "all" | .any => some "any" | .sum => some "sum" | .max2 => some "max" | .min2 => some "min"
  | .sorted => some "sorted" | .int => some "int" | .abs => some "abs" | _ => none
/-- range(..) as an argument -/
def ckRg (r : Ck) (c : CC) (n : Nat) (as : List E) : Expr → Bool
  | .Call (.Name x _) es [] _ => x == ("range" : Str) && glB c x && cks r c as es && decide (es.length = n) && (n == 1 || n == 2)
  | _ => false
theorem da_one {e : Expr} {a : E} : dens C G [a] = fun en S => ((den C G a).v en S).bind fun x S1 => .ok [x] S1 := by
  funext en S
  show ((den C G a).v en S).bind (fun x S1 => (R.ok [] S1).bind fun xs S2 => .ok (x :: xs) S2) = _
  rfl
theorem da_two {a b : E} : dens C G [a, b] = fun en S => ((den C G a).v en S).bind fun x S1 => ((den C G b).v en S1).bind fun y S2 => .ok [x, y] S2 := by
  funext en S
  show ((den C G a).v en S).bind (fun x S1 => (((den C G b).v en S1).bind fun y S2 => (R.ok [] S2).bind fun xs S3 => .ok (y :: xs) S3).bind fun xs S2 => .ok (x :: xs) S2) = _
  congr 1
  funext x S1
  rw [bind_assoc]
  rfl
theorem ckRg_ok (hr : Good C G PS k r) (K : CtxOk X c C PS k) {n : Nat} {as : List E} {ex : Expr} (h : ckRg r c n as ex = true) : ∃ es, Rg X es (dens C G as) ex n ∧ noStar ex = true := by
  unfold ckRg at h
  split at h
  · rename_i x p es p2
    simp only [Bool.and_eq_true, decide_eq_true_eq, Bool.or_eq_true] at h
    obtain ⟨⟨⟨⟨hx, hg⟩, hs⟩, hl⟩, hn⟩ := h
    have hx := eq_of_beq hx
    subst hx
    have hG := gl_of K hg
    have hM := blt_of K (x := "range") (by decide +kernel)
    match as, es, hs, hl with
    | [a], [e], hs, hl =>
      unfold cks at hs
      simp only [Bool.and_eq_true] at hs
      rw [da_one (e := e)]
      have : n = 1 := by simpa using hl.symm
      subst this
      exact ⟨[e], .one hG hM hs.1.2 (hr c a _ X K hs.1.1).e, rfl⟩
    | [a, b], [e, e2], hs, hl =>
      unfold cks at hs
      simp only [Bool.and_eq_true] at hs
      have hs2 := hs.2
      unfold cks at hs2
      simp only [Bool.and_eq_true] at hs2
      rw [da_two]
      have : n = 2 := by simpa using hl.symm
      subst this
      exact ⟨[e, e2], .two hG hM hs.1.2 hs2.1.2 (hr c a _ X K hs.1.1).e (hr c b _ X K hs2.1.1).e, rfl⟩
    | [], [], _, hl => simp at hl; subst hl; rcases hn with h | h <;> cases h
    | _ :: _ :: _ :: _, [_], hs, _ => unfold cks at hs; simp [cks] at hs
    | _ :: _ :: _ :: _, [_, _], hs, _ => unfold cks at hs; simp [cks] at hs
    | _ :: _, [], hs, _ => cases hs
    | [], _ :: _, hs, _ => cases hs
    | [_, _], [_], hs, _ => unfold cks at hs; simp [cks] at hs
    | [_], _ :: _ :: _, hs, _ => unfold cks at hs; simp [cks] at hs
    | _, _ :: _ :: _ :: _, _, hl => simp at hl; subst hl; rcases hn with h | h <;> simp at h
  · cases h
def ckPr (r : Ck) (c : CC) (p : Pr) (as : List E) (ex : Expr) : Bool :=
  match p with
  | .rangeL n => (match ex with
    | .Call (.Name x _) [e] [] _ => x == ("list" : Str) && glB c x && ckRg r c n as e
    | _ => false)
  | .rangeT n => (match ex with
    | .Call (.Name x _) [e] [] _ => x == ("tuple" : Str) && glB c x && ckRg r c n as e
    | _ => false)
  | p => match prName p with
    | some y => (match ex with
      | .Call (.Name x _) (e :: es) [] _ => x == y && glB c x && cks r c as (e :: es)
      | _ => false)
    | none => false
theorem ckPr_core (hr : Good C G PS k r) (K : CtxOk X c C PS k) {y : Str} {as : List E} {f : List D → Sto → R D} {ex : Expr} (h : (match ex with
      | .Call (.Name x _) (e :: es) [] _ => x == y && glB c x && cks r c as (e :: es)
      | _ => false) = true) (n1 : y ≠ "__name__") (n2 : (y == ("__debug__" : Str)) = false) (n3 : bltNames.contains y = true)
    (hf : (∃ id rr, bootBuiltins y = some (.builtin id) ∧ CallR X (.builtin id) rr ∧ Tells X f rr) ∨ (∃ T rr, bootBuiltins y = some (.type T) ∧ CallR X (.type T) rr ∧ Tells X f rr)) :
    Snd X ex (ofV fun e S => (dens C G as e S).bind f) := by
  split at h
  · rename_i x p e es p2
    simp only [Bool.and_eq_true] at h
    have hx := eq_of_beq h.1.1
    subst hx
    obtain ⟨h1, h2, _⟩ := cks_ok hr K h.2
    rcases hf with ⟨id, rr, b1, b2, b3⟩ | ⟨T, rr, b1, b2, b3⟩
    · exact .plain (de_callB b2 b3 (gl_of K h.1.2) (blt_of K n3) b1 n1 n2 h2 h1) rfl
    · exact .plain (de_callTy b2 b3 (gl_of K h.1.2) (blt_of K n3) b1 n1 n2 h2 h1) rfl
  · cases h
theorem ckPr_ok (hr : Good C G PS k r) (K : CtxOk X c C PS k) {p : Pr} {bx : Bool} {as : List E} {ex : Expr} (h : ckPr r c p as ex = true) : Snd X ex (den C G (.pr p bx as)) := by
  show Snd X ex (ofV fun e S => (dens C G as e S).bind (prim p bx))
  cases p with
  | rangeL n =>
    unfold ckPr at h
    simp only at h
    split at h
    · rename_i x p e p2
      simp only [Bool.and_eq_true] at h
      have hx := eq_of_beq h.1.1
      subst hx
      obtain ⟨es, hR, hs⟩ := ckRg_ok hr K h.2
      exact .plain (de_listRg K.calm (gl_of K h.1.2) (blt_of K (x := "list") (by decide +kernel)) hs hR) rfl
    · cases h
  | rangeT n =>
    unfold ckPr at h
    simp only at h
    split at h
    · rename_i x p e p2
      simp only [Bool.and_eq_true] at h
      have hx := eq_of_beq h.1.1
      subst hx
      obtain ⟨es, hR, hs⟩ := ckRg_ok hr K h.2
      exact .plain (de_tupRg K.calm (gl_of K h.1.2) (blt_of K (x := "tuple") (by decide +kernel)) hs hR) rfl
    · cases h
  | len => exact ckPr_core hr K (y := "len") h (by decide) (by decide) (by decide +kernel) (.inl ⟨_, _, PySem.boot_len, CallR.or call_len call_lenD, len_tells⟩)
  | tuple => exact ckPr_core hr K (y := "tuple") h (by decide) (by decide) (by decide +kernel) (.inr ⟨_, _, PyProof.Rows.boot_tuple, call_tupleF, tuple_tells⟩)
  | list => exact ckPr_core hr K (y := "list") h (by decide) (by decide) (by decide +kernel) (.inr ⟨_, _, PyProof.Rows.boot_list, call_list_of, list_tells⟩)
  | all => exact ckPr_core hr K (y := "all") h (by decide) (by decide) (by decide +kernel) (.inl ⟨_, _, PyProof.Rows.boot_all, cr_all K.calm, all_tells⟩)
  | any => exact ckPr_core hr K (y := "any") h (by decide) (by decide) (by decide +kernel) (.inl ⟨_, _, PyProof.Rows.boot_any, cr_any K.calm, any_tells⟩)
  | sum => exact ckPr_core hr K (y := "sum") h (by decide) (by decide) (by decide +kernel) (.inl ⟨_, _, PyProof.Rows.boot_sum, cr_sum K.calm, sum_tells⟩)
  | max2 => exact ckPr_core hr K (y := "max") h (by decide) (by decide) (by decide +kernel) (.inl ⟨_, _, PyProof.Rows.boot_max, call_max2 K.calm, max_tells⟩)
  | min2 => exact ckPr_core hr K (y := "min") h (by decide) (by decide) (by decide +kernel) (.inl ⟨_, _, PyProof.Rows.boot_min, call_min2 K.calm, min_tells⟩)
  | sorted => exact ckPr_core hr K (y := "sorted") h (by decide) (by decide) (by decide +kernel) (.inl ⟨_, _, PyProof.Rows.boot_sorted, cr_sortD K.hu, sorted_tells⟩)
  | int => exact ckPr_core hr K (y := "int") h (by decide) (by decide) (by decide +kernel) (.inr ⟨_, _, PyProof.Rows.boot_int, call_int1, int_tells⟩)
  | abs => exact ckPr_core hr K (y := "abs") h (by decide) (by decide) (by decide +kernel) (.inl ⟨_, _, by decide +kernel, call_abs, abs_tells⟩)
  | _ => cases h
def mthName : Pr → Option Str
  | .append => some "append" | .pop => some "pop" | .popAt => some "pop" | .indexOf => some "index" | .count => some "count" | .get => some "get" | .get2 => some "get" | .join => some "join" | _ => none
def notCall : Expr → Bool
  | .Call _ _ _ _ => false
  | _ => true
theorem base_ok2 {o : Expr} {name : Str} {env : Env} {whole : Sem Value} (h : notCall o = true) : attributeBase o name env whole = whole := by
  cases o <;> first | rfl | cases h
def ckMth (r : Ck) (c : CC) (p : Pr) (o : E) (as : List E) : Expr → Bool
  | .Call (.Attribute x name ap) es [] cp => (mthName p == some name) && notCall x && decide (es.length < 30) && (ap.endLine == cp.line) && r c o x && cks r c as es
  | _ => false
theorem tellsM (K : CtxOk X c C PS k) {p : Pr} {bx : Bool} {name : Str} (h : (mthName p == some name) = true) : TellsM X name p.kindOk (fun d ds => prim p bx (d :: ds)) := by
  have h := eq_of_beq h
  cases p with
  | append => cases h; exact append_tells
  | pop => cases h; exact pop_tells
  | popAt => cases h; exact popAt_tells
  | indexOf => cases h; exact index_tells K.hu2
  | count => cases h; exact count_tells K.hu2
  | get => cases h; exact get_tells K.hu2
  | get2 => cases h; exact get2_tells K.hu2
  | join => cases h; exact join_tells
  | _ => cases h
theorem ckMth_ok (hr : Good C G PS k r) (K : CtxOk X c C PS k) {p : Pr} {bx : Bool} {o : E} {as : List E} {ex : Expr} (h : ckMth r c p o as ex = true) : Snd X ex (den C G (.mth p bx o as)) := by
  unfold ckMth at h
  split at h
  · rename_i x name ap es cp
    simp only [Bool.and_eq_true, decide_eq_true_eq] at h
    obtain ⟨⟨⟨⟨⟨h1, h2⟩, h3⟩, h4⟩, h5⟩, h6⟩ := h
    obtain ⟨a1, a2, a3⟩ := cks_ok hr K h6
    have T := tellsM K (bx := bx) h1
    have so := (hr c o _ X K h5).e
    cases es with
    | nil =>
      cases as with
      | nil => exact .plain (de_mth0 T so (base_ok2 h2) h4) rfl
      | cons _ _ => cases a3
    | cons e es => exact .plain (de_mth T so a1 (base_ok2 h2) h3 h4 a2) rfl
  · cases h
def ckIsi (r : Ck) (c : CC) (a : E) (t : Ty) : Expr → Bool
  | .Call (.Name x _) [e, .Name y _] [] _ => x == ("isinstance" : Str) && glB c x && glB c y && y == Str.ofString (tyName t) && noStar e && r c a e
  | _ => false
theorem ckIsi_ok (hr : Good C G PS k r) (K : CtxOk X c C PS k) {a : E} {t : Ty} {ex : Expr} (h : ckIsi r c a t ex = true) : Snd X ex (den C G (.isi a t)) := by
  unfold ckIsi at h
  split at h
  · simp only [Bool.and_eq_true] at h
    obtain ⟨⟨⟨⟨⟨hx, h1⟩, h2⟩, hy⟩, h3⟩, h4⟩ := h
    have hx := eq_of_beq hx
    have hy := eq_of_beq hy
    subst hx hy
    exact .plain (de_isi (hr c a _ X K h4).e h3 (gl_of K h1) (blt_of K (x := "isinstance") (by decide +kernel)) (gl_of K h2) (blt_of K (by cases t <;> decide +kernel)) rfl) rfl
  · cases h
/-! ### subscripts -/
def notSlice : Expr → Bool
  | .Slice _ _ _ _ => false
  | _ => true
theorem plainIx_of {e : Expr} (h : notSlice e = true) : PlainIx e := by
  intro o i
  cases e <;> first | rfl | cases h
def ckIx (r : Ck) (c : CC) (a b : E) : Expr → Bool
  | .Subscript x y _ => notSlice y && r c a x && r c b y
  | _ => false
theorem ckIx_ok (hr : Good C G PS k r) (K : CtxOk X c C PS k) {a b : E} {ex : Expr} (h : ckIx r c a b ex = true) : Snd X ex (den C G (.ix a b)) := by
  unfold ckIx at h
  split at h
  · simp only [Bool.and_eq_true] at h
    exact .plain (de_ix K.hu2 (plainIx_of h.1.1) (hr c a _ X K h.1.2).e (hr c b _ X K h.2).e) rfl
  · cases h
def ckO (r : Ck) (c : CC) : Option E → Option Expr → Bool
  | none, none => true
  | some a, some e => r c a e
  | _, _ => false
theorem ckO_ok (hr : Good C G PS k r) (K : CtxOk X c C PS k) : ∀ {o : Option E} {e : Option Expr}, ckO r c o e = true → DO X e (denO C G o)
  | none, none, _ => .inl ⟨rfl, rfl⟩
  | some a, some e, h => .inr ⟨e, _, rfl, (hr c a e X K h).e, rfl⟩
  | none, some _, h => by cases h
  | some _, none, h => by cases h
def ckSl (r : Ck) (c : CC) (a : E) (lo hi : Option E) : Expr → Bool
  | .Subscript x (.Slice l u none _) _ => r c a x && ckO r c lo l && ckO r c hi u
  | _ => false
theorem ckSl_ok (hr : Good C G PS k r) (K : CtxOk X c C PS k) {a : E} {bx : Bool} {lo hi : Option E} {ex : Expr} (h : ckSl r c a lo hi ex = true) : Snd X ex (den C G (.sl bx a lo hi)) := by
  unfold ckSl at h
  split at h
  · simp only [Bool.and_eq_true] at h
    exact .plain (de_sl (hr c a _ X K h.1.1).e (ckO_ok hr K h.1.2) (ckO_ok hr K h.2)) rfl
  · cases h
def ckRev (r : Ck) (c : CC) (a : E) : Expr → Bool
  | .Subscript x (.Slice none none (some (.UnaryOp .USub (.Constant cn _ _) _)) _) _ => decide (cn = .int 1) && r c a x
  | _ => false
theorem ckRev_ok (hr : Good C G PS k r) (K : CtxOk X c C PS k) {a : E} {bx : Bool} {ex : Expr} (h : ckRev r c a ex = true) : Snd X ex (den C G (.rev bx a)) := by
  unfold ckRev at h
  split at h
  · simp only [Bool.and_eq_true, decide_eq_true_eq] at h
    obtain ⟨rfl, h⟩ := h
    exact .plain (de_rev (hr c a _ X K h).e) rfl
  · cases h
def ckTup (r : Ck) (c : CC) (as : List E) : Expr → Bool
  | .Tuple es _ _ => cks r c as es
  | _ => false
theorem ckTup_ok (hr : Good C G PS k r) (K : CtxOk X c C PS k) {as : List E} {ex : Expr} (h : ckTup r c as ex = true) : Snd X ex (den C G (.tup as)) := by
  unfold ckTup at h
  split at h
  · exact .plain (de_tup (cks_ok hr K h).1) rfl
  · cases h
def ckLst (r : Ck) (c : CC) (as : List E) : Expr → Bool
  | .List es _ => cks r c as es
  | _ => false
theorem ckLst_ok (hr : Good C G PS k r) (K : CtxOk X c C PS k) {as : List E} {bx : Bool} {ex : Expr} (h : ckLst r c as ex = true) : Snd X ex (den C G (.lst bx as)) := by
  unfold ckLst at h
  split at h
  · exact .plain (de_lst (cks_ok hr K h).1) rfl
  · cases h
end
end Pw

set_option Elab.async false
set_option linter.all false
set_option maxRecDepth 100000
set_option maxHeartbeats 1000000
namespace Pw
open PySem PySem.Spec PyProof.Rows L2
/-! ### targets, what is walked, comprehensions -/
mutual
def ckT (c : CC) : Tg → Expr → Bool
  | .n i, .Name x _ => nmB c i x && stB c x
  | .tu ts, .Tuple es _ _ => ckTs c ts es
  | _, _ => false
def ckTs (c : CC) : List Tg → List Expr → Bool
  | [], [] => true
  | t :: ts, e :: es => ckT c t e && noStar e && ckTs c ts es
  | _, _ => false
end
def isTu : Tg → Bool
  | .tu _ => true
  | _ => false
section
variable {X : Cx} {c : CC} {C : Nat → List D → Sto → R D} {G : Nat → Option D} {PS : Nat → List Str} {k : Nat} {r : Ck}
theorem ckTs_len : ∀ {ts : List Tg} {es : List Expr}, ckTs c ts es = true → es.length = ts.length ∧ es.all noStar = true
  | [], [], _ => ⟨rfl, rfl⟩
  | t :: ts, e :: es, h => by
    unfold ckTs at h
    simp only [Bool.and_eq_true] at h
    obtain ⟨h1, h2⟩ := ckTs_len h.2
    exact ⟨by rw [List.length_cons, List.length_cons, h1], by rw [List.all_cons, h.1.2, h2]; rfl⟩
  | [], _ :: _, h => by cases h
  | _ :: _, [], h => by cases h
mutual
theorem ckT_ok (K : CtxOk X c C PS k) : ∀ {t : Tg} {e : Expr} {b : Bool}, ckT c t e = true → (b = true → isTu t = true) → PG X e (gT X.K t b)
  | .n i, .Name x p, b, h, hb => by
    unfold ckT at h
    simp only [Bool.and_eq_true] at h
    cases b with
    | true => exact absurd (hb rfl) (by simp [isTu])
    | false =>
      obtain ⟨h1, h2⟩ := st_of K h.2
      exact dg_name (by rw [K.N]; exact K.nd) (nm_of K h.1) h1 h2
  | .tu ts, .Tuple es kk p, b, h, _ => by
    unfold ckT at h
    obtain ⟨h1, h2⟩ := ckTs_len h
    exact dg_tup K.calm (ckTs_ok K h) h1 h2
  | .n _, .BoolOp .., _, h, _ => by cases h
  | .n _, .NamedExpr .., _, h, _ => by cases h
  | .n _, .BinOp .., _, h, _ => by cases h
  | .n _, .UnaryOp .., _, h, _ => by cases h
  | .n _, .Lambda .., _, h, _ => by cases h
  | .n _, .IfExp .., _, h, _ => by cases h
  | .n _, .Dict .., _, h, _ => by cases h
  | .n _, .Set .., _, h, _ => by cases h
  | .n _, .ListComp .., _, h, _ => by cases h
  | .n _, .SetComp .., _, h, _ => by cases h
  | .n _, .DictComp .., _, h, _ => by cases h
  | .n _, .GeneratorExp .., _, h, _ => by cases h
  | .n _, .Await .., _, h, _ => by cases h
  | .n _, .Yield .., _, h, _ => by cases h
  | .n _, .YieldFrom .., _, h, _ => by cases h
  | .n _, .Compare .., _, h, _ => by cases h
  | .n _, .Call .., _, h, _ => by cases h
  | .n _, .FormattedValue .., _, h, _ => by cases h
  | .n _, .JoinedStr .., _, h, _ => by cases h
  | .n _, .Constant .., _, h, _ => by cases h
  | .n _, .Attribute .., _, h, _ => by cases h
  | .n _, .Subscript .., _, h, _ => by cases h
  | .n _, .Starred .., _, h, _ => by cases h
  | .n _, .List .., _, h, _ => by cases h
  | .n _, .Tuple .., _, h, _ => by cases h
  | .n _, .Slice .., _, h, _ => by cases h
  | .tu _, .BoolOp .., _, h, _ => by cases h
  | .tu _, .NamedExpr .., _, h, _ => by cases h
  | .tu _, .BinOp .., _, h, _ => by cases h
  | .tu _, .UnaryOp .., _, h, _ => by cases h
  | .tu _, .Lambda .., _, h, _ => by cases h
  | .tu _, .IfExp .., _, h, _ => by cases h
  | .tu _, .Dict .., _, h, _ => by cases h
  | .tu _, .Set .., _, h, _ => by cases h
  | .tu _, .ListComp .., _, h, _ => by cases h
  | .tu _, .SetComp .., _, h, _ => by cases h
  | .tu _, .DictComp .., _, h, _ => by cases h
  | .tu _, .GeneratorExp .., _, h, _ => by cases h
  | .tu _, .Await .., _, h, _ => by cases h
  | .tu _, .Yield .., _, h, _ => by cases h
  | .tu _, .YieldFrom .., _, h, _ => by cases h
  | .tu _, .Compare .., _, h, _ => by cases h
  | .tu _, .Call .., _, h, _ => by cases h
  | .tu _, .FormattedValue .., _, h, _ => by cases h
  | .tu _, .JoinedStr .., _, h, _ => by cases h
  | .tu _, .Constant .., _, h, _ => by cases h
  | .tu _, .Attribute .., _, h, _ => by cases h
  | .tu _, .Subscript .., _, h, _ => by cases h
  | .tu _, .Starred .., _, h, _ => by cases h
  | .tu _, .Name .., _, h, _ => by cases h
  | .tu _, .List .., _, h, _ => by cases h
  | .tu _, .Slice .., _, h, _ => by cases h
theorem ckTs_ok (K : CtxOk X c C PS k) : ∀ {ts : List Tg} {es : List Expr}, ckTs c ts es = true → PGs X es (gTs X.K ts)
  | [], [], _ => dgs_nil
  | t :: ts, e :: es, h => by
    unfold ckTs at h
    simp only [Bool.and_eq_true] at h
    exact dgs_cons (ckT_ok K h.1.1 (fun z => nomatch z)) (ckTs_ok K h.2) h.1.2
  | [], _ :: _, h => by cases h
  | _ :: _, [], h => by cases h
end
def pairI : I → Bool
  | .enum _ => true
  | .zip _ _ => true
  | _ => false
def isTupE : Expr → Bool
  | .Tuple _ _ _ => true
  | _ => false
def ckI (r : Ck) (c : CC) (it : I) (ex : Expr) : Bool :=
  match it with
  | .e a => r c a ex && notSet ex
  | .rng as => (match ex with
    | .Call (.Name x _) es [] _ => x == ("range" : Str) && glB c x && cks r c as es && (as.length == 1 || as.length == 2)
    | _ => false)
  | .enum a => (match ex with
    | .Call (.Name x _) [e] [] _ => x == ("enumerate" : Str) && glB c x && noStar e && r c a e
    | _ => false)
  | .zip _ _ => false
theorem ckI_ok (hr : Good C G PS k r) (K : CtxOk X c C PS k) {it : I} {ex tg : Expr} (h : ckI r c it ex = true) (ht : pairI it = true → isTupE tg = true) : DI X tg ex (pairI it) (denI C G it) ∧ notSet ex = true := by
  cases it with
  | e a =>
    unfold ckI at h
    simp only [Bool.and_eq_true] at h
    exact ⟨di_e (hr c a _ X K h.1).e, h.2⟩
  | rng as =>
    unfold ckI at h
    simp only at h
    split at h
    · rename_i x p es p2
      simp only [Bool.and_eq_true, Bool.or_eq_true] at h
      obtain ⟨⟨⟨hx, hg⟩, hs⟩, hn⟩ := h
      have hx := eq_of_beq hx
      subst hx
      have hG := gl_of K hg
      have hM := blt_of K (x := "range") (by decide +kernel)
      obtain ⟨a1, a2, a3⟩ := cks_ok hr K hs
      refine ⟨?_, rfl⟩
      show DI X tg _ false (fun e S => (dens C G as e S).bind fun xs S1 => R.opt S1 ((rangeOf as.length xs).map fun q => ⟨rangeD q.1 q.2, []⟩))
      rcases hn with hn | hn
      · have hn := eq_of_beq hn
        rw [hn]
        match es, a3 with
        | [e], _ =>
          simp only [List.all_cons, List.all_nil, Bool.and_true] at a2
          exact di_rng1 hG hM a1 a2
        | [], a3 => rw [hn] at a3; cases a3
        | _ :: _ :: _, a3 => rw [hn] at a3; simp at a3
      · have hn := eq_of_beq hn
        rw [hn]
        match es, a3 with
        | [e, e2], _ =>
          simp only [List.all_cons, List.all_nil, Bool.and_true, Bool.and_eq_true] at a2
          exact di_rng2 hG hM a1 a2.1 a2.2
        | [], a3 => rw [hn] at a3; cases a3
        | [_], a3 => rw [hn] at a3; simp at a3
        | _ :: _ :: _ :: _, a3 => rw [hn] at a3; simp at a3
    · cases h
  | enum a =>
    unfold ckI at h
    simp only at h
    split at h
    · simp only [Bool.and_eq_true] at h
      obtain ⟨⟨⟨hx, hg⟩, hs⟩, h1⟩ := h
      have hx := eq_of_beq hx
      subst hx
      have htt := ht rfl
      cases tg with
      | Tuple elts kk tpos => exact ⟨di_enum (gl_of K hg) (blt_of K (x := "enumerate") (by decide +kernel)) (hr c a _ X K h1).e hs, rfl⟩
      | _ => cases htt
    · cases h
  | zip _ _ => cases h
def ownP (c : CC) (own : List Nat) : List (Str × Nat) := own.map fun i => (c.N.getD i ⟨#[]⟩, i)
theorem ownP_snd (c : CC) (own : List Nat) : (ownP c own).map (·.2) = own := by
  unfold ownP
  rw [List.map_map]
  induction own with
  | nil => rfl
  | cons a l ih => rw [List.map_cons, ih]; rfl
def ckIfs (r : Ck) (c : CC) : Option E → List Expr → Bool
  | none, [] => true
  | some a, [e] => r c a e && !isIte e
  | _, _ => false
theorem ckIfs_ok (hr : Good C G PS k r) (K : CtxOk X c C PS k) {o : Option E} {ifs : List Expr} (h : ckIfs r c o ifs = true) {W : WX} (tk : Takes X W) : PTs X ifs (tT X.K X.mg (denT C G o) W) := by
  unfold ckIfs at h
  split at h
  · exact pts_of (.inl ⟨rfl, rfl⟩)
  · simp only [Bool.and_eq_true, Bool.not_eq_true'] at h
    exact pts_of (.inr ⟨_, rfl, ((hr c _ _ X K h.1).t h.2).canon tk⟩)
  · cases h
def isFun (s : Scope) : Bool := match s.kind with | .function => true | _ => false
theorem isFun_of {s : Scope} (h : isFun s = true) : s.kind = .function := by
  unfold isFun at h
  split at h
  · assumption
  · cases h
/-- what a comprehension of the text is -/
def ckComp (r : Ck) (c : CC) (tg : Tg) (it : I) (own : List Nat) (ifs : Option E) (elt : E) : Expr → Bool
  | .ListComp elt' [⟨tg', iter', ifs', asy⟩] scope _ => decide (asy = 0) && isFun scope && blkC c.N c.sc scope (ownP c own) && ckI r c it iter' && (!pairI it || (isTupE tg' && isTu tg)) && tg.slots.all (fun j => own.contains j) &&
      ckT (c.blk scope) tg tg' && ckIfs r (c.blk scope) ifs ifs' && r (c.blk scope) elt elt'
  | _ => false
/-- what the rules of a comprehension want -/
structure CompOk (X : Cx) (C : Nat → List D → Sto → R D) (G : Nat → Option D) (own : List Nat) (tg : Tg) (it : I) (ifs : Option E) (elt : E) (ownS : List (Str × Nat)) (scope : Scope) (tg' iter' : Expr) (ifs' : List Expr) (elt' : Expr) : Prop where
  f_own : ownS.map (·.2) = own
  f_it : DI X tg' iter' (pairI it) (denI C G it)
  f_ns : notSet iter' = true
  f_blk : BlkOk X.N X.env.scope scope ownS
  f_tg : ∀ (s : Shared) (H : Hp) (C : Addr) (cl : List (Str × Addr)) (fp : List Addr), PG (X.blk s H scope (compEnvC scope cl C X.env) fp) tg' (gT X.K tg (pairI it))
  f_ifs : ∀ (s : Shared) (H : Hp) (Ca : Addr) (cl : List (Str × Addr)) (fp : List Addr), PTs (X.blk s H scope (compEnvC scope cl Ca X.env) fp) ifs' (tT X.K X.mg (denT C G ifs) W0)
  f_elt : ∀ (s : Shared) (H : Hp) (Ca : Addr) (cl : List (Str × Addr)) (fp : List Addr), PE (X.blk s H scope (compEnvC scope cl Ca X.env) fp) elt' (tE X.K X.mg (den C G elt).v W0)
  f_sl : ∀ j ∈ tg.slots, j ∈ own
theorem ckComp_ok (hr : Good C G PS k r) (K : CtxOk X c C PS k) {tg : Tg} {it : I} {own : List Nat} {ifs : Option E} {elt : E} {ex : Expr} (h : ckComp r c tg it own ifs elt ex = true) :
    ∃ elt' tg' iter' ifs' scope pos, ex = .ListComp elt' [⟨tg', iter', ifs', 0⟩] scope pos ∧ CompOk X C G own tg it ifs elt (ownP c own) scope tg' iter' ifs' elt' := by
  unfold ckComp at h
  split at h
  · rename_i elt' tg' iter' ifs' asy scope pos
    simp only [Bool.and_eq_true, decide_eq_true_eq] at h
    obtain ⟨⟨⟨⟨⟨⟨⟨⟨rfl, hf⟩, hb⟩, hi⟩, hp⟩, hsl⟩, ht⟩, hif⟩, he⟩ := h
    have hf := isFun_of hf
    have hpp : pairI it = true → isTupE tg' = true ∧ isTu tg = true := fun z => by
      rw [z] at hp
      simpa using hp
    obtain ⟨i1, i2⟩ := ckI_ok hr K hi fun z => (hpp z).1
    refine ⟨elt', tg', iter', ifs', scope, pos, rfl, ownP_snd c own, i1, i2, ?_, fun s H Ca cl fp => ?_, fun s H Ca cl fp => ?_, fun s H Ca cl fp => ?_, fun j hj => ?_⟩
    · rw [K.N, K.sc]; exact blkOk_by hb
    · exact ckT_ok (K.blk hf s H Ca cl fp) ht fun z => (hpp z).2
    · exact ckIfs_ok hr (K.blk hf s H Ca cl fp) hif takes0
    · exact (hr _ _ _ _ (K.blk hf s H Ca cl fp) he).e.canon takes0
    · have := List.all_eq_true.mp hsl j hj
      simpa using this
  · cases h
theorem comp_den {tg : Tg} {it : I} {own : List Nat} {ifs : Option E} {elt : E} {bx : Bool} {elt' tg' iter' : Expr} {ifs' : List Expr} {scope : Scope} {pos : Pos} {ownS : List (Str × Nat)} (K : CtxOk X c C PS k) (h : CompOk X C G own tg it ifs elt ownS scope tg' iter' ifs' elt') :
    Snd X (.ListComp elt' [⟨tg', iter', ifs', 0⟩] scope pos) (den C G (.comp bx tg it own ifs elt)) := by
  have z := de_comp (bx := bx) (pos := pos) K.calm (by rw [K.N]; exact K.nd) h.f_it h.f_blk h.f_tg h.f_ifs h.f_elt (by rw [h.f_own]; exact h.f_sl) h.f_ns
  rw [h.f_own] at z
  exact .plain z rfl
/-! ### all constructors -/
def single : Expr → Option Expr
  | .BoolOp _ [e] _ => some e
  | _ => none
def ckStep (r : Ck) : Ck := fun c ir ex => match single ex with
  | some e => r c ir e && !isIte e
  | none => match ir with
    | .v i => ckV c i ex
    | .k d => ckK d ex
    | .g _ => false
    | .bin o _ a b => ckBin r c o a b ex
    | .neg a => ckNeg r c a ex
    | .cmp o a b => ckCmp r c o a b ex
    | .cmp2 o o' a b d => ckCmp2 r c o o' a b d ex
    | .isk ng a d => ckIsk r c ng a d ex
    | .and a b => ckAnd r c a b ex
    | .or a b => ckOr r c a b ex
    | .not a => ckNot r c a ex
    | .ite t a b => ckIte r c t a b ex
    | .call f as => ckCall r c f as ex
    | .callk f as bs ord => ckCallk r c f as bs ord ex
    | .pr p _ as => ckPr r c p as ex
    | .isi a t => ckIsi r c a t ex
    | .ix a b => ckIx r c a b ex
    | .sl _ a lo hi => ckSl r c a lo hi ex
    | .rev _ a => ckRev r c a ex
    | .tup as => ckTup r c as ex
    | .lst _ as => ckLst r c as ex
    | .dct0 _ => false
    | .mth p _ o as => ckMth r c p o as ex
    | .comp _ tg it own ifs elt => ckComp r c tg it own ifs elt ex
    | .dcomp .. => false
theorem ckStep_ok (hr : Good C G PS k r) : Good C G PS k (ckStep r) := by
  intro c ir ex X K h
  unfold ckStep at h
  split at h
  · rename_i e he
    simp only [Bool.and_eq_true, Bool.not_eq_true'] at h
    have s := hr c ir e X K h.1
    unfold single at he
    split at he
    · rename_i op e' pos
      cases he
      have w : DW X (.BoolOp op [e] pos) (den C G ir).t := by
        cases op
        · exact dw_and1 (s.t h.2)
        · exact dw_or1 (s.t h.2)
      exact ⟨de_one s.e, fun _ => w.dt, fun _ _ _ _ => w⟩
    · cases he
  · cases ir with
    | v i => exact ckV_ok K h
    | k d => exact ckK_ok h
    | bin o bx a b => exact ckBin_ok hr K h
    | neg a => exact ckNeg_ok hr K h
    | cmp o a b => exact ckCmp_ok hr K h
    | cmp2 o o' a b d => exact ckCmp2_ok hr K h
    | isk ng a d => exact ckIsk_ok hr K h
    | and a b => exact ckAnd_ok hr K h
    | or a b => exact ckOr_ok hr K h
    | not a => exact ckNot_ok hr K h
    | ite t a b => exact ckIte_ok hr K h
    | call f as => exact ckCall_ok hr K h
    | callk f as bs ord => exact ckCallk_ok hr K h
    | pr p bx as => exact ckPr_ok hr K h
    | isi a t => exact ckIsi_ok hr K h
    | ix a b => exact ckIx_ok hr K h
    | sl bx a lo hi => exact ckSl_ok hr K h
    | rev bx a => exact ckRev_ok hr K h
    | tup as => exact ckTup_ok hr K h
    | lst bx as => exact ckLst_ok hr K h
    | mth p bx o as => exact ckMth_ok hr K h
    | comp bx tg it own ifs elt =>
      obtain ⟨elt', tg', iter', ifs', scope, pos, rfl, z⟩ := ckComp_ok hr K h
      exact comp_den K z
    | g _ => cases h
    | dct0 _ => cases h
    | dcomp _ _ _ _ _ _ => cases h
/-- so many levels deep -/
def ckN : Nat → Ck
  | 0 => fun _ _ _ => false
  | n + 1 => ckStep (ckN n)
theorem ckN_ok : ∀ n, Good C G PS k (ckN n)
  | 0 => fun _ _ _ _ _ h => nomatch h
  | n + 1 => ckStep_ok (ckN_ok n)
end
end Pw

set_option Elab.async false
set_option linter.all false
set_option maxRecDepth 100000
set_option maxHeartbeats 1000000
namespace Pw
open PySem PySem.Spec PyProof.Rows L2
/-! ## the check of statements -/
def locName (sc : Scope) (line : Nat) : Expr → Option Str
  | .Name id pos => if sc.names.lookup id == some .local && pos.line == line then some id else none
  | _ => none
theorem locName_eq (env : Env) (line : Nat) : (fun e : Expr => match e with
    | .Name id pos => if (env.kindOf id == some .local && pos.line == line) = true then some id else none
    | _ => none) = locName env.scope line := by
  funext e
  cases e <;> rfl
def lineOf (ts : List Expr) : Nat := (ts.head?.map (·.pos.line)).getD 0
/-- no stores are swapped -/
def swNone (sc : Scope) (ts vs : List Expr) : Bool := (ts.filterMap (locName sc (lineOf ts))).length != ts.length || vs.all (foldedForSure 8)
theorem swNone_of {env : Env} {ts vs : List Expr} {k1 k2 : Nat} {p1 p2 : Pos} (h : swNone env.scope ts vs = true) : swappedStores [.Tuple ts k1 p1] (.Tuple vs k2 p2) env = pure none := by
  unfold swNone at h
  rw [Bool.or_eq_true] at h
  unfold swappedStores
  simp only [locName_eq]
  split
  · rfl
  · split
    · rfl
    · split
      · rfl
      · rename_i h3
        rcases h with h | h
        · exact absurd (by rw [Bool.or_eq_true]; exact .inl h) h3
        · rw [if_pos h]
def swPar (sc : Scope) (x y : Str) (px py : Pos) (a b : Expr) : Bool :=
  (sc.names.lookup x == some .local) && (sc.names.lookup y == some .local) && (px.line == py.line) && !(x == y) && noStar a && noStar b && !([a, b].all (foldedForSure 8)) && !([a, b].all (constantsAlone 8))
theorem swPar_of {env : Env} {x y : Str} {px py p1 p2 : Pos} {k1 k2 : Nat} {a b : Expr} (hk : env.scope.kind = .function) (h : swPar env.scope x y px py a b = true) :
    swappedStores [.Tuple [.Name x px, .Name y py] k1 p1] (.Tuple [a, b] k2 p2) env = pure (some [x, y]) := by
  unfold swPar at h
  simp only [Bool.and_eq_true, Bool.not_eq_true'] at h
  obtain ⟨⟨⟨⟨⟨⟨⟨h1, h2⟩, h3⟩, h4⟩, h5⟩, h6⟩, h7⟩, h8⟩ := h
  have hb : env.blockKind = .function := by unfold Env.blockKind; rw [hk]; rfl
  have hn : ([Expr.Name x px, Expr.Name y py].filterMap (locName env.scope (lineOf [Expr.Name x px, Expr.Name y py]))) = [x, y] := by
    have e1 : lineOf [Expr.Name x px, Expr.Name y py] = px.line := rfl
    rw [e1]
    simp only [List.filterMap_cons, List.filterMap_nil, locName, h1, h2, beq_self_eq_true, Bool.and_self, if_true, Bool.true_and]
    have : (py.line == px.line) = true := by rw [beq_iff_eq] at h3 ⊢; exact h3.symm
    simp [this]
  have hd : [x, y].eraseDups.length = 2 := by
    have hyx : (y == x) = false := by
      cases e : y == x with
      | false => rfl
      | true => rw [eq_of_beq e] at h4; simp at h4
    simp [List.eraseDups, List.eraseDupsBy, List.eraseDupsBy.loop, h4, hyx]
  unfold swappedStores
  have hT : ∀ b : Bool, b = false → ¬ (b = true) := fun b h => by rw [h]; exact Bool.false_ne_true
  refine (if_neg (hT _ (by rw [hb]; rfl))).trans ((if_neg (fun h => ?_)).trans ((if_neg (fun h => ?_)).trans ((if_neg (hT _ h7)).trans ((if_neg (hT _ h8)).trans ?_))))
  · obtain ⟨e, he, hs⟩ := List.any_eq_true.mp h
    simp only [List.mem_cons, List.not_mem_nil, or_false] at he
    rcases he with rfl | rfl
    · cases e <;> first | (cases hs; done) | (cases h5; done)
    · cases e <;> first | (cases hs; done) | (cases h6; done)
  · replace h : ((([Expr.Name x px, Expr.Name y py].filterMap (locName env.scope (lineOf [Expr.Name x px, Expr.Name y py]))).length != 2) || (([Expr.Name x px, Expr.Name y py].filterMap (locName env.scope (lineOf [Expr.Name x px, Expr.Name y py]))).eraseDups.length != ([Expr.Name x px, Expr.Name y py].filterMap (locName env.scope (lineOf [Expr.Name x px, Expr.Name y py]))).length)) = true := h
    rw [hn, hd] at h
    cases h
  · exact congrArg (fun l : List Str => (pure (some l) : Sem (Option (List Str)))) hn
/-- whether the display's list is stored at once -/
def swLc (sc : Scope) (x : Str) (px : Pos) (scope : Scope) (p : Pos) : Bool := (sc.names.lookup x == some .local) && (px.line == p.line) && !(scope.names.any fun (n, k) => n == x && (k == .local || k == .cell))
theorem swLc_of {env : Env} {elt : Expr} {gs : List Comprehension} {scope : Scope} {p py : Pos} {y : Str} {l : Nat} (hk : env.scope.kind = .function) : swapsWith (.ListComp elt gs scope p) (some (.Name y py)) l env = pure (swLc env.scope y py scope p) := by
  have hb : env.blockKind = .function := by unfold Env.blockKind; rw [hk]; rfl
  unfold swapsWith swLc
  simp only [hb, Expr.pos]
  rfl
/-! ### one statement -/
def ckAsg (n : Nat) (c : CC) (t : Tg) (a : E) (tg e : Expr) : Bool :=
  match t with
  | .n i => (match tg with
    | .Name x px => nmB c i x && stB c x && (match e with
      | .ListComp elt gs scope p => if swLc c.sc x px scope p then (match a with
          | .comp _ tg it own ifs el => ckComp (ckN n) c tg it own ifs el (.ListComp elt gs scope p)
          | _ => false) else ckN (n + 1) c a (.ListComp elt gs scope p)
      | e => !isComp e && ckN (n + 1) c a e)
    | _ => false)
  | .tu ts => (match tg with
    | .Tuple es _ _ => (match e with
      | .Tuple vs _ _ => if swNone c.sc es vs then ckTs c ts es && ckN (n + 1) c a e else
        (match es, vs, ts, a with
          | [.Name x px, .Name y py], [ea, eb], [.n i, .n j], .tup as => swPar c.sc x y px py ea eb && nmB c i x && nmB c j y && !(i == j) && cks (ckN n) c as [ea, eb]
          | _, _, _, _ => false)
      | e => !isComp e && ckTs c ts es && ckN (n + 1) c a e)
    | _ => false)
def ckSub (n : Nat) (c : CC) (o i a : E) (tg e : Expr) : Bool :=
  match tg with
  | .Subscript o' i' _ => notSlice i' && !isComp e && ckN n c o o' && ckN n c i i' && ckN n c a e
  | _ => false
mutual
def ckS (n : Nat) (c : CC) : SI → Stmt → Bool
  | .expr a, .Expr e _ => !isComp e && ckN n c a e
  | .ret a, .Return (some e) _ => ckN n c a e
  | .ret0, .Return none _ => true
  | .asg (.g t) a, .Assign [tg] e _ => ckAsg n c t a tg e
  | .asg (.sub o i) a, .Assign [tg] e _ => ckSub n c o i a tg e
  | .ite t a b, .If e x y _ => ckN n c t e && !isIte e && ckSs n c a x && ckSs n c b y
  | .for_ tg it b, .For tg' iter body [] _ => ckI (ckN n) c it iter && (!pairI it || (isTupE tg' && isTu tg)) && ckT c tg tg' && ckSs n c b body
  | .while_ t b, .While e body [] _ => ckN n c t e && !isIte e && ckSs n c b body
  | .pass, .Pass _ => true
  | _, _ => false
def ckSs (n : Nat) (c : CC) : List SI → List Stmt → Bool
  | [], [] => true
  | s :: ss, t :: ts => ckS n c s t && ckSs n c ss ts
  | _, _ => false
end
section
variable {X : Cx} {c : CC} {C : Nat → List D → Sto → R D} {G : Nat → Option D} {PS : Nat → List Str} {k : Nat} {n : Nat} {pos : Pos}
theorem fun_kind (K : CtxOk X c C PS k) : X.env.scope.kind = .function := by rw [K.sc]; exact K.kind
theorem nodup_ (K : CtxOk X c C PS k) : X.N.Nodup := by rw [K.N]; exact K.nd
theorem ckAsg_ok (K : CtxOk X c C PS k) {t : Tg} {a : E} {tg e : Expr} (h : ckAsg n c t a tg e = true) : DS X (.Assign [tg] e pos) (denS C G (.asg (.g t) a)) := by
  show DS X _ (fun env S => ((den C G a).v env S).st env fun x S1 => optS (Tg.put t x S1 env) fun e1 => .nx e1 S1)
  have scE : c.sc = X.env.scope := K.sc.symm
  cases t with
  | n i =>
    unfold ckAsg at h
    simp only at h
    split at h
    · rename_i x px
      rw [Bool.and_eq_true, Bool.and_eq_true] at h
      obtain ⟨⟨hn, hst⟩, h⟩ := h
      obtain ⟨l1, l2⟩ := st_of K hst
      split at h
      · rename_i elt gs scope p
        split at h
        · rename_i hsw
          rw [scE] at hsw
          split at h
          · rename_i bx tg it own ifs el
            obtain ⟨elt', tg', iter', ifs', scope', pos', e1, z⟩ := ckComp_ok (ckN_ok n) K h
            cases e1
            have hl : X.env.scope.names.lookup x = some .local := by
              unfold swLc at hsw
              simp only [Bool.and_eq_true] at hsw
              exact eq_of_beq hsw.1.1
            have q := ds_setLc (pos := pos) (bx := bx) K.calm (nodup_ K) (nm_of K hn) hl (by rw [swLc_of (fun_kind K), hsw]) z.f_it z.f_blk z.f_tg z.f_ifs z.f_elt (by rw [z.f_own]; exact z.f_sl) z.f_ns
            rw [z.f_own] at q
            exact q
          · cases h
        · rename_i hsw
          rw [scE] at hsw
          have hsw := Bool.eq_false_iff.mpr hsw
          exact ds_set (nodup_ K) (nm_of K hn) l1 (ckN_ok (n + 1) c a _ X K h).e (by rw [swLc_of (fun_kind K), hsw]) l2
      · rw [Bool.and_eq_true, Bool.not_eq_true'] at h
        exact ds_set (nodup_ K) (nm_of K hn) l1 (ckN_ok (n + 1) c a _ X K h.2).e (sw_nc h.1) l2
    · cases h
  | tu ts =>
    unfold ckAsg at h
    simp only at h
    split at h
    · rename_i es kk p
      split at h
      · rename_i vs k2 p2
        split at h
        · rename_i hsw
          rw [scE] at hsw
          rw [Bool.and_eq_true] at h
          obtain ⟨z1, z2⟩ := ckTs_len h.1
          exact ds_asg (ckN_ok (n + 1) c a _ X K h.2).e (dg_tup K.calm (ckTs_ok K h.1) z1 z2) rfl (swNone_of hsw) rfl
        · split at h
          · rename_i x px y py ea eb i j as _
            simp only [Bool.and_eq_true, Bool.not_eq_true'] at h
            obtain ⟨⟨⟨⟨hp, h1⟩, h2⟩, h3⟩, h4⟩ := h
            rw [scE] at hp
            have hp' := hp
            unfold swPar at hp'
            simp only [Bool.and_eq_true] at hp'
            have hx := eq_of_beq hp'.1.1.1.1.1.1.1
            have hy := eq_of_beq hp'.1.1.1.1.1.1.2
            obtain ⟨a1, a2, _⟩ := cks_ok (ckN_ok n) K h4
            exact ds_par K.calm (nodup_ K) (nm_of K h1) (nm_of K h2) (by simpa using h3) hx hy a1 (swPar_of (fun_kind K) hp)
          · cases h
      · rename_i e' hne
        simp only [Bool.and_eq_true, Bool.not_eq_true'] at h
        obtain ⟨z1, z2⟩ := ckTs_len h.1.2
        refine ds_asg (ckN_ok (n + 1) c a _ X K h.2).e (dg_tup K.calm (ckTs_ok K h.1.2) z1 z2) (show swapsWith e (some (.Tuple es kk p)) pos.line X.env = pure false from sw_nc h.1.1) ?_ rfl
        cases e with
        | Tuple vs k2 p2 => exact absurd rfl (hne vs k2 p2)
        | _ => rfl
    · cases h
theorem ckSub_ok (K : CtxOk X c C PS k) {o i a : E} {tg e : Expr} (h : ckSub n c o i a tg e = true) : DS X (.Assign [tg] e pos) (denS C G (.asg (.sub o i) a)) := by
  unfold ckSub at h
  split at h
  · rename_i o' i' p'
    simp only [Bool.and_eq_true, Bool.not_eq_true'] at h
    obtain ⟨⟨⟨⟨h1, h2⟩, h3⟩, h4⟩, h5⟩ := h
    exact ds_sub K.hu2 (ckN_ok n c a _ X K h5).e (ckN_ok n c o _ X K h3).e (ckN_ok n c i _ X K h4).e h2 (by intro v; cases i' <;> first | rfl | cases h1)
  · cases h
/-- what a statement's rules want besides -/
abbrev HP (X : Cx) : Prop := PassesOwn (model X.prog X.w) X.A X.env X.xe
theorem snd (K : CtxOk X c C PS k) {a : E} {e : Expr} (h : ckN n c a e = true) : Snd X e (den C G a) := ckN_ok n c a e X K h
mutual
theorem ckS_ok (hp : HP X) (K : CtxOk X c C PS k) : ∀ (s : SI) (st : Stmt), ckS n c s st = true → DS X st (denS C G s)
  | s, st, h => by
    unfold ckS at h
    split at h
    · rw [Bool.and_eq_true, Bool.not_eq_true'] at h
      exact ds_expr (snd K h.2).e h.1
    · exact ds_ret (snd K h).e
    · exact ds_ret0
    · exact ckAsg_ok K h
    · exact ckSub_ok K h
    · simp only [Bool.and_eq_true, Bool.not_eq_true'] at h
      exact ds_if ((snd K h.1.1.1).t h.1.1.2) (ckSs_ok hp K _ _ h.1.2) (ckSs_ok hp K _ _ h.2)
    · rename_i tg it b tg' iter body p
      simp only [Bool.and_eq_true] at h
      obtain ⟨⟨⟨h1, h2⟩, h3⟩, h4⟩ := h
      have hpp : pairI it = true → isTupE tg' = true ∧ isTu tg = true := fun z => by
        rw [z] at h2
        simpa using h2
      obtain ⟨i1, i2⟩ := ckI_ok (G := G) (ckN_ok n) K h1 fun z => (hpp z).1
      exact ds_for hp K.calm i1 (ckT_ok K h3 fun z => (hpp z).2) (ckSs_ok hp K _ _ h4) i2
    · simp only [Bool.and_eq_true, Bool.not_eq_true'] at h
      exact ds_while hp ((snd K h.1.1).t h.1.2) (ckSs_ok hp K _ _ h.2)
    · exact ds_pass
    · cases h
theorem ckSs_ok (hp : HP X) (K : CtxOk X c C PS k) : ∀ (ss : List SI) (sts : List Stmt), ckSs n c ss sts = true → DSs X sts (denSs C G ss)
  | [], [], _ => dss_nil
  | s :: ss, t :: ts, h => by
    unfold ckSs at h
    rw [Bool.and_eq_true] at h
    exact dss_cons (ckS_ok hp K s t h.1) (ckSs_ok hp K ss ts h.2)
  | [], _ :: _, h => by cases h
  | _ :: _, [], h => by cases h
end
end
end Pw

set_option Elab.async false
set_option linter.all false
set_option maxRecDepth 100000
set_option maxHeartbeats 1000000
namespace Pw
open PySem PySem.Spec PyProof.Rows L2
/-! ## all defs -/
structure FD where
  x : Str
  qual : Str
  st : Stmt
  N : List Str
  ps : List Str
  F : Fn
def fsOf (L : List FD) (f : Nat) : Option Fn := (L[f]?).map (·.F)
def psOf (L : List FD) (f : Nat) : List Str := match L[f]? with | some d => d.ps | none => []
def fnOfL (L : List FD) : List Str := L.map (·.x)
/-- the scope of a def -/
def scB (N ps : List Str) (sc : Scope) : Bool := isFun sc && !sc.isCoroutine && !sc.isGenerator && decide N.Nodup && decide (N.take ps.length = ps) &&
  ps.all (fun x => match sc.names.lookup x with | some .local => true | some .cell => true | _ => false) && sc.names.all (fun y => match y.2 with | .free => false | _ => true)
theorem scB_of {N ps : List Str} {sc : Scope} (h : scB N ps sc = true) : FnScope N ps sc := by
  unfold scB at h
  simp only [Bool.and_eq_true, Bool.not_eq_true', decide_eq_true_eq] at h
  obtain ⟨⟨⟨⟨⟨⟨h1, h2⟩, h3⟩, h4⟩, h5⟩, h6⟩, h7⟩ := h
  refine ⟨isFun_of h1, h2, h3, h4, h5, fun x hx => ?_, fun y hy e => ?_⟩
  · have q := List.all_eq_true.mp h6 x hx
    split at q
    · exact .inl (by assumption)
    · exact .inr (by assumption)
    · cases q
  · have q := List.all_eq_true.mp h7 y hy
    rw [e] at q
    cases q
def ccOf (L : List FD) (KS : List KSh) (d : FD) : CC := ⟨d.N, defScope d.st, fun _ => true, fnOfL L, KS⟩
/-- one def's term is what its text says -/
def fdB (n : Nat) (L : List FD) (KS : List KSh) (d : FD) : Bool := scB d.N d.ps (defScope d.st) && ckSs n (ccOf L KS d) d.F.body (defBody d.st) && d.F.slots == d.N.length && d.F.pars == d.ps.length && !(d.x == ("__debug__" : Str))
section
variable {P : Program} {w : World} {K : PySem.W.Frag} {mg : Str → Option Value} {base : Heap}
abbrev FunP (K : PySem.W.Frag) (d : FD) (fa : Addr) (fd : FuncData) : Prop := FunD K d.x d.qual (defArgs d.st) (defBody d.st) (defScope d.st) [] [] fa fd
theorem gO_vals {ord : List Nat} : ∀ {vs zs : List V} {us ws : List Value}, Vals vs us → Vals zs ws → Vals (gO V.non ord vs zs) (gO Value.none ord us ws) := by
  intro vs zs us ws r q
  have z := r.append q
  have get : ∀ {xs : List V} {ys : List Value}, Vals xs ys → ∀ j, RelV (xs.getD j .non) (ys.getD j .none) := by
    intro xs ys h
    induction h with
    | nil => intro j; exact rfl
    | cons r t ih =>
      intro j
      cases j with
      | zero => exact r
      | succ j => simpa using ih j
  unfold gO
  induction ord with
  | nil => exact .nil
  | cons j l ih => exact .cons (get z j) ih
/-- how a def's parameters bind -/
def Bnd (d : FD) : Prop := ∀ (kV doc pm : Value) (an : Option Addr) (cdv ct : Value) (us : List Value), us.length = d.ps.length → bindArgs (PySem.W.fnOf d.x d.qual (defArgs d.st) (defBody d.st) (defScope d.st) .none kV doc pm an cdv ct) ⟨us, []⟩ = pure (d.ps.zip us)
def BndK (d : FD) (q : KSh) : Prop := ∀ (kV doc pm : Value) (an : Option Addr) (cdv ct : Value) (us ws : List Value), us.length = q.n → ws.length = q.ks.length →
  bindArgs (PySem.W.fnOf d.x d.qual (defArgs d.st) (defBody d.st) (defScope d.st) .none kV doc pm an cdv ct) ⟨us, q.ks.zip ws⟩ = pure (d.ps.zip (gO Value.none q.ord us ws))
theorem bndK_of {K : PySem.W.Frag} {d : FD} {fa : Addr} {fd : FuncData} {q : KSh} (F : FunP K d fa fd) (h : BndK d q) : KBn K fd d.ps q.n q.ks (gO Value.none q.ord) (gO V.non q.ord) := by
  obtain ⟨oc, od, dV, kV, doc, pm, an, cdv, ct, osl, rfl, lk, hcd, hD, hK⟩ := F.ex
  rcases hD with ⟨_, rfl⟩ | ⟨e, _⟩
  · exact ⟨fun s us ws _ l1 l2 => .of_eq (h kV doc pm an cdv ct us ws l1 l2), fun r1 r2 => gO_vals r1 r2⟩
  · exact absurd rfl e
/-- what stands behind the top -/
structure Top (K : PySem.W.Frag) (mg : Str → Option Value) (L : List FD) (KS : List KSh) : Prop where
  fns : ∀ (f : Nat) (d : FD), L[f]? = some d → ∃ fa fd, FunP K d fa fd ∧ mg d.x = some (.ref fa) ∧ Binds K fd d.ps [] ∧ ∀ q ∈ KS, q.f = f → KBn K fd d.ps q.n q.ks (gO Value.none q.ord) (gO V.non q.ord)
  blt : ∀ x ∈ bltNames, mg x = none
theorem psOf_get {L : List FD} {f : Nat} {d : FD} (h : L[f]? = some d) : psOf L f = d.ps := by unfold psOf; rw [h]
theorem all_fns {L : List FD} {KS : List KSh} {G : Nat → Option D} {nf : Nat} (T : Top K mg L KS) (hC : ∀ d ∈ L, fdB nf L KS d = true) : ∀ (n : Nat) (f : Nat) (d : FD), L[f]? = some d → ∀ fa fd, FunP K d fa fd → FnOk P w K mg base (L2.CX P w) n fa fd d.ps (spC K mg (callN (fsOf L) G n) f)
  | 0, f, d, hd, fa, fd, hF => ⟨fun vs H Q E ⟨_, _, _, _, _, h⟩ => h.elim, fun A outer s H args us vs Q E _ _ _ _ ⟨_, _, _, _, _, h⟩ => h.elim⟩
  | n + 1, f, d, hd, fa, fd, hF => by
    have hc := hC d (List.mem_of_getElem? hd)
    unfold fdB at hc
    simp only [Bool.and_eq_true, beq_iff_eq] at hc
    obtain ⟨⟨⟨⟨c1, c2⟩, c3⟩, c4⟩, c5⟩ := hc
    have hS := scB_of c1
    have unf : ∀ (ds : List D) (S : Sto), callN (fsOf L) G (n + 1) f ds S = if ds.length = d.F.pars then closeR d.F.fz S (denSs (callN (fsOf L) G n) G d.F.body (ds.map some ++ List.replicate (d.F.slots - d.F.pars) none) S) else .bad := by
      intro ds S
      show (match fsOf L f with
        | some F => if ds.length = F.pars then closeR F.fz S (denSs (callN (fsOf L) G n) G F.body (ds.map some ++ List.replicate (F.slots - F.pars) none) S) else .bad
        | none => .bad) = _
      have : fsOf L f = some d.F := by unfold fsOf; rw [hd]; rfl
      rw [this]
    refine FunD.ok hF hS (fun vs H Q E ⟨M, S, ds, rd, rs, h⟩ => ?_) fun cdv A outer s H vs Q E hr ⟨M, S, ds, rd, rs, h⟩ => ?_
    · rw [unf] at h
      split at h
      · rename_i hl
        rw [← rd.length, hl, c4]
      · exact h.elim
    · rw [unf] at h
      split at h
      · rename_i hl
        have KO : CtxOk (cxOf (L2.CX P w) P w K mg base d.N d.qual (defScope d.st) fa cdv A outer s H E) (ccOf L KS d) (callN (fsOf L) G n) (psOf L) n := by
          refine ⟨rfl, hS.nd, rfl, rfl, rfl, hr, hS.kind, ⟨fun g x hg => ?_⟩, T.blt⟩
          have hg' : (L.map (·.x))[g]? = some x := hg
          rw [List.getElem?_map] at hg'
          obtain ⟨d2, hd2, rfl⟩ := Option.map_eq_some_iff.mp hg'
          have hc2 := hC d2 (List.mem_of_getElem? hd2)
          unfold fdB at hc2
          simp only [Bool.and_eq_true, Bool.not_eq_true'] at hc2
          obtain ⟨fa2, fd2, F2, m2, b2, k2⟩ := T.fns g d2 hd2
          refine ⟨hc2.2, fa2, fd2, m2, F2.kp, ?_, ?_, fun q hq e => ?_⟩
          · rw [psOf_get hd2]; exact b2
          · rw [psOf_get hd2]; exact all_fns T hC n g d2 hd2 fa2 fd2 F2
          · rw [psOf_get hd2]; exact k2 q hq e
        have tk : Takes (cxOf (L2.CX P w) P w K mg base d.N d.qual (defScope d.st) fa cdv A outer s H E) (fun cls dd _ H => E cls dd H) := takes_of rfl rfl rfl rfl
        have hp : HP (cxOf (L2.CX P w) P w K mg base d.N d.qual (defScope d.st) fa cdv A outer s H E) := passes_of rfl
        refine ⟨_, ckSs_ok (G := G) hp KO _ _ c2 _ tk, M, _, S, ?_, rs, close_ok rs h⟩
        have e1 : d.N.length = ds.length + (d.F.slots - d.F.pars) := by
          have : d.ps.length ≤ d.N.length := by
            have := congrArg List.length hS.pre
            rw [List.length_take] at this
            omega
          omega
        exact start_rel rd e1
      · exact h.elim
end
/-! ## the head's facts -/
def fnD (L : List FD) : List He.DefD := L.map fun d => ⟨(d.x, none), d.x, d.qual, defArgs d.st, defBody d.st, defScope d.st, [], []⟩
def faD (L : List FD) : List He.Fa := (L.map fun d => He.Fa.glo d.x) ++ bltNames.map He.Fa.free
section
variable {K : PySem.W.Frag} {h : Heap} {mg : Str → Option Value}
theorem top_of {L : List FD} {KS : List KSh} (X : K.In h) (G : h.Ns mainGlobals mg) (c : He.SaysD (faD L) (fnD L) K) (hB : ∀ d ∈ L, Bnd d) (hK : ∀ q ∈ KS, ∀ d, L[q.f]? = some d → BndK d q) : Top K mg L KS := by
  refine ⟨fun f d hd => ?_, fun x hx => ?_⟩
  · have h1 : (fnD L)[f]? = some ⟨(d.x, none), d.x, d.qual, defArgs d.st, defBody d.st, defScope d.st, [], []⟩ := by
      unfold fnD
      rw [List.getElem?_map, hd]
      rfl
    have h2 : (faD L)[f]? = some (.glo d.x) := by
      unfold faD
      have hl : f < L.length := (List.getElem?_eq_some_iff.mp hd).1
      rw [List.getElem?_append_left (by rw [List.length_map]; exact hl), List.getElem?_map, hd]
      rfl
    obtain ⟨fd, F⟩ := c.def_ f h1
    have g := He.glo_ok X G (c.fact f h2)
    refine ⟨_, fd, F, g, FunD.bindsN F (hB d (List.mem_of_getElem? hd)), fun q hq e => bndK_of F (hK q hq d (by rw [e]; exact hd))⟩
  · obtain ⟨i, hi, e⟩ := List.getElem_of_mem hx
    have h2 : (faD L)[L.length + i]? = some (.free x) := by
      unfold faD
      rw [List.getElem?_append_right (by rw [List.length_map]; omega), List.length_map, Nat.add_sub_cancel_left, List.getElem?_map, List.getElem?_eq_getElem hi, e]
      rfl
    exact He.free_ok X G (c.fact _ h2)
theorem script_rel {H : Hp} {a : Addr} {ns : List Int} (hO : Only H) (hS : SqL K H a (ns.map V.int)) : RelD K H ⟨[], []⟩ (.lst (ns.map .int)) (.ref a) := by
  refine .lstF (vs := ns.map V.int) ?_ ?_
  · rcases hS with (h | h) | h
    · rcases hO a with z | ⟨o, xs, z⟩
      · rw [z] at h; cases h
      · rw [z] at h; cases h
    · exact .inl h
    · exact .inr h
  · induction ns with
    | nil => exact .nil
    | cons n r ih =>
      have all : ∀ l : List Int, RelDs K H ⟨[], []⟩ (l.map D.int) (l.map V.int) := by
        intro l
        induction l with
        | nil => exact .nil
        | cons n r ih => exact .cons (.int n) ih
      exact all (n :: r)
/-- the law's walk: what the evaluator says of it is what is asked -/
theorem walk_pure {P : Program} {w : World} {fa : Addr} {L : List FD} {KS : List KSh} {G : Nat → Option D} {nf n fl m : Nat} {dl : FD} {x : Str} (hl : L[fl]? = some dl) (hps : dl.ps = [x]) (X : K.In h) (Gn : h.Ns mainGlobals mg) (hfa : mg dl.x = some (.ref fa)) (c : He.SaysD (faD L) (fnD L) K)
    (hC : ∀ d ∈ L, fdB nf L KS d = true) (hB : ∀ d ∈ L, Bnd d) (hK : ∀ q ∈ KS, ∀ d, L[q.f]? = some d → BndK d q)
    (hp : ∀ ns : List Int, ns.length ≤ m → ∃ S, callN (fsOf L) G n fl [.lst (ns.map .int)] [] = .ok (.bl true) S) :
    ∃ (K : PySem.W.Frag) (fd : FuncData) (sp : Sp), K.In h ∧ (∀ (s : Shared) (u : Value), BindsTo s fd ⟨[u], []⟩ [(x, u)]) ∧
        (∀ (H : Hp) (a : Addr) (ns : List Int), ns.length ≤ m → Only H → SqL K H a (ns.map V.int) → sp [.ref a] H (fun v _ => v = .bl true) fun _ _ _ => False) ∧
        ∀ base : Heap, K.In base → base.Ns mainGlobals mg → FnOk P w K mg base (L2.CX P w) n fa fd [x] sp := by
  have T := top_of (KS := KS) X Gn c hB hK
  obtain ⟨fa2, fd, F, hm, _, _⟩ := T.fns fl dl hl
  have e := hfa.symm.trans hm
  cases e
  refine ⟨K, fd, spC K mg (callN (fsOf L) G n) fl, X, fun s u => ?_, fun H a ns hn hO hS => ?_, fun base _ _ => ?_⟩
  · have b := FunD.bindsA (ps := dl.ps) F (hB dl (List.mem_of_getElem? hl)) s [u] (by rw [hps]; rfl)
    rw [hps] at b
    exact b
  · obtain ⟨S, hS2⟩ := hp ns hn
    refine ⟨⟨[], []⟩, [], [.lst (ns.map .int)], .cons (script_rel hO hS) .nil, ⟨rfl, .nil, fun _ h => (nomatch h), fun l a m h => by cases h⟩, ?_⟩
    rw [hS2]
    intro v H' M' _ _ r
    exact r.bl_
  · have z := all_fns (P := P) (w := w) (base := base) (G := G) T hC n fl dl hl fa fd F
    rw [hps] at z
    exact z
end
theorem walk_ofX {l : PySem.W.OpenLaw} {n k : Nat} {q : Program} {loose : List Str} {XP : (Str → Option Value) → Heap → Prop} {YP : World → Heap → Prop} {d : DefRec} {x : Str}
    (hn : l.most = some n) (hn2 : n ≤ sizeLine) (hdf : d.params.defaults = []) (hr : Room k callerA)
    (F : ∀ (w : World) (mg : Str → Option Value) (fa : Addr) (h : Heap), YP w h → h.Ns mainGlobals mg → mg d.name = some (.ref fa) →
      ∃ (K : PySem.W.Frag) (fd : FuncData) (sp : Sp), K.In h ∧ (∀ (s : Shared) (u : Value), BindsTo s fd ⟨[u], []⟩ [(x, u)]) ∧
        (∀ (H : Hp) (a : Addr) (ns : List Int), ns.length ≤ n → Only H → SqL K H a (ns.map V.int) → sp [.ref a] H (fun v _ => v = .bl true) fun _ _ _ => False) ∧
        ∀ base : Heap, K.In base → base.Ns mainGlobals mg → FnOk l.prog w K mg base (L2.CX l.prog w) k fa fd [x] sp) :
    PySem.W.WalkO q loose XP YP l.row.toRowW d [] (fun f vs => PySem.call f vs) := by
  refine Att.attach_call hn hdf fun w s₀ s₁ mg mb fa o pm cd doc a vs ns G Y ho hd hcd hmg hobj hints hlen hg => ?_
  obtain ⟨K, fd, sp, KX, hb, hsp, hF⟩ := F w mg fa _ Y G.T.g hmg
  refine law_call (CX := L2.CX l.prog w) KX G.T.g G.T.b G.T.builtins G.T.nolimit hg hobj hints (Nat.le_trans hlen hn2) hr hF hb (fun H hO hS => hsp H a ns hlen hO hS) fun H e s' h => ?_
  obtain ⟨_, _, _, _, _, _, _, _, _, _, _, _, z⟩ := h
  exact z
end Pw

set_option Elab.async false
set_option linter.all false
set_option maxRecDepth 100000
set_option maxHeartbeats 1000000
namespace Pw
open PySem PySem.Spec PyProof.Rows L2
/-! # reasoning about the evaluator -/
section
variable {Fs : Nat → Option Fn} {G : Nat → Option D} {n f : Nat} {F : Fn} {ds : List D} {S S' : Sto}
theorem call_eq (h : Fs f = some F) (hl : ds.length = F.pars) : callN Fs G (n + 1) f ds S = closeR F.fz S (denSs (callN Fs G n) G F.body (ds.map some ++ List.replicate (F.slots - F.pars) none) S) := by
  show (match Fs f with
    | some F => if ds.length = F.pars then closeR F.fz S (denSs (callN Fs G n) G F.body (ds.map some ++ List.replicate (F.slots - F.pars) none) S) else .bad
    | none => .bad) = _
  rw [h]
  exact if_pos hl
theorem close_same (d : D) : close S S d = (d, S) := by
  unfold close
  rw [if_pos (Nat.le_refl _)]
@[simp] theorem closeR_ret (d : D) (fz : Bool) : closeR fz S (.ret d S) = .ok d S := by
  cases fz
  · rfl
  · show R.ok (close S S d).1 (close S S d).2 = _
    rw [close_same]
@[simp] theorem closeR_nx (e : Ev) (fz : Bool) : closeR fz S (.nx e S) = .ok .non S := by
  cases fz
  · rfl
  · show R.ok D.non (close S S .non).2 = _
    rw [close_same]
@[simp] theorem closeR_false (d : D) : closeR false S (.ret d S') = .ok d S' := (rfl)
mutual
def D.pure : D → Bool
  | .ref _ => false
  | .tup xs => D.pures xs
  | .lst xs => D.pures xs
  | .dct _ vs => D.pures vs
  | .non => true
  | .bl _ => true
  | .int _ => true
  | .str _ => true
def D.pures : List D → Bool
  | [] => true
  | x :: xs => D.pure x && D.pures xs
end
mutual
theorem frz1_pure {m : Nat} {F : List D → Option (List D)} : ∀ {d : D}, D.pure d = true → frz1 m S F d = some d
  | .non, _ => rfl
  | .bl _, _ => rfl
  | .int _, _ => rfl
  | .str _, _ => rfl
  | .tup xs, h => by
    have h : D.pures xs = true := h
    show (frz1s m S F xs).map D.tup = _
    rw [frz1s_pure h]; rfl
  | .lst xs, h => by
    have h : D.pures xs = true := h
    show (frz1s m S F xs).map D.lst = _
    rw [frz1s_pure h]; rfl
  | .dct ks xs, h => by
    have h : D.pures xs = true := h
    show (frz1s m S F xs).map (D.dct ks) = _
    rw [frz1s_pure h]; rfl
  | .ref _, h => by cases h
theorem frz1s_pure {m : Nat} {F : List D → Option (List D)} : ∀ {ds : List D}, D.pures ds = true → frz1s m S F ds = some ds
  | [], _ => rfl
  | d :: ds, h => by
    unfold D.pures at h
    rw [Bool.and_eq_true] at h
    unfold frz1s
    rw [frz1_pure h.1, frz1s_pure h.2]
end
theorem pures_map {α : Type} {g : α → D} (h : ∀ a, D.pure (g a) = true) : ∀ l : List α, D.pures (l.map g) = true
  | [] => rfl
  | a :: l => by rw [List.map_cons]; unfold D.pures; rw [h a, pures_map h l]; rfl
theorem pures_append {xs ys : List D} (h : D.pures xs = true) (h2 : D.pures ys = true) : D.pures (xs ++ ys) = true := by
  induction xs with
  | nil => exact h2
  | cons x xs ih =>
    unfold D.pures at h
    rw [Bool.and_eq_true] at h
    rw [List.cons_append]
    unfold D.pures
    rw [h.1, ih h.2]; rfl
/-- a call that gives what has no places: the store's new part goes -/
theorem close_pure {d : D} (hp : D.pure d = true) (hl : S.length ≤ S'.length) (ho : OldOk S S') : close S S' d = (d, S'.take S.length) := by
  unfold close
  split
  · rename_i h
    rw [List.take_of_length_le h]
  · have : frz S.length S' d = some d := frz1_pure hp
    simp only [this, ho, if_true]
theorem closeR_pure {d : D} (hp : D.pure d = true) (hl : S.length ≤ S'.length) (ho : OldOk S S') : closeR true S (.ret d S') = .ok d (S'.take S.length) := by
  show R.ok (close S S' d).1 (close S S' d).2 = _
  rw [close_pure hp hl ho]
/-- nothing old has changed -/
theorem closeR_grown {d : D} {T : Sto} (hp : D.pure d = true) : closeR true S (.ret d (S ++ T)) = .ok d S := by
  rw [closeR_pure hp (by simp) (fun l hl => .inl (List.getElem?_append_left hl)), List.take_left]
end
section
variable {C : Nat → List D → Sto → R D} {G : Nat → Option D} {e : Ev} {S : Sto}
/-! ### the terms' values, by their parts -/
@[simp] theorem v_v (i : Nat) : (den C G (.v i)).v e S = dVar i e S := (rfl)
@[simp] theorem v_k (d : D) : (den C G (.k d)).v e S = .ok d S := (rfl)
@[simp] theorem v_bin (o : BOp) (bx : Bool) (a b : E) : (den C G (.bin o bx a b)).v e S = ((den C G a).v e S).bind fun x S1 => ((den C G b).v e S1).bind fun y S2 => binop o bx x y S2 := (rfl)
@[simp] theorem v_neg (a : E) : (den C G (.neg a)).v e S = ((den C G a).v e S).bind dNeg := (rfl)
@[simp] theorem v_cmp (o : COp) (a b : E) : (den C G (.cmp o a b)).v e S = ((den C G a).v e S).bind fun x S1 => ((den C G b).v e S1).bind fun y S2 => R.opt S2 ((cmpop o x y S2).map .bl) := (rfl)
@[simp] theorem v_cmp2 (o o' : COp) (a b c : E) : (den C G (.cmp2 o o' a b c)).v e S = ((den C G a).v e S).bind fun x S1 => ((den C G b).v e S1).bind fun y S2 => dCmp2 o o' x y S2 fun S => (den C G c).v e S := (rfl)
@[simp] theorem v_isk (ng : Bool) (a : E) (c : D) : (den C G (.isk ng a c)).v e S = ((den C G a).v e S).bind fun x S1 => R.opt S1 ((isop x c).map fun b => .bl (if ng then !b else b)) := (rfl)
@[simp] theorem v_and (a b : E) : (den C G (.and a b)).v e S = ((den C G a).v e S).bind fun x S1 => dAnd x S1 ((den C G b).v e S1) := (rfl)
@[simp] theorem v_or (a b : E) : (den C G (.or a b)).v e S = ((den C G a).v e S).bind fun x S1 => dOr x S1 ((den C G b).v e S1) := (rfl)
@[simp] theorem v_not (a : E) : (den C G (.not a)).v e S = ((den C G a).v e S).bind fun x S1 => R.opt S1 ((truth S1 x).map fun b => .bl (!b)) := (rfl)
@[simp] theorem v_ite (c a b : E) : (den C G (.ite c a b)).v e S = ((den C G c).t e S).bind fun t S1 => if t then (den C G a).v e S1 else (den C G b).v e S1 := (rfl)
@[simp] theorem v_call (f : Nat) (as : List E) : (den C G (.call f as)).v e S = (dens C G as e S).bind fun xs S1 => C f xs S1 := (rfl)
@[simp] theorem v_callk (f : Nat) (as bs : List E) (ord : List Nat) : (den C G (.callk f as bs ord)).v e S = (dens C G as e S).bind fun xs S1 => (dens C G bs e S1).bind fun ys S2 => C f (ord.map fun j => (xs ++ ys).getD j .non) S2 := (rfl)
@[simp] theorem v_pr (p : Pr) (bx : Bool) (as : List E) : (den C G (.pr p bx as)).v e S = (dens C G as e S).bind fun xs S1 => prim p bx xs S1 := (rfl)
@[simp] theorem v_isi (a : E) (t : Ty) : (den C G (.isi a t)).v e S = ((den C G a).v e S).bind fun x S1 => R.opt S1 ((tyIs S1 x t).map .bl) := (rfl)
@[simp] theorem v_ix (a b : E) : (den C G (.ix a b)).v e S = ((den C G a).v e S).bind fun x S1 => ((den C G b).v e S1).bind fun y S2 => R.opt S2 (Pw.index S2 x y) := (rfl)
@[simp] theorem v_sl (bx : Bool) (a : E) (lo hi : Option E) : (den C G (.sl bx a lo hi)).v e S = ((den C G a).v e S).bind fun x S1 => (denO C G lo e S1).bind fun l S2 => (denO C G hi e S2).bind fun h S3 => slice bx x l h S3 := (rfl)
@[simp] theorem v_rev (bx : Bool) (a : E) : (den C G (.rev bx a)).v e S = ((den C G a).v e S).bind fun x S1 => revd bx x S1 := (rfl)
@[simp] theorem v_tup (as : List E) : (den C G (.tup as)).v e S = (dens C G as e S).bind fun xs S1 => if xs.length ≤ sizeLine then .ok (.tup xs) S1 else .bad := (rfl)
@[simp] theorem v_lst (bx : Bool) (as : List E) : (den C G (.lst bx as)).v e S = (dens C G as e S).bind fun xs S1 => mkL bx xs S1 := (rfl)
@[simp] theorem v_mth (p : Pr) (bx : Bool) (o : E) (as : List E) : (den C G (.mth p bx o as)).v e S = ((den C G o).v e S).bind fun x S1 => if p.kindOk (kd S1 x) then (dens C G as e S1).bind fun ys S2 => if kd S1 x = kd S2 x then prim p bx (x :: ys) S2 else .bad else .bad := (rfl)
@[simp] theorem v_comp (bx : Bool) (tg : Tg) (it : I) (own : List Nat) (ifs : Option E) (elt : E) : (den C G (.comp bx tg it own ifs elt)).v e S = (denI C G it e S).bind fun src S1 => (compLoop tg own src e (denT C G ifs) (den C G elt).v src.xs [] S1).bind fun acc S2 => mkL bx acc S2 := (rfl)
@[simp] theorem t_and (a b : E) : (den C G (.and a b)).t e S = ((den C G a).t e S).bind fun x S1 => if x then (den C G b).t e S1 else .ok false S1 := (rfl)
@[simp] theorem t_or (a b : E) : (den C G (.or a b)).t e S = ((den C G a).t e S).bind fun x S1 => if x then .ok true S1 else (den C G b).t e S1 := (rfl)
@[simp] theorem t_not (a : E) : (den C G (.not a)).t e S = ((den C G a).t e S).bind fun b S1 => .ok (!b) S1 := (rfl)
def tOf (r : R D) : R Bool := r.bind fun x S1 => R.opt S1 (truth S1 x)
@[simp] theorem tOf_bl (b : Bool) : tOf (.ok (.bl b) S) = .ok b S := (rfl)
theorem t_of {a : E} {r : R D} (hp : (den C G a).t e S = tOf ((den C G a).v e S)) (h : (den C G a).v e S = r) : (den C G a).t e S = tOf r := by rw [hp, h]
@[simp] theorem t_v (i : Nat) : (den C G (.v i)).t e S = tOf ((den C G (.v i)).v e S) := (rfl)
@[simp] theorem t_cmp (o : COp) (a b : E) : (den C G (.cmp o a b)).t e S = tOf ((den C G (.cmp o a b)).v e S) := (rfl)
@[simp] theorem t_cmp2 (o o' : COp) (a b c : E) : (den C G (.cmp2 o o' a b c)).t e S = tOf ((den C G (.cmp2 o o' a b c)).v e S) := (rfl)
@[simp] theorem t_isk (ng : Bool) (a : E) (c : D) : (den C G (.isk ng a c)).t e S = tOf ((den C G (.isk ng a c)).v e S) := (rfl)
@[simp] theorem t_call (f : Nat) (as : List E) : (den C G (.call f as)).t e S = tOf ((den C G (.call f as)).v e S) := (rfl)
@[simp] theorem t_callk (f : Nat) (as bs : List E) (o : List Nat) : (den C G (.callk f as bs o)).t e S = tOf ((den C G (.callk f as bs o)).v e S) := (rfl)
@[simp] theorem t_pr (p : Pr) (bx : Bool) (as : List E) : (den C G (.pr p bx as)).t e S = tOf ((den C G (.pr p bx as)).v e S) := (rfl)
@[simp] theorem t_isi (a : E) (t : Ty) : (den C G (.isi a t)).t e S = tOf ((den C G (.isi a t)).v e S) := (rfl)
@[simp] theorem t_ix (a b : E) : (den C G (.ix a b)).t e S = tOf ((den C G (.ix a b)).v e S) := (rfl)
@[simp] theorem ds_nil : dens C G [] e S = .ok [] S := (rfl)
@[simp] theorem ds_cons (a : E) (as : List E) : dens C G (a :: as) e S = ((den C G a).v e S).bind fun x S1 => (dens C G as e S1).bind fun xs S2 => .ok (x :: xs) S2 := (rfl)
@[simp] theorem o_none : denO C G none e S = .ok none S := (rfl)
@[simp] theorem o_some (a : E) : denO C G (some a) e S = ((den C G a).v e S).bind fun x S1 => R.opt S1 (asInt x) := (rfl)
theorem tt_none : denT C G none = fun _ S => .ok true S := rfl
theorem tt_some (a : E) : denT C G (some a) = (den C G a).t := rfl
@[simp] theorem i_e (a : E) : denI C G (.e a) e S = ((den C G a).v e S).bind fun x S1 => R.opt S1 (src1 S1 x) := (rfl)
@[simp] theorem i_rng (as : List E) : denI C G (.rng as) e S = (dens C G as e S).bind fun xs S1 => R.opt S1 ((rangeOf as.length xs).map fun q => ⟨rangeD q.1 q.2, []⟩) := (rfl)
@[simp] theorem i_enum (a : E) : denI C G (.enum a) e S = ((den C G a).v e S).bind fun x S1 => R.opt S1 (srcEnum S1 x) := (rfl)
/-! ### statements -/
@[simp] theorem ss_nil : denSs C G [] e S = .nx e S := (rfl)
@[simp] theorem ss_cons (s : SI) (ss : List SI) : denSs C G (s :: ss) e S = (denS C G s e S).then_ fun e1 S1 => denSs C G ss e1 S1 := (rfl)
@[simp] theorem s_expr (a : E) : denS C G (.expr a) e S = ((den C G a).v e S).st e fun _ S1 => .nx e S1 := (rfl)
@[simp] theorem s_ret (a : E) : denS C G (.ret a) e S = ((den C G a).v e S).st e fun x S1 => .ret x S1 := (rfl)
@[simp] theorem s_ret0 : denS C G .ret0 e S = .ret .non S := (rfl)
@[simp] theorem s_asg (t : Tg) (a : E) : denS C G (.asg (.g t) a) e S = ((den C G a).v e S).st e fun x S1 => optS (Tg.put t x S1 e) fun e1 => .nx e1 S1 := (rfl)
@[simp] theorem s_sub (o i a : E) : denS C G (.asg (.sub o i) a) e S = ((den C G a).v e S).st e fun x S1 => ((den C G o).v e S1).st e fun ov S2 => ((den C G i).v e S2).st e fun iv S3 => match setItemD ov iv x S3 with
      | some S4 => .nx e S4
      | none => .bad := (rfl)
@[simp] theorem s_ite (c : E) (a b : List SI) : denS C G (.ite c a b) e S = ((den C G c).t e S).st e fun t S1 => if t then denSs C G a e S1 else denSs C G b e S1 := (rfl)
@[simp] theorem s_for (tg : Tg) (it : I) (b : List SI) : denS C G (.for_ tg it b) e S = (denI C G it e S).st e fun src S1 => forLoop tg src (denSs C G b) src.xs e S1 := (rfl)
@[simp] theorem s_pass : denS C G .pass e S = .nx e S := (rfl)
/-! ### comprehensions of values -/
theorem stays_nil (xs : List D) : Src.stays ⟨xs, []⟩ S := fun _ h => nomatch h
theorem comp_map {α : Type} {tg : Tg} {own : List Nat} {src : Src} {e0 : Ev} {t : Ev → Sto → R Bool} {elt : Ev → Sto → R D} {enc : α → D} {g : α → D} (hs : src.stays S) : ∀ (ys : List α) (acc : List D), acc.length + ys.length ≤ sizeLine →
    (∀ y ∈ ys, ∃ e1, Tg.put tg (enc y) S (wipeE e0 own) = some e1 ∧ t e1 S = .ok true S ∧ elt e1 S = .ok (g y) S) → compLoop tg own src e0 t elt (ys.map enc) acc S = .ok (acc ++ ys.map g) S
  | [], acc, _, _ => by
    unfold compLoop
    simp only [List.map_nil, List.append_nil]
    rw [if_pos hs]
  | y :: ys, acc, hl, h => by
    obtain ⟨e1, h1, h2, h3⟩ := h y (List.mem_cons_self ..)
    rw [List.length_cons] at hl
    rw [List.map_cons]
    unfold compLoop
    rw [if_pos hs, h1]
    simp only
    rw [h2]
    simp only [R.nox_ok, R.bind_ok, if_true]
    rw [h3]
    simp only [R.nox_ok, R.bind_ok]
    rw [if_pos (by omega), comp_map hs ys (acc ++ [g y]) (by rw [List.length_append, List.length_singleton]; omega) fun z hz => h z (List.mem_cons_of_mem _ hz)]
    rw [List.map_cons, List.append_assoc]
    rfl
theorem comp_filter {α : Type} {tg : Tg} {own : List Nat} {src : Src} {e0 : Ev} {t : Ev → Sto → R Bool} {elt : Ev → Sto → R D} {enc : α → D} {g : α → D} {p : α → Bool} (hs : src.stays S) : ∀ (ys : List α) (acc : List D), acc.length + ys.length ≤ sizeLine →
    (∀ y ∈ ys, ∃ e1, Tg.put tg (enc y) S (wipeE e0 own) = some e1 ∧ t e1 S = .ok (p y) S ∧ (p y = true → elt e1 S = .ok (g y) S)) → compLoop tg own src e0 t elt (ys.map enc) acc S = .ok (acc ++ (ys.filter p).map g) S
  | [], acc, _, _ => by
    unfold compLoop
    simp only [List.map_nil, List.filter_nil, List.append_nil]
    rw [if_pos hs]
  | y :: ys, acc, hl, h => by
    obtain ⟨e1, h1, h2, h3⟩ := h y (List.mem_cons_self ..)
    rw [List.length_cons] at hl
    have ih := fun acc hl => comp_filter (e0 := e0) (t := t) (elt := elt) (enc := enc) (g := g) (p := p) hs ys acc hl fun z hz => h z (List.mem_cons_of_mem _ hz)
    rw [List.map_cons]
    unfold compLoop
    rw [if_pos hs, h1]
    simp only
    rw [h2]
    simp only [R.nox_ok, R.bind_ok]
    cases hp : p y with
    | true =>
      simp only [if_true]
      rw [h3 hp]
      simp only [R.nox_ok, R.bind_ok]
      rw [if_pos (by omega), ih _ (by rw [List.length_append, List.length_singleton]; omega), List.filter_cons_of_pos hp, List.map_cons, List.append_assoc]
      rfl
    | false =>
      simp only [Bool.false_eq_true, if_false]
      rw [ih _ (by omega), List.filter_cons_of_neg (by rw [hp]; decide)]
/-- .. that change the store -/
theorem comp_inv {α : Type} {tg : Tg} {own : List Nat} {src : Src} {e0 : Ev} {t : Ev → Sto → R Bool} {elt : Ev → Sto → R D} {enc : α → D} (Inv : Nat → Sto → Prop) (P : D → Prop) (hs : ∀ i S, Inv i S → src.stays S) : ∀ (ys : List α) (i : Nat) (acc : List D) (S : Sto), acc.length + ys.length ≤ sizeLine → Inv i S → (∀ d ∈ acc, P d) →
    (∀ i S, ∀ y ∈ ys, Inv i S → ∃ e1 d S', Tg.put tg (enc y) S (wipeE e0 own) = some e1 ∧ t e1 S = .ok true S ∧ elt e1 S = .ok d S' ∧ P d ∧ Inv (i + 1) S') →
    ∃ xs S', compLoop tg own src e0 t elt (ys.map enc) acc S = .ok xs S' ∧ xs.length = acc.length + ys.length ∧ (∀ d ∈ xs, P d) ∧ Inv (i + ys.length) S'
  | [], i, acc, S, _, hi, hP, _ => by
    refine ⟨acc, S, ?_, rfl, hP, hi⟩
    unfold compLoop
    simp only [List.map_nil]
    rw [if_pos (hs i S hi)]
  | y :: ys, i, acc, S, hl, hi, hP, h => by
    obtain ⟨e1, d, S1, h1, h2, h3, h4, h5⟩ := h i S y (List.mem_cons_self ..) hi
    rw [List.length_cons] at hl
    obtain ⟨xs, S', r1, r2, r3, r4⟩ := comp_inv Inv P hs ys (i + 1) (acc ++ [d]) S1 (by rw [List.length_append, List.length_singleton]; omega) h5 (fun z hz => by
      rcases List.mem_append.mp hz with hz | hz
      · exact hP z hz
      · rw [List.mem_singleton.mp hz]; exact h4) fun i S z hz => h i S z (List.mem_cons_of_mem _ hz)
    refine ⟨xs, S', ?_, by rw [r2, List.length_append, List.length_singleton, List.length_cons]; omega, r3, by rw [List.length_cons]; rw [show i + (ys.length + 1) = i + 1 + ys.length by omega]; exact r4⟩
    rw [List.map_cons]
    unfold compLoop
    rw [if_pos (hs i S hi), h1]
    simp only
    rw [h2]
    simp only [R.nox_ok, R.bind_ok, if_true]
    rw [h3]
    simp only [R.nox_ok, R.bind_ok]
    rw [if_pos (by omega)]
    exact r1
end
end Pw

set_option Elab.async false
set_option linter.all false
set_option maxRecDepth 100000
set_option maxHeartbeats 1000000
namespace Pw
open PySem PySem.Spec PyProof.Rows L2
/-! # equality and order of plain data -/
mutual
/-- no truth values, no dicts, no places -/
def D.nb : D → Bool
  | .non => true
  | .int _ => true
  | .str _ => true
  | .tup xs => D.nbs xs
  | .lst xs => D.nbs xs
  | _ => false
def D.nbs : List D → Bool
  | [] => true
  | x :: xs => D.nb x && D.nbs xs
end
mutual
def D.py : D → PyData
  | .non => .none
  | .bl b => .bool b
  | .int i => .int i
  | .str x => .str x
  | .tup xs => .tuple (D.pys xs)
  | .lst xs => .list (D.pys xs)
  | _ => .none
def D.pys : List D → List PyData
  | [] => []
  | x :: xs => D.py x :: D.pys xs
end
mutual
def D.dep : D → Nat
  | .tup xs => D.deps xs + 1
  | .lst xs => D.deps xs + 1
  | _ => 0
def D.deps : List D → Nat
  | [] => 0
  | x :: xs => max (D.dep x) (D.deps xs)
end
mutual
theorem toPy_nb : ∀ {d : D}, D.nb d = true → d.toPy = some (D.py d)
  | .non, _ => rfl
  | .int _, _ => rfl
  | .str _, _ => rfl
  | .tup xs, h => by
    have h : D.nbs xs = true := h
    show (D.toPys xs).map PyData.tuple = _
    rw [toPys_nb h]; rfl
  | .lst xs, h => by
    have h : D.nbs xs = true := h
    show (D.toPys xs).map PyData.list = _
    rw [toPys_nb h]; rfl
  | .bl _, h => by cases h
  | .dct _ _, h => by cases h
  | .ref _, h => by cases h
theorem toPys_nb : ∀ {ds : List D}, D.nbs ds = true → D.toPys ds = some (D.pys ds)
  | [], _ => rfl
  | d :: ds, h => by
    unfold D.nbs at h
    rw [Bool.and_eq_true] at h
    unfold D.toPys
    rw [toPy_nb h.1, toPys_nb h.2]
    rfl
end
mutual
theorem eqv_nb : ∀ {a b : D}, D.nb a = true → D.nb b = true → (PyData.eqv (D.py a) (D.py b) = true ↔ a = b)
  | .non, b, _, h => by cases b <;> first | (simp [D.py, PyData.eqv]; done) | (simp [D.nb] at h; done)
  | .int i, b, _, h => by cases b <;> first | (simp [D.py, PyData.eqv]; done) | (simp [D.nb] at h; done)
  | .str x, b, _, h => by cases b <;> first | (simp [D.py, PyData.eqv]; done) | (simp [D.nb] at h; done)
  | .tup xs, b, h1, h => by
    cases b with
    | tup ys =>
      have h1 : D.nbs xs = true := h1
      have h : D.nbs ys = true := h
      simp only [D.py, PyData.eqv]
      rw [eqvs_nb h1 h]
      simp
    | _ => first | (simp [D.py, PyData.eqv]; done) | (simp [D.nb] at h; done)
  | .lst xs, b, h1, h => by
    cases b with
    | lst ys =>
      have h1 : D.nbs xs = true := h1
      have h : D.nbs ys = true := h
      simp only [D.py, PyData.eqv]
      rw [eqvs_nb h1 h]
      simp
    | _ => first | (simp [D.py, PyData.eqv]; done) | (simp [D.nb] at h; done)
  | .bl _, _, h, _ => by cases h
  | .dct _ _, _, h, _ => by cases h
  | .ref _, _, h, _ => by cases h
theorem eqvs_nb : ∀ {a b : List D}, D.nbs a = true → D.nbs b = true → (PyData.eqvAll (D.pys a) (D.pys b) = true ↔ a = b)
  | [], [], _, _ => by simp [D.pys, PyData.eqvAll]
  | [], _ :: _, _, _ => by simp [D.pys, PyData.eqvAll]
  | _ :: _, [], _, _ => by simp [D.pys, PyData.eqvAll]
  | x :: xs, y :: ys, h1, h2 => by
    unfold D.nbs at h1 h2
    rw [Bool.and_eq_true] at h1 h2
    simp only [D.pys, PyData.eqvAll, Bool.and_eq_true]
    rw [eqv_nb h1.1 h2.1, eqvs_nb h1.2 h2.2]
    simp
end
mutual
theorem dep_le : ∀ (d : D), (D.py d).depth ≤ D.dep d
  | .tup xs => by
    have := deps_le xs
    simp only [D.py, PyData.depth, D.dep]; omega
  | .lst xs => by
    have := deps_le xs
    simp only [D.py, PyData.depth, D.dep]; omega
  | .non => by simp [D.py, PyData.depth]
  | .bl _ => by simp [D.py, PyData.depth]
  | .int _ => by simp [D.py, PyData.depth]
  | .str _ => by simp [D.py, PyData.depth]
  | .dct _ _ => by simp [D.py, PyData.depth]
  | .ref _ => by simp [D.py, PyData.depth]
theorem deps_le : ∀ (ds : List D), PyData.depthAll (D.pys ds) ≤ D.deps ds
  | [] => by simp [D.pys, PyData.depthAll]
  | d :: ds => by
    have h1 := dep_le d
    have h2 := deps_le ds
    simp only [D.pys, PyData.depthAll, D.deps]
    omega
end
theorem rd_nb {S : Sto} {d : D} (h : D.nb d = true) : rd S d = d := by
  cases d <;> first | rfl | cases h
open Classical in
/-- == of plain data -/
theorem deq_nb {S : Sto} {a b : D} (h1 : D.nb a = true) (h2 : D.nb b = true) (hd : D.dep a ≤ 60) : deq S a b = some (decide (a = b)) := by
  unfold deq pyd
  rw [rd_nb h1, rd_nb h2, toPy_nb h1, toPy_nb h2]
  simp only
  have := dep_le a
  rw [if_pos (Nat.le_trans (Nat.min_le_left _ _) (Nat.le_trans this hd))]
  congr 1
  by_cases h : a = b
  · rw [decide_eq_true h]; exact (eqv_nb h1 h2).mpr h
  · rw [decide_eq_false h]
    cases e : PyData.eqv (D.py a) (D.py b) with
    | false => rfl
    | true => exact absurd ((eqv_nb h1 h2).mp e) h
theorem nbs_map {α : Type} {g : α → D} (h : ∀ a, D.nb (g a) = true) : ∀ l : List α, D.nbs (l.map g) = true
  | [] => rfl
  | a :: l => by rw [List.map_cons]; unfold D.nbs; rw [h a, nbs_map h l]; rfl
theorem deps_map {α : Type} {g : α → D} {k : Nat} (h : ∀ a, D.dep (g a) ≤ k) : ∀ l : List α, D.deps (l.map g) ≤ k
  | [] => Nat.zero_le _
  | a :: l => by
    rw [List.map_cons]
    unfold D.deps
    have := deps_map h l
    have := h a
    omega
theorem nbs_append {xs ys : List D} (h : D.nbs xs = true) (h2 : D.nbs ys = true) : D.nbs (xs ++ ys) = true := by
  induction xs with
  | nil => exact h2
  | cons x xs ih =>
    unfold D.nbs at h
    rw [Bool.and_eq_true] at h
    rw [List.cons_append]
    unfold D.nbs
    rw [h.1, ih h.2]; rfl
/-- sorting ints -/
theorem sortD_ints (ns : List Int) (hl : ns.length ≤ sizeLine) : sortD (ns.map .int) = some ((ns.mergeSort (fun a b => decide (a ≤ b))).map .int) := by
  have hpy : (ns.map D.int).map pyOf = ns.map PyData.int := by
    rw [List.map_map]; rfl
  unfold sortD
  rw [if_pos]
  · congr 1
    exact (List.map_mergeSort (f := D.int) (r := fun a b => decide (a ≤ b)) (s := PySem.W.dataLe false pyOf) (l := ns) (fun a _ b _ => by
      have e : PySem.W.dataLe false pyOf (D.int a) (D.int b) = PySem.W.dataLe false (fun z : Int => PyData.int z) a b := rfl
      rw [e, PySem.W.dataLe_int (fun z : Int => z)])).symm
  · refine ⟨fun x hx => ?_, ?_, ?_, by rw [List.length_map]; exact hl, fun x hx => ?_⟩
    · obtain ⟨i, _, rfl⟩ := List.mem_map.mp hx; rfl
    · rw [hpy]
      exact PySem.W.AllAlike.of (enc := PyData.int) fun _ _ => rfl
    · rw [hpy]
      exact PySem.W.Sortable.others (enc := PyData.int) fun b => ⟨(fun h => nomatch h), fun xs h => nomatch h⟩
    · obtain ⟨i, _, rfl⟩ := List.mem_map.mp hx
      show PyData.depth (.int i) ≤ 60
      simp [PyData.depth]
end Pw

set_option Elab.async false
set_option linter.all false
set_option maxRecDepth 100000
set_option maxHeartbeats 1000000
namespace Pw
open PySem PySem.Spec PyProof.Rows L2
/-! # what holds behind a piece of the text -/
/-- Q holds of the value and the store behind it, X of what is raised -/
inductive Wp {α : Type} : R α → (α → Sto → Prop) → (Xc → Sto → Prop) → Prop
  | ok {a : α} {S : Sto} {Q : α → Sto → Prop} {X : Xc → Sto → Prop} (h : Q a S) : Wp (.ok a S) Q X
  | exc {x : Xc} {S : Sto} {Q : α → Sto → Prop} {X : Xc → Sto → Prop} (h : X x S) : Wp (.exc x S) Q X
inductive WpS : SR → (Ev → Sto → Prop) → (D → Sto → Prop) → (Xc → Sto → Prop) → Prop
  | nx {e : Ev} {S : Sto} {N : Ev → Sto → Prop} {Q : D → Sto → Prop} {X : Xc → Sto → Prop} (h : N e S) : WpS (.nx e S) N Q X
  | ret {d : D} {S : Sto} {N : Ev → Sto → Prop} {Q : D → Sto → Prop} {X : Xc → Sto → Prop} (h : Q d S) : WpS (.ret d S) N Q X
  | exc {x : Xc} {e : Ev} {S : Sto} {N : Ev → Sto → Prop} {Q : D → Sto → Prop} {X : Xc → Sto → Prop} (h : X x S) : WpS (.exc x e S) N Q X
/-- nothing is raised -/
abbrev NoX : Xc → Sto → Prop := fun _ _ => False
section
variable {α β : Type} {Q : α → Sto → Prop} {X : Xc → Sto → Prop} {S : Sto}
@[simp] theorem Wp_ok (a : α) : Wp (.ok a S) Q X = Q a S := propext ⟨fun h => by cases h; assumption, .ok⟩
@[simp] theorem Wp_exc (x : Xc) : Wp (.exc x S : R α) Q X = X x S := propext ⟨fun h => by cases h; assumption, .exc⟩
@[simp] theorem Wp_bad : Wp (.bad : R α) Q X = False := propext ⟨fun h => (by cases h), False.elim⟩
@[simp] theorem Wp_bind (r : R α) (f : α → Sto → R β) (Q : β → Sto → Prop) : Wp (r.bind f) Q X = Wp r (fun a S => Wp (f a S) Q X) X := by
  cases r <;> simp
theorem Wp_opt (o : Option α) : Wp (R.opt S o) Q X = (∃ a, o = some a ∧ Q a S) := by
  cases o with
  | none => simp [R.opt]
  | some a => simp [R.opt]
theorem Wp_o (o : Option β) (f : β → R D) (Q : D → Sto → Prop) : Wp (R.o o f) Q X = (∃ a, o = some a ∧ Wp (f a) Q X) := by
  cases o <;> simp [R.o]
@[simp] theorem Wp_nox (r : R α) : Wp r.nox Q X = Wp r Q NoX := by
  cases r <;> simp [R.nox]
theorem Wp_ite {c : Prop} [Decidable c] (a b : R α) : Wp (if c then a else b) Q X = if c then Wp a Q X else Wp b Q X := by
  split <;> rfl
theorem Wp.mono {r : R α} {Q2 : α → Sto → Prop} {X2 : Xc → Sto → Prop} (h : Wp r Q X) (hq : ∀ a S, Q a S → Q2 a S) (hx : ∀ x S, X x S → X2 x S) : Wp r Q2 X2 := by
  cases h with
  | ok h => exact .ok (hq _ _ h)
  | exc h => exact .exc (hx _ _ h)
theorem Wp.then {r : R α} {Q2 : α → Sto → Prop} (h : Wp r Q NoX) (hq : ∀ a S, Q a S → Q2 a S) : Wp r Q2 X := h.mono hq fun _ _ z => z.elim
theorem Wp.of_eq {r : R α} {a : α} (h : r = .ok a S) (hq : Q a S) : Wp r Q X := by rw [h]; exact .ok hq
theorem Wp.ex {r : R α} (h : Wp r Q NoX) : ∃ a S, r = .ok a S ∧ Q a S := by
  cases h with
  | ok h => exact ⟨_, _, rfl, h⟩
  | exc h => exact False.elim h
variable {N : Ev → Sto → Prop} {T : D → Sto → Prop} {e : Ev}
@[simp] theorem WpS_nx : WpS (.nx e S) N T X = N e S := propext ⟨fun h => by cases h; assumption, .nx⟩
@[simp] theorem WpS_ret (d : D) : WpS (.ret d S) N T X = T d S := propext ⟨fun h => by cases h; assumption, .ret⟩
@[simp] theorem WpS_exc (x : Xc) : WpS (.exc x e S) N T X = X x S := propext ⟨fun h => by cases h; assumption, .exc⟩
@[simp] theorem WpS_bad : WpS .bad N T X = False := propext ⟨fun h => (by cases h), False.elim⟩
@[simp] theorem WpS_then (r : SR) (f : Ev → Sto → SR) : WpS (r.then_ f) N T X = WpS r (fun e S => WpS (f e S) N T X) T X := by
  cases r <;> simp
@[simp] theorem WpS_st (r : R α) (f : α → Sto → SR) : WpS (r.st e f) N T X = Wp r (fun a S => WpS (f a S) N T X) X := by
  cases r <;> simp
theorem WpS_optS (o : Option Ev) (f : Ev → SR) : WpS (optS o f) N T X = (∃ e, o = some e ∧ WpS (f e) N T X) := by
  cases o <;> simp [optS]
theorem WpS_ite {c : Prop} [Decidable c] (a b : SR) : WpS (if c then a else b) N T X = if c then WpS a N T X else WpS b N T X := by
  split <;> rfl
theorem WpS.mono {r : SR} {N2 : Ev → Sto → Prop} {T2 : D → Sto → Prop} {X2 : Xc → Sto → Prop} (h : WpS r N T X) (hn : ∀ a S, N a S → N2 a S) (hq : ∀ a S, T a S → T2 a S) (hx : ∀ x S, X x S → X2 x S) : WpS r N2 T2 X2 := by
  cases h with
  | nx h => exact .nx (hn _ _ h)
  | ret h => exact .ret (hq _ _ h)
  | exc h => exact .exc (hx _ _ h)
end
section
variable {Fs : Nat → Option Fn} {G : Nat → Option D} {n f : Nat} {F : Fn} {ds : List D} {S : Sto} {Q : D → Sto → Prop} {X : Xc → Sto → Prop}
/-- a call's end: what is told of the inside, closed -/
theorem Wp_call (h : Fs f = some F) (hl : ds.length = F.pars) (hw : WpS (denSs (callN Fs G n) G F.body (ds.map some ++ List.replicate (F.slots - F.pars) none) S) (fun e S' => Wp (closeR F.fz S (.nx e S')) Q X) (fun d S' => Wp (closeR F.fz S (.ret d S')) Q X) (fun x S' => Wp (closeR F.fz S (.exc x [] S')) Q X)) : Wp (callN Fs G (n + 1) f ds S) Q X := by
  rw [call_eq h hl]
  generalize denSs (callN Fs G n) G F.body (ds.map some ++ List.replicate (F.slots - F.pars) none) S = r at hw ⊢
  cases hw with
  | nx h => exact h
  | ret h => exact h
  | exc h => exact h
end
section
variable {S : Sto} {X : Xc → Sto → Prop}
/-- a comprehension, by an invariant on index, rows so far and store -/
theorem Wp_comp {α : Type} {tg : Tg} {own : List Nat} {src : Src} {e0 : Ev} {t : Ev → Sto → R Bool} {elt : Ev → Sto → R D} {enc : α → D} {Q : List D → Sto → Prop} (Inv : Nat → List D → Sto → Prop) :
    ∀ (ys : List α) (i : Nat) (acc : List D) (S : Sto), acc.length + ys.length ≤ sizeLine → Inv i acc S →
    (∀ j acc S (hj : j < ys.length), Inv (i + j) acc S → src.stays S ∧ ∃ e1, Tg.put tg (enc ys[j]) S (wipeE e0 own) = some e1 ∧ Wp (t e1 S) (fun b S1 => if b then Wp (elt e1 S1) (fun y S2 => Inv (i + j + 1) (acc ++ [y]) S2) NoX else Inv (i + j + 1) acc S1) NoX) →
    (∀ acc S, Inv (i + ys.length) acc S → src.stays S ∧ Q acc S) → Wp (compLoop tg own src e0 t elt (ys.map enc) acc S) Q X
  | [], i, acc, S, _, hi, _, hq => by
    obtain ⟨h1, h2⟩ := hq acc S hi
    unfold compLoop
    simp only [List.map_nil]
    rw [if_pos h1]
    exact .ok h2
  | y :: ys, i, acc, S, hl, hi, h, hq => by
    rw [List.length_cons] at hl
    obtain ⟨h1, e1, h2, h3⟩ := h 0 acc S (Nat.zero_lt_succ _) hi
    have ih := fun acc S hl hi => Wp_comp (Q := Q) (enc := enc) (tg := tg) (own := own) (src := src) (e0 := e0) (t := t) (elt := elt) Inv ys (i + 1) acc S hl hi (fun j acc S hj hi => by
      have := h (j + 1) acc S (Nat.succ_lt_succ hj)
      rw [show i + 1 + j = i + (j + 1) by omega] at hi ⊢
      exact this hi) (fun acc S hi => hq acc S (by rw [List.length_cons]; rw [show i + (ys.length + 1) = i + 1 + ys.length by omega]; exact hi))
    rw [List.map_cons]
    unfold compLoop
    rw [if_pos h1]
    simp only [List.getElem_cons_zero] at h2
    rw [h2]
    simp only [Wp_bind, Wp_nox]
    refine h3.then fun b S1 hb => ?_
    cases b with
    | false => exact ih acc S1 (by omega) hb
    | true =>
      simp only [if_true] at hb ⊢
      rw [Wp_bind, Wp_nox]
      refine hb.then fun y S2 hy => ?_
      rw [if_pos (by omega)]
      exact ih _ S2 (by rw [List.length_append, List.length_singleton]; omega) hy
/-- a for over rows, by an invariant on index, names and store; what is returned in it goes out -/
theorem WpS_for {α : Type} {tg : Tg} {src : Src} {body : Ev → Sto → SR} {enc : α → D} {N : Ev → Sto → Prop} {T : D → Sto → Prop} (Inv : Nat → Ev → Sto → Prop) :
    ∀ (ys : List α) (i : Nat) (e : Ev) (S : Sto), Inv i e S →
    (∀ j e S (hj : j < ys.length), Inv (i + j) e S → src.stays S ∧ ∃ e1, Tg.put tg (enc ys[j]) S e = some e1 ∧ WpS (body e1 S) (fun e S => Inv (i + j + 1) e S) T X) →
    (∀ e S, Inv (i + ys.length) e S → src.stays S ∧ N e S) → WpS (forLoop tg src body (ys.map enc) e S) N T X
  | [], i, e, S, hi, _, hq => by
    obtain ⟨h1, h2⟩ := hq e S hi
    unfold forLoop
    simp only [List.map_nil]
    rw [if_pos h1]
    exact .nx h2
  | y :: ys, i, e, S, hi, h, hq => by
    obtain ⟨h1, e1, h2, h3⟩ := h 0 e S (Nat.zero_lt_succ _) hi
    have ih := fun e S hi => WpS_for (N := N) (T := T) (enc := enc) (tg := tg) (src := src) (body := body) Inv ys (i + 1) e S hi (fun j e S hj hi => by
      have := h (j + 1) e S (Nat.succ_lt_succ hj)
      rw [show i + 1 + j = i + (j + 1) by omega] at hi ⊢
      exact this hi) (fun e S hi => hq e S (by rw [List.length_cons]; rw [show i + (ys.length + 1) = i + 1 + ys.length by omega]; exact hi))
    rw [List.map_cons]
    unfold forLoop
    rw [if_pos h1]
    simp only [List.getElem_cons_zero] at h2
    rw [h2]
    simp only [optS_some, WpS_then]
    exact h3.mono (fun e S hi => ih e S hi) (fun _ _ z => z) (fun _ _ z => z)
/-- a while, by an invariant with a measure -/
theorem WpS_while {c : Ev → Sto → R Bool} {b : Ev → Sto → SR} {N : Ev → Sto → Prop} {T : D → Sto → Prop} (Inv : Nat → Ev → Sto → Prop)
    (h : ∀ m e S, Inv m e S → Wp (c e S) (fun t S1 => if t then WpS (b e S1) (fun e2 S2 => ∃ m2, m2 < m ∧ Inv m2 e2 S2) T X else N e S1) X) : ∀ (m : Nat) (e : Ev) (S : Sto), Inv m e S → WpS (whileS c b e S) N T X := by
  intro m
  induction m using Nat.strongRecOn with
  | ind m ih =>
    intro e S hi
    have h1 := h m e S hi
    cases hc : c e S with
    | ok t S1 =>
      rw [hc] at h1
      simp only [Wp_ok] at h1
      cases t with
      | false => rw [whileS_end hc]; exact .nx (by simpa using h1)
      | true =>
        simp only [if_true] at h1
        cases hb : b e S1 with
        | nx e2 S2 =>
          rw [hb, WpS_nx] at h1
          obtain ⟨m2, hm, hi2⟩ := h1
          rw [whileS_turn hc hb]
          exact ih m2 hm e2 S2 hi2
        | ret d S2 => rw [hb, WpS_ret] at h1; rw [whileS_ret hc hb]; exact .ret h1
        | exc x e2 S2 => rw [hb, WpS_exc] at h1; rw [whileS_exc hc hb]; exact .exc h1
        | bad => rw [hb, WpS_bad] at h1; exact False.elim h1
    | exc x S1 =>
      rw [hc, Wp_exc] at h1
      have e1 : whileN c b 1 e S = .exc x e S1 := by
        show (c e S).st e _ = _
        rw [hc]; simp
      rw [whileS_of (n := 1) (by rw [e1]; intro z; cases z), e1]
      exact .exc h1
    | bad => rw [hc, Wp_bad] at h1; exact False.elim h1
end
end Pw

set_option Elab.async false
set_option linter.all false
set_option maxRecDepth 100000
set_option maxHeartbeats 1000000
namespace Pw
open PySem PySem.Spec PyProof.Rows L2
/-! # sequences, draws' stores, calls' ends -/
section
variable {S S' : Sto} {α : Type}
/-- it is a sequence of these -/
def Sq (S : Sto) (X : D) (xs : List D) : Prop := rd S X = .tup xs ∨ rd S X = .lst xs
theorem Sq.tup (xs : List D) : Sq S (.tup xs) xs := .inl rfl
theorem Sq.lst (xs : List D) : Sq S (.lst xs) xs := .inr rfl
theorem Sq.ref {l : Nat} {xs : List D} (h : S[l]? = some (.lst xs)) : Sq S (.ref l) xs := .inr (by rw [rd_ref, h]; rfl)
theorem small' {n : Nat} (h : n ≤ 100000) : n ≤ sizeLine := by rw [sizeLine_eq]; omega
theorem Sq.ix {X : D} {xs : List D} (h : Sq S X xs) {k : Nat} (hk : k < xs.length) : Pw.index S X (.int (k : Int)) = some xs[k] := by
  unfold Pw.index
  have : atI xs (k : Int) = some xs[k] := by
    unfold atI
    rw [show ixN xs.length (k : Int) = some k from by unfold ixN; rw [if_pos (by omega), if_pos (by omega), Int.toNat_natCast]]
    exact List.getElem?_eq_getElem hk
  rcases h with h | h <;> rw [h] <;> exact this
theorem Sq.ixm {X : D} {enc : α → D} {xs : List α} (h : Sq S X (xs.map enc)) {k : Nat} (hk : k < xs.length) : Pw.index S X (.int (k : Int)) = some (enc xs[k]) := by
  rw [h.ix (by rw [List.length_map]; exact hk), List.getElem_map]
theorem Sq.len {X : D} {xs : List D} {bx : Bool} (h : Sq S X xs) : prim .len bx [X] S = .ok (.int xs.length) S := by
  show pLen S X = _
  unfold pLen
  rcases h with h | h <;> rw [h]
theorem Sq.tuple {X : D} {xs : List D} {bx : Bool} (h : Sq S X xs) : prim .tuple bx [X] S = .ok (.tup xs) S := by
  show pTuple S X = _
  unfold pTuple
  rcases h with h | h <;> rw [h]
/-- words in a list -/
theorem toPys_strs : ∀ ws : List Str, D.toPys (ws.map .str) = some (ws.map PyData.str)
  | [] => rfl
  | w :: ws => by
    rw [List.map_cons]
    unfold D.toPys
    rw [toPys_strs ws]
    rfl
theorem toPys_ints : ∀ ws : List Int, D.toPys (ws.map .int) = some (ws.map PyData.int)
  | [] => rfl
  | w :: ws => by
    rw [List.map_cons]
    unfold D.toPys
    rw [toPys_ints ws]
    rfl
theorem anyEq_strs (w : Str) (ws : List Str) : anyEq S (.str w) (ws.map .str) = some (decide (w ∈ ws)) := by
  unfold anyEq inSeq
  rw [show pyd S (.str w) = some (.str w) from rfl, toPys_strs]
  simp only
  rw [if_pos (by show min _ (PyData.depth (.str w)) ≤ 60; simp [PyData.depth])]
  congr 1
  rw [Bool.eq_iff_iff, List.any_eq_true, decide_eq_true_iff]
  constructor
  · rintro ⟨x, hx, h⟩
    obtain ⟨y, hy, rfl⟩ := List.mem_map.mp hx
    simp only [PyData.eqv, beq_iff_eq] at h
    exact h ▸ hy
  · intro h
    exact ⟨_, List.mem_map.mpr ⟨w, h, rfl⟩, by simp [PyData.eqv]⟩
theorem Sq.inS {X : D} {w : Str} {ws : List Str} (h : Sq S X (ws.map .str)) : cmpop .isin (.str w) X S = some (decide (w ∈ ws)) := by
  have e := anyEq_strs (S := S) w ws
  rcases h with h | h <;> simp only [cmpop, h, e]
theorem Sq.notinS {X : D} {w : Str} {ws : List Str} (h : Sq S X (ws.map .str)) : cmpop .notin (.str w) X S = some (!decide (w ∈ ws)) := by
  have e := anyEq_strs (S := S) w ws
  rcases h with h | h <;> simp only [cmpop, h, e, Option.map_some]
theorem strs_map : ∀ ws : List Str, strs? (ws.map .str) = some ws
  | [] => rfl
  | w :: ws => by
    show (strs? (ws.map .str)).map (w :: ·) = _
    rw [strs_map ws]; rfl
/-! ### range -/
theorem rng1 {j : Int} (h2 : j < 2 ^ 62) (h1 : -(2 ^ 62) ≤ j := by omega) : (rangeOf 1 [D.int j]).map (fun q => (⟨rangeD q.1 q.2, []⟩ : Src)) = some ⟨(List.range j.toNat).map fun (k : Nat) => D.int (k : Int), []⟩ := by
  simp only [rangeOf, h1, h2, and_self, if_true, Option.map_some]
  congr 2
  unfold rangeD
  apply List.map_congr_left
  intro a _
  rw [Int.zero_add]
/-! ### frames -/
/-- all places but these are as they were -/
def Fr (A : Nat → Prop) (S S2 : Sto) : Prop := S2.length = S.length ∧ ∀ l, ¬ A l → S2[l]? = S[l]?
/-- .. and new ones may have come -/
def FrG (A : Nat → Prop) (S S2 : Sto) : Prop := S.length ≤ S2.length ∧ ∀ l, l < S.length → ¬ A l → S2[l]? = S[l]?
variable {A : Nat → Prop} {S2 S3 : Sto}
theorem Fr.refl : Fr A S S := ⟨rfl, fun _ _ => rfl⟩
theorem Fr.trans (h : Fr A S S2) (h2 : Fr A S2 S3) : Fr A S S3 := ⟨h2.1.trans h.1, fun l hl => (h2.2 l hl).trans (h.2 l hl)⟩
theorem Fr.mono {B : Nat → Prop} (h : Fr A S S2) (hb : ∀ l, A l → B l) : Fr B S S2 := ⟨h.1, fun l hl => h.2 l fun z => hl (hb l z)⟩
theorem Fr.g (h : Fr A S S2) : FrG A S S2 := ⟨Nat.le_of_eq h.1.symm, fun l _ hl => h.2 l hl⟩
theorem FrG.refl : FrG A S S := ⟨Nat.le_refl _, fun _ _ _ => rfl⟩
theorem FrG.trans (h : FrG A S S2) (h2 : FrG A S2 S3) : FrG A S S3 := ⟨Nat.le_trans h.1 h2.1, fun l hl hA => (h2.2 l (Nat.lt_of_lt_of_le hl h.1) hA).trans (h.2 l hl hA)⟩
theorem FrG.mono {B : Nat → Prop} (h : FrG A S S2) (hb : ∀ l, l < S.length → A l → B l) : FrG B S S2 := ⟨h.1, fun l hl hB => h.2 l hl fun z => hB (hb l hl z)⟩
theorem FrG.trans2 {B : Nat → Prop} (h : FrG A S S2) (h2 : FrG B S2 S3) (hb : ∀ l, l < S.length → B l → A l) : FrG A S S3 := ⟨Nat.le_trans h.1 h2.1, fun l hl hA => (h2.2 l (Nat.lt_of_lt_of_le hl h.1) fun z => hA (hb l hl z)).trans (h.2 l hl hA)⟩
theorem FrG.push (m : MO) : FrG A S (S ++ [m]) := ⟨by simp, fun l hl _ => List.getElem?_append_left hl⟩
theorem FrG.set {l : Nat} {m : MO} (h : A l) : FrG A S (S.set l m) := ⟨by simp, fun k hk hA => List.getElem?_set_ne (fun (z : l = k) => hA (z ▸ h))⟩
theorem FrG.setNew {l : Nat} {m : MO} (h : FrG A S S2) (hl : S.length ≤ l) : FrG A S (S2.set l m) := ⟨by simpa using h.1, fun k hk hA => by rw [List.getElem?_set_ne (by omega)]; exact h.2 k hk hA⟩
theorem Fr.set {l : Nat} {m : MO} (h : A l) : Fr A S (S.set l m) := ⟨by simp, fun k hA => List.getElem?_set_ne (fun (z : l = k) => hA (z ▸ h))⟩
/-- a place that holds flat data alone -/
def Low (S2 : Sto) (l : Nat) : Prop := ∃ m, S2[l]? = some m ∧ ∀ n, m.low n = true
theorem lows_pures {n : Nat} : ∀ {xs : List D}, D.pures xs = true → D.lows n xs = true
  | [], _ => rfl
  | x :: xs, h => by
    unfold D.pures at h
    rw [Bool.and_eq_true] at h
    unfold D.lows
    rw [low_pure h.1, lows_pures h.2]; rfl
where low_pure {n : Nat} : ∀ {x : D}, D.pure x = true → D.low n x = true
  | .non, _ => rfl
  | .bl _, _ => rfl
  | .int _, _ => rfl
  | .str _, _ => rfl
  | .tup xs, h => lows_pures (xs := xs) h
  | .lst xs, h => lows_pures (xs := xs) h
  | .dct _ xs, h => lows_pures (xs := xs) h
  | .ref _, h => by cases h
theorem Low.lst {l : Nat} {xs : List D} (h : S2[l]? = some (.lst xs)) (hp : D.pures xs = true) : Low S2 l := ⟨_, h, fun _ => lows_pures hp⟩
/-- a call's end: what is told has no places; what it wrote is flat -/
theorem Wp_close {d : D} {Q : D → Sto → Prop} {X : Xc → Sto → Prop} (hf : FrG A S S2) (hA : ∀ l, l < S.length → A l → Low S2 l) (hp : D.pure d = true)
    (hq : Fr A S (S2.take S.length) → (∀ l, l < S.length → (S2.take S.length)[l]? = S2[l]?) → Q d (S2.take S.length)) : Wp (closeR true S (.ret d S2)) Q X := by
  have hg : ∀ l, l < S.length → (S2.take S.length)[l]? = S2[l]? := fun l hl => List.getElem?_take_of_lt hl
  have hl : (S2.take S.length).length = S.length := by rw [List.length_take]; have := hf.1; omega
  rw [closeR_pure hp hf.1]
  · rw [Wp_ok]
    refine hq ⟨hl, fun l hA => ?_⟩ hg
    by_cases e : l < S.length
    · rw [hg l e]; exact hf.2 l e hA
    · rw [List.getElem?_eq_none (by omega), List.getElem?_eq_none (by omega)]
  · intro l hl
    by_cases e : A l
    · obtain ⟨m, h1, h2⟩ := hA l hl e
      exact .inr ⟨m, h1, h2 _⟩
    · exact .inl (hf.2 l hl e)
end
end Pw

set_option Elab.async false
set_option linter.all false
set_option maxRecDepth 100000
set_option maxHeartbeats 1000000
namespace Pw
open PySem PySem.Spec PyProof.Rows L2
/-! # stepping -/
section
variable {S : Sto} {X : Xc → Sto → Prop} {C : Nat → List D → Sto → R D} {G : Nat → Option D} {N : Ev → Sto → Prop} {T : D → Sto → Prop} {e : Ev}
theorem WpS_cons (s : SI) (ss : List SI) : WpS (denSs C G (s :: ss) e S) N T X = WpS (denS C G s e S) (fun e S => WpS (denSs C G ss e S) N T X) T X := by
  rw [ss_cons, WpS_then]
@[simp] theorem Wp_mkLf (xs : List D) (Q : D → Sto → Prop) : Wp (mkL false xs S) Q X = (xs.length ≤ sizeLine ∧ Q (.lst xs) S) := by
  unfold mkL
  by_cases h : xs.length ≤ sizeLine
  · rw [if_pos h]; simp [h]
  · rw [if_neg h]; simp [h]
@[simp] theorem Wp_mkLt (xs : List D) (Q : D → Sto → Prop) : Wp (mkL true xs S) Q X = (xs.length ≤ sizeLine ∧ Q (.ref S.length) (S ++ [.lst xs])) := by
  unfold mkL
  by_cases h : xs.length ≤ sizeLine
  · rw [if_pos h]; simp [h]
  · rw [if_neg h]; simp [h]
@[simp] theorem Wp_okif {α : Type} {c : Prop} [Decidable c] (a : α) (Q : α → Sto → Prop) : Wp (if c then .ok a S else .bad) Q X = (c ∧ Q a S) := by
  split <;> simp_all
theorem WpS_sub (o : Option Sto) : WpS (match o with
      | some S4 => .nx e S4
      | none => .bad) N T X = (∃ S4, o = some S4 ∧ N e S4) := by
  cases o <;> simp
@[simp] theorem src1_str (x : Str) : src1 S (.str x) = some ⟨chars x, []⟩ := (rfl)
@[simp] theorem src1_tup (x : List D) : src1 S (.tup x) = some ⟨x, []⟩ := (rfl)
@[simp] theorem src1_lst (x : List D) : src1 S (.lst x) = some ⟨x, []⟩ := (rfl)
theorem src1_ref {l : Nat} {x : List D} (h : S[l]? = some (.lst x)) : src1 S (.ref l) = some ⟨x, [(l, x)]⟩ := by
  unfold src1
  rw [rd_ref, h]
  rfl
@[simp] theorem srcEnum_tup (x : List D) : srcEnum S (.tup x) = some ⟨enumD x, []⟩ := (rfl)
@[simp] theorem srcEnum_lst (x : List D) : srcEnum S (.lst x) = some ⟨enumD x, []⟩ := (rfl)
@[simp] theorem stays_nil' (xs : List D) : Src.stays ⟨xs, []⟩ S = True := eq_true (stays_nil xs)
@[simp] theorem seq_tup (x : List D) : seqOf S (.tup x) = some x := (rfl)
@[simp] theorem seq_lst (x : List D) : seqOf S (.lst x) = some x := (rfl)
@[simp] theorem put_n (i : Nat) (d : D) : Tg.put (.n i) d S e = if i < e.length then some (e.set i (some d)) else none := (rfl)
theorem put_tu (ts : List Tg) (d : D) : Tg.put (.tu ts) d S e = match seqOf S d with
    | some xs => if xs.length = ts.length then Tg.puts ts xs S e else none
    | none => none := (rfl)
@[simp] theorem put_tup (ts : List Tg) (xs : List D) : Tg.put (.tu ts) (.tup xs) S e = if xs.length = ts.length then Tg.puts ts xs S e else none := (rfl)
@[simp] theorem put_lst (ts : List Tg) (xs : List D) : Tg.put (.tu ts) (.lst xs) S e = if xs.length = ts.length then Tg.puts ts xs S e else none := (rfl)
@[simp] theorem puts_nil : Tg.puts [] [] S e = some e := (rfl)
@[simp] theorem puts_cons (t : Tg) (ts : List Tg) (d : D) (ds : List D) : Tg.puts (t :: ts) (d :: ds) S e = match Tg.put t d S e with
    | some e' => Tg.puts ts ds S e'
    | none => none := (rfl)
@[simp] theorem wipe_nil : wipeE e [] = e := (rfl)
@[simp] theorem wipe_cons (v : Nat) (vs : List Nat) : wipeE e (v :: vs) = (wipeE e vs).set v none := (rfl)
theorem ix_str {z : Str} {k : Nat} (hk : k < z.cps.toList.length) (hl : z.length ≤ sizeLine) : Pw.index S (.str z) (.int (k : Int)) = some (.str ⟨#[z.cps.toList[k]]⟩) := by
  unfold Pw.index
  simp only [rd_str]
  rw [show strBig z = true from decide_eq_true hl, if_pos rfl]
  have : atI z.cps.toList (k : Int) = some z.cps.toList[k] := by
    unfold atI
    rw [show ixN z.cps.toList.length (k : Int) = some k from by unfold ixN; rw [if_pos (by omega), if_pos (by omega), Int.toNat_natCast]]
    exact List.getElem?_eq_getElem hk
  rw [this]
  rfl
theorem tTup {bx : Bool} (xs : List D) : prim .tuple bx [.tup xs] S = .ok (.tup xs) S := (rfl)
theorem tLst {bx : Bool} (xs : List D) : prim .tuple bx [.lst xs] S = .ok (.tup xs) S := (rfl)
theorem lTup {bx : Bool} (xs : List D) : prim .len bx [.tup xs] S = .ok (.int xs.length) S := (rfl)
theorem lLst {bx : Bool} (xs : List D) : prim .len bx [.lst xs] S = .ok (.int xs.length) S := (rfl)
theorem b_add (i j : Int) (bx : Bool) : binop .add bx (.int i) (.int j) S = .ok (.int (i + j)) S := (rfl)
theorem b_sub (i j : Int) (bx : Bool) : binop .sub bx (.int i) (.int j) S = .ok (.int (i - j)) S := (rfl)
theorem b_adds (x y : Str) (bx : Bool) : binop .add bx (.str x) (.str y) S = if x.length + y.length ≤ sizeLine then .ok (.str (x ++ y)) S else .bad := (rfl)
theorem b_addt (x y : List D) (bx : Bool) : binop .add bx (.tup x) (.tup y) S = if x.length + y.length ≤ sizeLine then .ok (.tup (x ++ y)) S else .bad := (rfl)
theorem b_addl (x y : List D) (bx : Bool) : binop .add bx (.lst x) (.lst y) S = mkL bx (x ++ y) S := (rfl)
theorem b_mod (i j : Int) (bx : Bool) (h : 0 < j) : binop .mod bx (.int i) (.int j) S = .ok (.int (i % j)) S := by
  show R.opt S (((if 0 < j then some (i % j) else none) : Option Int).map D.int) = _
  rw [if_pos h]
  rfl
theorem b_fdiv (i j : Int) (bx : Bool) (h : 0 < j) (h2 : j < 1073741824) : binop .fdiv bx (.int i) (.int j) S = .ok (.int (i / j)) S := by
  show R.opt S (((if 0 < j ∧ j < 1073741824 then some (i / j) else none) : Option Int).map D.int) = _
  rw [if_pos ⟨h, h2⟩]
  rfl
theorem c_eqi (i j : Int) : cmpop .eq (.int i) (.int j) S = some (decide (i = j)) := by
  have e := deq_nb (S := S) (a := .int i) (b := .int j) rfl rfl (by simp [D.dep])
  simp only [cmpop, e]
  simp
theorem c_nei (i j : Int) : cmpop .ne (.int i) (.int j) S = some (!decide (i = j)) := by
  have e := deq_nb (S := S) (a := .int i) (b := .int j) rfl rfl (by simp [D.dep])
  simp only [cmpop, e]
  simp
theorem c_eqs (i j : Str) : cmpop .eq (.str i) (.str j) S = some (decide (i = j)) := by
  have e := deq_nb (S := S) (a := .str i) (b := .str j) rfl rfl (by simp [D.dep])
  simp only [cmpop, e]
  simp
theorem c_nes (i j : Str) : cmpop .ne (.str i) (.str j) S = some (!decide (i = j)) := by
  have e := deq_nb (S := S) (a := .str i) (b := .str j) rfl rfl (by simp [D.dep])
  simp only [cmpop, e]
  simp
theorem c_lt (i j : Int) : cmpop .lt (.int i) (.int j) S = some (decide (i < j)) := (rfl)
theorem c_le (i j : Int) : cmpop .le (.int i) (.int j) S = some (decide (i ≤ j)) := (rfl)
theorem c_gt (i j : Int) : cmpop .gt (.int i) (.int j) S = some (decide (j < i)) := (rfl)
theorem c_ge (i j : Int) : cmpop .ge (.int i) (.int j) S = some (decide (j ≤ i)) := (rfl)
@[simp] theorem tr_bl (b : Bool) : truth S (.bl b) = some b := (rfl)
@[simp] theorem kd_lst (xs : List D) : kd S (.lst xs) = 1 := (rfl)
@[simp] theorem kd_tup (xs : List D) : kd S (.tup xs) = 2 := (rfl)
@[simp] theorem kd_str (xs : Str) : kd S (.str xs) = 4 := (rfl)
theorem kd_refl {l : Nat} {x : List D} (h : S[l]? = some (.lst x)) : kd S (.ref l) = 1 := by
  unfold kd
  rw [rd_ref, h]
  rfl
theorem p_app {bx : Bool} {j : Nat} {xs : List D} {y : D} (h : S[j]? = some (.lst xs)) (hl : xs.length < sizeLine) : prim .append bx [.ref j, y] S = .ok .non (S.set j (.lst (xs ++ [y]))) := by
  show dAppend (.ref j) y S = _
  unfold dAppend
  simp only [h]
  rw [if_pos hl]
theorem Wp_pure {α : Type} {r : R α} {a : α} {Q : α → Sto → Prop} (h : r = .ok a S) : Wp r Q X = Q a S := by rw [h, Wp_ok]
@[simp] theorem Wp_tOf {r : R D} {Q : Bool → Sto → Prop} : Wp (tOf r) Q X = Wp r (fun d S => Wp (R.opt S (truth S d)) Q X) X := by
  unfold tOf
  simp
/-- pieces meet again -/
theorem WpS.join {r : SR} {N2 : Ev → Sto → Prop} (N : Ev → Sto → Prop) (h : WpS r N T X) (hn : ∀ e S, N e S → N2 e S) : WpS r N2 T X := h.mono hn (fun _ _ z => z) (fun _ _ z => z)
theorem nodup_le {α : Type} [DecidableEq α] : ∀ {l ws : List α}, l.Nodup → l ⊆ ws → l.length ≤ ws.length
  | [], _, _, _ => Nat.zero_le _
  | x :: l, ws, hn, hs => by
    have hx : x ∈ ws := hs (List.mem_cons_self ..)
    rw [List.nodup_cons] at hn
    have h1 : l ⊆ ws.erase x := by
      intro y hy
      have hne : y ≠ x := fun z => hn.1 (z ▸ hy)
      exact (List.mem_erase_of_ne hne).mpr (hs (List.mem_cons_of_mem _ hy))
    have h2 := nodup_le hn.2 h1
    rw [List.length_erase_of_mem hx] at h2
    have := List.length_pos_of_mem hx
    rw [List.length_cons]
    omega
end
end Pw

set_option Elab.async false
set_option linter.all false
set_option maxRecDepth 100000
set_option maxHeartbeats 1000000
namespace Pw
open PySem PySem.Spec PyProof.Rows L2
/-! # slices, lists of numbers, pops -/
section
variable {S : Sto} {X : Xc → Sto → Prop}
theorem cut_from (xs : List D) (k : Nat) : cutD xs (some (k : Int)) none = xs.drop k := by
  unfold cutD
  rw [HT.sIx_nat, HT.sIx_none]
  by_cases h : k ≤ xs.length
  · rw [Nat.min_eq_left h, List.take_of_length_le (by rw [List.length_drop]; omega)]
  · rw [Nat.min_eq_right (by omega), List.drop_of_length_le (Nat.le_refl _), List.drop_of_length_le (by omega)]
    simp
theorem cut_to (xs : List D) (k : Nat) : cutD xs none (some (k : Int)) = xs.take k := by
  unfold cutD
  rw [HT.sIx_nat, HT.sIx_none, List.drop_zero, Nat.sub_zero]
  by_cases h : k ≤ xs.length
  · rw [Nat.min_eq_left h]
  · rw [Nat.min_eq_right (by omega), List.take_of_length_le (Nat.le_refl _), List.take_of_length_le (by omega)]
theorem sl_tup {bx : Bool} (xs : List D) (a b : Option Int) : slice bx (.tup xs) a b S = .ok (.tup (cutD xs a b)) S := (rfl)
theorem sl_lst {bx : Bool} (xs : List D) (a b : Option Int) : slice bx (.lst xs) a b S = mkL bx (cutD xs a b) S := (rfl)
theorem rv_tup {bx : Bool} (xs : List D) : revd bx (.tup xs) S = .ok (.tup xs.reverse) S := (rfl)
theorem cut_mem {xs : List D} {a b : Option Int} : ∀ d ∈ cutD xs a b, d ∈ xs := fun d h => List.mem_of_mem_drop (List.mem_of_mem_take h)
theorem cut_len {xs : List D} {a b : Option Int} : (cutD xs a b).length ≤ xs.length := by
  unfold cutD
  rw [List.length_take, List.length_drop]
  omega
@[simp] theorem asInt_int (i : Int) : asInt (.int i) = some (some i) := (rfl)
theorem tList {bx : Bool} (xs : List D) : prim .list bx [.tup xs] S = mkL bx xs S := (rfl)
theorem lList {bx : Bool} (xs : List D) : prim .list bx [.lst xs] S = mkL bx xs S := (rfl)
theorem p_mx {bx : Bool} (i j : Int) : prim .max2 bx [.int i, .int j] S = .ok (.int (if j > i then j else i)) S := (rfl)
theorem p_mn {bx : Bool} (i j : Int) : prim .min2 bx [.int i, .int j] S = .ok (.int (if j < i then j else i)) S := (rfl)
theorem p_rngL {bx : Bool} {j : Int} (h2 : j < 10000000) (h1 : -(2 ^ 62) ≤ j := by omega) : prim (.rangeL 1) bx [.int j] S = mkL bx ((List.range j.toNat).map fun (k : Nat) => D.int (k : Int)) S := by
  show R.o (rangeOf 1 [.int j]) (fun q => if q.2 ≤ sizeLine then mkL bx (rangeD q.1 q.2) S else .bad) = _
  have e : rangeOf 1 [.int j] = some (0, j.toNat) := by
    simp only [rangeOf]
    rw [if_pos ⟨trivial, h1, by omega⟩]
  rw [e]
  simp only [R.o_some]
  rw [if_pos (by rw [sizeLine_eq]; omega)]
  congr 1
  unfold rangeD
  apply List.map_congr_left
  intro a _
  rw [Int.zero_add]
theorem p_popat {bx : Bool} {j : Nat} {xs : List D} {k : Nat} (h : S[j]? = some (.lst xs)) (hk : k < xs.length) (hl : xs.length ≤ 1000000) : prim .popAt bx [.ref j, .int (k : Int)] S = .ok xs[k] (S.set j (.lst (xs.eraseIdx k))) := by
  show dPopAt (.ref j) (.int k) S = _
  unfold dPopAt
  simp only [h]
  rw [show ixN xs.length (k : Int) = some k from by unfold ixN; rw [if_pos (by omega), if_pos (by omega), Int.toNat_natCast]]
  simp only [R.o_some]
  rw [List.getElem?_eq_getElem hk]
  simp only [R.o_some]
  rw [if_pos (by omega)]
theorem perm_erase {α : Type} : ∀ {ls : List α} {k : Nat} (h : k < ls.length), (ls[k] :: ls.eraseIdx k).Perm ls
  | [], _, h => by cases h
  | x :: ls, 0, _ => List.Perm.refl _
  | x :: ls, k + 1, h => (List.Perm.swap ..).trans ((perm_erase (ls := ls) (k := k) (by simpa using h)).cons x)
theorem map_erase' {α : Type} (g : α → D) : ∀ (ls : List α) (k : Nat), (ls.map g).eraseIdx k = (ls.eraseIdx k).map g
  | [], _ => rfl
  | _ :: _, 0 => rfl
  | x :: ls, k + 1 => by
    show g x :: (ls.map g).eraseIdx k = g x :: (ls.eraseIdx k).map g
    rw [map_erase' g ls k]
theorem Sq.ixd {α : Type} {Y : D} {enc : α → D} {xs : List α} (z : α) (h : Sq S Y (xs.map enc)) {k : Nat} (hk : k < xs.length) : Pw.index S Y (.int (k : Int)) = some (enc (xs.getD k z)) := by
  rw [h.ixm hk, List.getD_eq_getElem?_getD, List.getElem?_eq_getElem hk]
  rfl
theorem getD_in {α : Type} (z : α) {xs : List α} {k : Nat} (hk : k < xs.length) : xs.getD k z ∈ xs := by
  rw [List.getD_eq_getElem?_getD, List.getElem?_eq_getElem hk]
  exact List.getElem_mem hk
end
end Pw

set_option Elab.async false
set_option linter.all false
set_option maxRecDepth 100000
set_option maxHeartbeats 0
namespace Pw.Lw
open PySem PySem.Spec PyProof.Rows L2 Pw
abbrev pw : PySem.Program := PySem.Challenge.pw_wirewebs_k44_leadings_judged
def st (i : Nat) : Stmt := pw.main.body.getD i (.Pass ⟨0, 0, 0, 0⟩)
def f0 : Fn := ⟨1, 1, true, [
  .ret (.and (.isi (.v 0) .int) (.not (.isi (.v 0) .bool)))]⟩
def d0 : FD := ⟨"is_integer", "is_integer", st 1, ["value"], ["value"], f0⟩
def f1 : Fn := ⟨3, 3, true, [
  .ret (.and (.call 0 [(.v 1)]) (.cmp2 .le .le (.v 0) (.v 1) (.v 2)))]⟩
def d1 : FD := ⟨"is_between", "is_between", st 2, ["least", "value", "most"], ["least", "value", "most"], f1⟩
def f2 : Fn := ⟨2, 2, true, [
  .ret (.and (.isi (.v 1) .tuple) (.cmp .eq (.pr .len false [(.v 1)]) (.v 0)))]⟩
def d2 : FD := ⟨"is_tuple_of", "is_tuple_of", st 3, ["length", "value"], ["length", "value"], f2⟩
def f3 : Fn := ⟨3, 2, true, [
  .ite (.or (.not (.isi (.v 1) .tuple)) (.or (.cmp .ne (.pr .len false [(.v 1)]) (.v 0)) (.not (.pr .all false [(.comp false (.n 2) (.e (.v 1)) [2] none (.call 1 [(.k (.int 0)), (.v 2), (.bin .sub false (.v 0) (.k (.int 1)))]))])))) [.ret (.k (.bl false))] [],
  .ret (.cmp .eq (.pr .sorted false [(.v 1)]) (.pr (.rangeL 1) false [(.v 0)]))]⟩
def d3 : FD := ⟨"is_order", "is_order", st 5, ["many", "value", "one"], ["many", "value"], f3⟩
def f4 : Fn := ⟨3, 2, true, [
  .ret (.pr .tuple false [(.comp false (.n 2) (.e (.v 1)) [2] none (.ix (.v 0) (.v 2)))])]⟩
def d4 : FD := ⟨"led", "led", st 6, ["wires", "row", "one"], ["wires", "row"], f4⟩
def f5 : Fn := ⟨12, 3, true, [
  .ite (.or (.cmp .ne (.pr .len false [(.ix (.v 0) (.k (.int 0)))]) (.pr .len false [(.ix (.v 1) (.k (.int 0)))])) (.or (.cmp .ne (.pr .len false [(.ix (.v 0) (.k (.int 1)))]) (.pr .len false [(.ix (.v 1) (.k (.int 1)))])) (.not (.call 2 [(.k (.int 2)), (.v 2)])))) [.ret (.k (.bl false))] [],
  .asg (.g (.tu [(.n 3), (.n 4)])) (.v 2),
  .ite (.or (.not (.call 3 [(.pr .len false [(.ix (.v 0) (.k (.int 0)))]), (.v 3)])) (.not (.call 3 [(.pr .len false [(.ix (.v 0) (.k (.int 1)))]), (.v 4)]))) [.ret (.k (.bl false))] [],
  .ite (.not (.pr .all false [(.comp false (.tu [(.n 5), (.n 6)]) (.enum (.ix (.v 0) (.k (.int 0)))) [5, 6] none (.cmp .eq (.v 6) (.ix (.ix (.v 1) (.k (.int 0))) (.ix (.v 3) (.v 5)))))])) [.ret (.k (.bl false))] [],
  .ite (.cmp .ne (.tup [(.call 4 [(.v 3), (.ix (.v 0) (.k (.int 2)))]), (.call 4 [(.v 3), (.ix (.v 0) (.k (.int 3)))])]) (.sl false (.v 1) (some (.k (.int 2))) none)) [.ret (.k (.bl false))] [],
  .asg (.g (.n 10)) (.comp false (.tu [(.n 7), (.n 8), (.n 9)]) (.e (.ix (.v 0) (.k (.int 1)))) [7, 8, 9] none (.tup [(.v 7), (.call 4 [(.v 3), (.v 8)]), (.call 4 [(.v 3), (.v 9)])])),
  .ret (.pr .all false [(.comp false (.tu [(.n 5), (.n 11)]) (.enum (.v 10)) [5, 11] none (.cmp .eq (.v 11) (.ix (.ix (.v 1) (.k (.int 1))) (.ix (.v 4) (.v 5)))))])]⟩
def d5 : FD := ⟨"is_leading", "is_leading", st 7, ["web", "other_web", "value", "wires", "boxes", "k", "kind", "word", "ins", "outs", "moved", "box"], ["web", "other_web", "value"], f5⟩
def f6 : Fn := ⟨1, 1, false, [
  .asg (.g (.n 0)) (.bin .mod false (.pr .int false [(.v 0)]) (.bin .mul false (.bin .mul false (.bin .pow false (.k (.int 10)) (.k (.int 64))) (.bin .pow false (.k (.int 10)) (.k (.int 64)))) (.bin .pow false (.k (.int 10)) (.k (.int 64))))),
  .ret (.lst true [(.pr .max2 false [(.k (.int 0)), (.bin .sub false (.v 0) (.bin .pow false (.k (.int 10)) (.k (.int 18))))]), (.bin .add false (.bin .mod false (.v 0) (.k (.int 2147483629))) (.k (.int 3)))])]⟩
def d6 : FD := ⟨"_law_jar", "_law_jar", st 9, ["cell"], ["cell"], f6⟩
def f7 : Fn := ⟨3, 2, true, [
  .ite (.cmp .gt (.ix (.v 0) (.k (.int 0))) (.k (.int 0))) [.asg (.g (.n 2)) (.bin .mod false (.pr .int false [(.ix (.v 0) (.k (.int 0)))]) (.v 1)), .asg (.sub (.v 0) (.k (.int 0))) (.bin .fdiv false (.ix (.v 0) (.k (.int 0))) (.v 1)), .ret (.v 2)] [],
  .asg (.sub (.v 0) (.k (.int 1))) (.bin .mod false (.pr .int false [(.bin .add false (.bin .mul false (.ix (.v 0) (.k (.int 1))) (.k (.int 48271))) (.k (.int 12820163)))]) (.k (.int 2147483647))),
  .ret (.bin .mod false (.bin .fdiv false (.bin .mod false (.pr .int false [(.bin .mul false (.ix (.v 0) (.k (.int 1))) (.ix (.v 0) (.k (.int 1))))]) (.k (.int 2147483629))) (.k (.int 64))) (.v 1))]⟩
def d7 : FD := ⟨"_law_drawn", "_law_drawn", st 10, ["jar", "many", "digit"], ["jar", "many"], f7⟩
def f8 : Fn := ⟨3, 2, true, [
  .ite (.isk false (.v 1) .non) [.ret (.isk false (.v 0) .non)] [],
  .ite (.isk false (.v 1) (.bl true)) [.ret (.isk false (.v 0) (.bl true))] [],
  .ite (.isk false (.v 1) (.bl false)) [.ret (.isk false (.v 0) (.bl false))] [],
  .ite (.isi (.v 1) .int) [.ret (.and (.isi (.v 0) .int) (.and (.not (.isi (.v 0) .bool)) (.cmp .eq (.v 0) (.v 1))))] [],
  .ite (.isi (.v 1) .str) [.ret (.and (.isi (.v 0) .str) (.cmp .eq (.v 0) (.v 1)))] [],
  .ite (.or (.cmp .ne (.isi (.v 1) .tuple) (.isi (.v 0) .tuple)) (.cmp .ne (.isi (.v 1) .list) (.isi (.v 0) .list))) [.ret (.k (.bl false))] [],
  .ret (.and (.cmp .eq (.pr .len false [(.v 0)]) (.pr .len false [(.v 1)])) (.pr .all false [(.comp false (.n 2) (.rng [(.pr .len false [(.v 1)])]) [2] none (.call 8 [(.ix (.v 0) (.v 2)), (.ix (.v 1) (.v 2))]))]))]⟩
def d8 : FD := ⟨"_law_same", "_law_same", st 11, ["found", "due", "k"], ["found", "due"], f8⟩
def f9 : Fn := ⟨9, 2, true, [
  .asg (.g (.tu [(.n 2), (.n 3)])) (.tup [(.lst false [(.k (.str "a")), (.k (.str "b")), (.k (.str "box")), (.k (.str "left")), (.k (.str "wires")), (.k (.str "rule")), (.k (.str "f")), (.k (.str "g")), (.k (.str "boxes")), (.k (.str "one")), (.k (.str "like")), (.k (.str "abcdefgh"))]), (.lst true [])]),
  .asg (.g (.n 5)) (.comp false (.n 4) (.e (.k (.str "abcdefghijklmnopqrstuvwxyz"))) [4] none (.bin .add false (.k (.str "qz")) (.v 4))),
  .for_ (.n 6) (.rng [(.v 1)]) [.asg (.g (.n 7)) (.ix (.v 2) (.call 7 [(.v 0), (.k (.int 12))])), .ite (.cmp .eq (.call 7 [(.v 0), (.k (.int 3))]) (.k (.int 0))) [.asg (.g (.n 7)) (.mth .join false (.k (.str "")) [(.comp false (.n 6) (.rng [(.bin .add false (.k (.int 1)) (.call 7 [(.v 0), (.k (.int 8))]))]) [6] none (.ix (.k (.str "abcdefghijklmnopqrstuvwxyz")) (.call 7 [(.v 0), (.k (.int 26))])))])] [], .expr (.mth .append false (.v 3) [(.ite (.cmp .notin (.v 7) (.v 3)) (.v 7) (.ix (.comp false (.n 8) (.e (.v 5)) [8] (some (.cmp .notin (.v 8) (.v 3))) (.v 8)) (.k (.int 0))))])],
  .ret (.pr .tuple false [(.v 3)])]⟩
def d9 : FD := ⟨"_law_words", "_law_words", st 12, ["jar", "many", "menu", "found", "sign", "free", "k", "word", "one"], ["jar", "many"], f9⟩
def f10 : Fn := ⟨7, 1, true, [
  .asg (.g (.n 1)) (.call 9 [(.v 0), (.bin .add false (.k (.int 1)) (.call 7 [(.v 0), (.k (.int 3))]))]),
  .asg (.g (.n 2)) (.lst true []),
  .for_ (.n 3) (.e (.call 9 [(.v 0), (.bin .add false (.k (.int 1)) (.call 7 [(.v 0), (.k (.int 5))]))])) [.asg (.g (.n 6)) (.comp false (.n 4) (.rng [(.k (.int 2))]) [4] none (.pr .tuple false [(.comp false (.n 5) (.rng [(.call 7 [(.v 0), (.ix (.lst false [(.k (.int 3)), (.k (.int 4)), (.k (.int 5))]) (.call 7 [(.v 0), (.k (.int 3))]))])]) [5] none (.ix (.v 1) (.call 7 [(.v 0), (.pr .len false [(.v 1)])])))])), .expr (.mth .append false (.v 2) [(.tup [(.v 3), (.ix (.v 6) (.k (.int 0))), (.ix (.v 6) (.k (.int 1)))])])],
  .ret (.tup [(.pr .tuple false [(.v 2)]), (.v 1)])]⟩
def d10 : FD := ⟨"_law_stock", "_law_stock", st 13, ["jar", "kinds", "rows", "word", "side", "k", "feet"], ["jar"], f10⟩
def f11 : Fn := ⟨6, 4, true, [
  .asg (.g (.n 5)) (.comp false (.n 4) (.rng [(.pr .len false [(.v 1)])]) [4] (some (.cmp .eq (.ix (.v 1) (.v 4)) (.v 2))) (.v 4)),
  .ite (.or (.cmp .eq (.v 5) (.lst false [])) (.and (.cmp .eq (.call 7 [(.v 0), (.v 3)]) (.k (.int 0))) (.cmp .lt (.pr .len false [(.v 1)]) (.k (.int 9))))) [.expr (.mth .append false (.v 1) [(.v 2)]), .ret (.bin .sub false (.pr .len false [(.v 1)]) (.k (.int 1)))] [],
  .ret (.ix (.v 5) (.call 7 [(.v 0), (.pr .len false [(.v 5)])]))]⟩
def d11 : FD := ⟨"_law_wire", "_law_wire", st 14, ["jar", "wires", "kind", "fresh", "k", "there"], ["jar", "wires", "kind", "fresh"], f11⟩
def f12 : Fn := ⟨7, 4, true, [
  .asg (.g (.n 6)) (.comp false (.n 4) (.e (.sl false (.v 2) (some (.k (.int 1))) none)) [4] none (.pr .tuple false [(.comp false (.n 5) (.e (.v 4)) [5] none (.call 11 [(.v 0), (.v 1), (.v 5), (.v 3)]))])),
  .ret (.tup [(.ix (.v 2) (.k (.int 0))), (.ix (.v 6) (.k (.int 0))), (.ix (.v 6) (.k (.int 1)))])]⟩
def d12 : FD := ⟨"_law_box", "_law_box", st 15, ["jar", "wires", "sort", "fresh", "side", "kind", "feet"], ["jar", "wires", "sort", "fresh"], f12⟩
def f13 : Fn := ⟨9, 4, true, [
  .asg (.g (.n 5)) (.comp true (.n 4) (.rng [(.call 7 [(.v 0), (.k (.int 4))])]) [4] none (.ix (.v 2) (.call 7 [(.v 0), (.pr .len false [(.v 2)])]))),
  .asg (.g (.n 6)) (.comp false (.n 4) (.rng [(.call 7 [(.v 0), (.bin .add false (.v 3) (.k (.int 1)))])]) [4] none (.call 12 [(.v 0), (.v 5), (.ix (.v 1) (.call 7 [(.v 0), (.pr .len false [(.v 1)])])), (.k (.int 3))])),
  .asg (.g (.n 8)) (.comp false (.n 7) (.rng [(.k (.int 2))]) [7] none (.pr .tuple false [(.comp false (.n 4) (.rng [(.ite (.cmp .ne (.v 5) (.lst false [])) (.call 7 [(.v 0), (.k (.int 4))]) (.k (.int 0)))]) [4] none (.call 7 [(.v 0), (.pr .len false [(.v 5)])]))])),
  .ret (.tup [(.pr .tuple false [(.v 5)]), (.pr .tuple false [(.v 6)]), (.ix (.v 8) (.k (.int 0))), (.ix (.v 8) (.k (.int 1)))])]⟩
def d13 : FD := ⟨"_law_web", "_law_web", st 16, ["jar", "stock", "kinds", "most", "k", "wires", "boxes", "side", "sides"], ["jar", "stock", "kinds", "most"], f13⟩
def f14 : Fn := ⟨14, 3, true, [
  .asg (.g (.n 3)) (.lst true []),
  .asg (.g (.n 5)) (.comp false (.n 4) (.rng [(.bin .add false (.k (.int 1)) (.call 7 [(.v 0), (.ix (.lst false [(.k (.int 2)), (.k (.int 4))]) (.call 7 [(.v 0), (.k (.int 2))]))]))]) [4] none (.call 12 [(.v 0), (.v 3), (.ix (.v 1) (.call 7 [(.v 0), (.pr .len false [(.v 1)])])), (.k (.int 3))])),
  .asg (.g (.tu [(.n 6), (.n 7)])) (.tup [(.lst false [(.lst true []), (.lst true [])]), (.pr (.rangeL 1) true [(.pr .len false [(.v 3)])])]),
  .for_ (.n 4) (.rng [(.pr .len false [(.v 3)])]) [.asg (.g (.n 8)) (.mth .popAt false (.v 7) [(.call 7 [(.v 0), (.pr .len false [(.v 7)])])]), .asg (.g (.n 9)) (.call 7 [(.v 0), (.k (.int 4))]), .ite (.and (.cmp .gt (.v 9) (.k (.int 0))) (.cmp .lt (.pr .len false [(.ix (.v 6) (.bin .mod false (.pr .int false [(.v 9)]) (.k (.int 2))))]) (.k (.int 4)))) [.expr (.mth .append false (.ix (.v 6) (.bin .mod false (.pr .int false [(.v 9)]) (.k (.int 2)))) [(.v 8)])] []],
  .asg (.g (.n 10)) (.tup [(.pr .tuple false [(.v 3)]), (.pr .tuple false [(.v 5)]), (.pr .tuple false [(.ix (.v 6) (.k (.int 0)))]), (.pr .tuple false [(.ix (.v 6) (.k (.int 1)))])]),
  .asg (.g (.n 11)) (.lst true []),
  .asg (.g (.n 13)) (.comp false (.n 12) (.e (.v 6)) [12] none (.pr .tuple false [(.comp false (.n 8) (.e (.v 12)) [8] none (.call 11 [(.v 0), (.v 11), (.ix (.v 3) (.v 8)), (.k (.int 2))]))])),
  .asg (.g (.n 5)) (.comp false (.n 4) (.rng [(.call 7 [(.v 0), (.k (.int 3))])]) [4] none (.call 12 [(.v 0), (.v 11), (.ix (.v 1) (.call 7 [(.v 0), (.pr .len false [(.v 1)])])), (.k (.int 3))])),
  .ret (.tup [(.v 10), (.tup [(.pr .tuple false [(.v 11)]), (.pr .tuple false [(.v 5)]), (.ix (.v 13) (.k (.int 0))), (.ix (.v 13) (.k (.int 1)))])])]⟩
def d14 : FD := ⟨"_law_rule", "_law_rule", st 17, ["jar", "stock", "kinds", "wires", "k", "boxes", "sides", "left", "at", "way", "one", "more", "side", "ends"], ["jar", "stock", "kinds"], f14⟩
def f15 : Fn := ⟨4, 1, true, [
  .asg (.g (.tu [(.n 1), (.n 2)])) (.call 10 [(.v 0)]),
  .ret (.tup [(.v 1), (.pr .tuple false [(.comp false (.n 3) (.rng [(.bin .add false (.k (.int 1)) (.call 7 [(.v 0), (.ix (.lst false [(.k (.int 3)), (.k (.int 8))]) (.call 7 [(.v 0), (.k (.int 2))]))]))]) [3] none (.call 14 [(.v 0), (.v 1), (.v 2)]))]), (.v 2)])]⟩
def d15 : FD := ⟨"_law_book", "_law_book", st 18, ["jar", "stock", "kinds", "k"], ["jar"], f15⟩
def f16 : Fn := ⟨4, 2, true, [
  .asg (.g (.n 2)) (.pr (.rangeL 1) true [(.v 1)]),
  .ret (.pr .tuple false [(.comp false (.n 3) (.rng [(.v 1)]) [3] none (.mth .popAt false (.v 2) [(.call 7 [(.v 0), (.pr .len false [(.v 2)])])]))])]⟩
def d16 : FD := ⟨"_law_order", "_law_order", st 19, ["jar", "many", "left", "k"], ["jar", "many"], f16⟩
def f17 : Fn := ⟨10, 3, true, [
  .asg (.g (.tu [(.n 4), (.n 5)])) (.tup [(.comp false (.n 3) (.rng [(.pr .len false [(.v 1)])]) [3] none (.ix (.ix (.v 0) (.k (.int 0))) (.mth .indexOf false (.v 1) [(.v 3)]))), (.lst true [])]),
  .for_ (.n 3) (.rng [(.pr .len false [(.v 2)])]) [.asg (.g (.tu [(.n 6), (.n 7), (.n 8)])) (.ix (.ix (.v 0) (.k (.int 1))) (.mth .indexOf false (.v 2) [(.v 3)])), .expr (.mth .append false (.v 5) [(.tup [(.v 6), (.pr .tuple false [(.comp false (.n 9) (.e (.v 7)) [9] none (.ix (.v 1) (.v 9)))]), (.pr .tuple false [(.comp false (.n 9) (.e (.v 8)) [9] none (.ix (.v 1) (.v 9)))])])])],
  .ret (.tup [(.pr .tuple false [(.v 4)]), (.pr .tuple false [(.v 5)]), (.pr .tuple false [(.comp false (.n 9) (.e (.ix (.v 0) (.k (.int 2)))) [9] none (.ix (.v 1) (.v 9)))]), (.pr .tuple false [(.comp false (.n 9) (.e (.ix (.v 0) (.k (.int 3)))) [9] none (.ix (.v 1) (.v 9)))])])]⟩
def d17 : FD := ⟨"_law_led", "_law_led", st 20, ["web", "wires", "boxes", "k", "kinds", "rows", "word", "ins", "outs", "at"], ["web", "wires", "boxes"], f17⟩
def f18 : Fn := ⟨4, 3, true, [
  .ite (.or (.not (.isi (.v 0) .tuple)) (.cmp .ne (.pr .len false [(.v 0)]) (.v 1))) [.ret (.k (.bl false))] [],
  .for_ (.n 3) (.e (.v 0)) [.ite (.or (.not (.isi (.v 3) .int)) (.or (.isk false (.v 3) (.bl true)) (.or (.isk false (.v 3) (.bl false)) (.not (.cmp2 .le .lt (.k (.int 0)) (.v 3) (.v 2)))))) [.ret (.k (.bl false))] []],
  .ret (.k (.bl true))]⟩
def d18 : FD := ⟨"_law_numbers", "_law_numbers", st 21, ["value", "many", "most", "one"], ["value", "many", "most"], f18⟩
def f19 : Fn := ⟨5, 3, true, [
  .ite (.or (.not (.isi (.v 2) .tuple)) (.cmp .ne (.pr .len false [(.v 2)]) (.k (.int 2)))) [.ret (.k (.bl false))] [],
  .asg (.g (.tu [(.n 3), (.n 4)])) (.v 2),
  .ite (.or (.not (.call 18 [(.v 3), (.pr .len false [(.ix (.v 0) (.k (.int 0)))]), (.pr .len false [(.ix (.v 1) (.k (.int 0)))])])) (.not (.call 18 [(.v 4), (.pr .len false [(.ix (.v 0) (.k (.int 1)))]), (.pr .len false [(.ix (.v 1) (.k (.int 1)))])]))) [.ret (.k (.bl false))] [],
  .ite (.or (.cmp .ne (.pr .sorted false [(.v 3)]) (.pr (.rangeL 1) false [(.pr .len false [(.ix (.v 1) (.k (.int 0)))])])) (.cmp .ne (.pr .sorted false [(.v 4)]) (.pr (.rangeL 1) false [(.pr .len false [(.ix (.v 1) (.k (.int 1)))])]))) [.ret (.k (.bl false))] [],
  .ret (.call 8 [(.call 17 [(.v 0), (.v 3), (.v 4)]), (.v 1)])]⟩
def d19 : FD := ⟨"_law_leads", "_law_leads", st 22, ["web", "other", "value", "wires", "boxes"], ["web", "other", "value"], f19⟩
def f20 : Fn := ⟨13, 3, true, [
  .asg (.g (.tu [(.n 3), (.n 4), (.n 5), (.n 6)])) (.v 2),
  .asg (.g (.tu [(.n 7), (.n 8)])) (.tup [(.call 7 [(.v 0), (.k (.int 7))]), (.call 7 [(.v 0), (.pr .max2 false [(.k (.int 1)), (.pr .len false [(.v 4)])])])]),
  .ite (.and (.cmp .eq (.v 7) (.k (.int 0))) (.cmp .ne (.v 5) (.tup []))) [.ret (.tup [(.v 3), (.v 4), (.bin .add false (.sl false (.v 5) (some (.k (.int 1))) none) (.sl false (.v 5) none (some (.k (.int 1))))), (.v 6)])] [],
  .ite (.cmp .eq (.v 7) (.k (.int 1))) [.ret (.tup [(.v 3), (.v 4), (.v 6), (.v 5)])] [],
  .ite (.cmp .eq (.v 7) (.k (.int 2))) [.ret (.tup [(.bin .add false (.v 3) (.sl false (.v 3) none (some (.k (.int 1))))), (.v 4), (.v 5), (.v 6)])] [],
  .ite (.and (.cmp .eq (.v 7) (.k (.int 3))) (.cmp .ne (.v 4) (.tup []))) [.asg (.g (.tu [(.n 9), (.n 10), (.n 11)])) (.ix (.v 4) (.v 8)), .asg (.g (.n 10)) (.ite (.cmp .eq (.comp false (.n 12) (.e (.v 10)) [12] none (.ix (.v 3) (.v 12))) (.comp false (.n 12) (.e (.rev false (.v 10))) [12] none (.ix (.v 3) (.v 12)))) (.v 10) (.rev false (.v 10))), .ret (.tup [(.v 3), (.bin .add false (.bin .add false (.sl false (.v 4) none (some (.v 8))) (.tup [(.tup [(.v 9), (.rev false (.v 10)), (.v 11)])])) (.sl false (.v 4) (some (.bin .add false (.v 8) (.k (.int 1)))) none)), (.v 5), (.v 6)])] [],
  .ite (.cmp .eq (.v 7) (.k (.int 4))) [.ret (.tup [(.v 3), (.rev false (.v 4)), (.v 5), (.v 6)])] [],
  .ite (.cmp .eq (.v 7) (.k (.int 5))) [.ret (.tup [(.v 3), (.sl false (.v 4) (some (.k (.int 1))) none), (.v 5), (.v 6)])] [],
  .ret (.v 2)]⟩
def d20 : FD := ⟨"_law_near", "_law_near", st 23, ["jar", "stock", "web", "wires", "boxes", "left", "right", "way", "k", "word", "ins", "outs", "at"], ["jar", "stock", "web"], f20⟩
def f21 : Fn := ⟨8, 2, true, [
  .asg (.g (.tu [(.n 2), (.n 3)])) (.v 1),
  .asg (.g (.tu [(.n 4), (.n 5)])) (.tup [(.call 7 [(.v 0), (.pr .max2 false [(.k (.int 1)), (.pr .len false [(.v 2)])])]), (.call 7 [(.v 0), (.pr .max2 false [(.k (.int 1)), (.pr .len false [(.v 3)])])])]),
  .asg (.g (.n 6)) (.lst false [(.v 1), (.tup [(.rev false (.v 2)), (.v 3)]), (.tup [(.v 2), (.rev false (.v 3))]), (.tup [(.bin .add false (.sl false (.v 2) (some (.k (.int 1))) none) (.sl false (.v 2) none (some (.k (.int 1))))), (.v 3)]), (.tup [(.v 2), (.bin .add false (.sl false (.v 3) (some (.k (.int 1))) none) (.sl false (.v 3) none (some (.k (.int 1)))))])]),
  .asg (.g (.n 6)) (.bin .add false (.v 6) (.lst false [(.tup [(.bin .add false (.bin .add false (.sl false (.v 2) none (some (.v 4))) (.sl false (.v 2) none (some (.k (.int 1))))) (.sl false (.v 2) (some (.bin .add false (.v 4) (.k (.int 1)))) none)), (.v 3)]), (.tup [(.v 2), (.bin .add false (.bin .add false (.sl false (.v 3) none (some (.v 5))) (.tup [(.v 5)])) (.sl false (.v 3) (some (.bin .add false (.v 5) (.k (.int 1)))) none))]), (.tup [(.bin .add false (.v 2) (.tup [(.k (.int 0))])), (.v 3)]), (.tup [(.v 2), (.bin .add false (.v 3) (.tup [(.k (.int 0))]))])])),
  .asg (.g (.n 6)) (.bin .add false (.v 6) (.lst false [(.k .non), (.tup []), (.lst false [(.v 2), (.v 3)]), (.tup [(.pr .list false [(.v 2)]), (.v 3)]), (.tup [(.v 2), (.pr .list false [(.v 3)])]), (.tup [(.v 2)]), (.tup [(.v 3), (.v 2)]), (.bin .add false (.v 1) (.tup [(.tup [])])), (.k (.int 7))])),
  .asg (.g (.n 6)) (.bin .add false (.v 6) (.lst false [(.tup [(.pr .tuple false [(.comp false (.n 7) (.e (.v 2)) [7] none (.ite (.cmp .lt (.v 7) (.k (.int 2))) (.cmp .eq (.v 7) (.k (.int 1))) (.v 7)))]), (.v 3)]), (.tup [(.v 2), (.pr .tuple false [(.comp false (.n 7) (.e (.v 3)) [7] none (.ite (.cmp .lt (.v 7) (.k (.int 2))) (.cmp .eq (.v 7) (.k (.int 1))) (.v 7)))])]), (.tup [(.rev false (.v 2)), (.rev false (.v 3))])])),
  .ret (.v 6)]⟩
def d21 : FD := ⟨"_law_values", "_law_values", st 24, ["jar", "leading", "wires", "boxes", "k", "j", "some", "at"], ["jar", "leading"], f21⟩
def f22 : Fn := ⟨16, 1, true, [
  .for_ (.n 1) (.e (.bin .add false (.lst false [(.k (.int 233))]) (.sl false (.v 0) none (some (.k (.int 15)))))) [.asg (.g (.n 2)) (.call 6 [(.v 1)]), .asg (.g (.tu [(.n 3), (.n 4)])) (.call 10 [(.v 2)]), .asg (.g (.n 5)) (.call 13 [(.v 2), (.v 3), (.v 4), (.k (.int 6))]), .ite (.and (.cmp .eq (.call 7 [(.v 2), (.k (.int 2))]) (.k (.int 0))) (.and (.cmp .lt (.pr .len false [(.ix (.v 5) (.k (.int 0)))]) (.k (.int 7))) (.cmp .lt (.pr .len false [(.ix (.v 5) (.k (.int 1)))]) (.k (.int 6))))) [.asg (.g (.n 10)) (.comp false (.tu [(.n 6), (.n 7), (.n 8)]) (.e (.ix (.v 5) (.k (.int 1)))) [6, 7, 8] none (.tup [(.v 6), (.pr .tuple false [(.comp false (.n 9) (.e (.v 7)) [9] none (.bin .add false (.v 9) (.pr .len false [(.ix (.v 5) (.k (.int 0)))])))]), (.pr .tuple false [(.comp false (.n 9) (.e (.v 8)) [9] none (.bin .add false (.v 9) (.pr .len false [(.ix (.v 5) (.k (.int 0)))])))])])), .asg (.g (.n 5)) (.tup [(.bin .mul false (.ix (.v 5) (.k (.int 0))) (.k (.int 2))), (.bin .add false (.ix (.v 5) (.k (.int 1))) (.pr .tuple false [(.v 10)])), (.tup []), (.tup [])])] [], .asg (.g (.n 11)) (.tup [(.call 16 [(.v 2), (.pr .len false [(.ix (.v 5) (.k (.int 0)))])]), (.call 16 [(.v 2), (.pr .len false [(.ix (.v 5) (.k (.int 1)))])])]), .asg (.g (.n 12)) (.call 17 [(.v 5), (.ix (.v 11) (.k (.int 0))), (.ix (.v 11) (.k (.int 1)))]), .ite (.or (.isk true (.call 5 [(.v 5), (.v 12), (.v 11)]) (.bl true)) (.isk true (.callk 5 [] [(.v 11), (.v 12), (.v 5)] [2, 1, 0]) (.bl true))) [.ret (.k (.bl false))] [], .for_ (.n 13) (.rng [(.k (.int 3))]) [.asg (.g (.n 14)) (.call 20 [(.v 2), (.v 3), (.v 12)]), .for_ (.n 15) (.e (.call 21 [(.v 2), (.v 11)])) [.ite (.not (.call 8 [(.call 5 [(.v 5), (.v 14), (.v 15)]), (.call 19 [(.v 5), (.v 14), (.v 15)])])) [.ret (.k (.bl false))] []]]],
  .ret (.k (.bl true))]⟩
def d22 : FD := ⟨"law", "law", st 25, ["script", "cell", "jar", "stock", "kinds", "web", "word", "ins", "outs", "at", "more", "leading", "other", "turn", "two", "value"], ["script"], f22⟩
def L : List FD := [d0, d1, d2, d3, d4, d5, d6, d7, d8, d9, d10, d11, d12, d13, d14, d15, d16, d17, d18, d19, d20, d21, d22]
def KS : List KSh := [⟨5, 0, ["value", "other_web", "web"], [2, 1, 0]⟩]
theorem b0 : Bnd d0 := fun _ _ _ _ _ _ us hl => match us, hl with | [_], _ => rfl
theorem b1 : Bnd d1 := fun _ _ _ _ _ _ us hl => match us, hl with | [_, _, _], _ => rfl
theorem b2 : Bnd d2 := fun _ _ _ _ _ _ us hl => match us, hl with | [_, _], _ => rfl
theorem b3 : Bnd d3 := fun _ _ _ _ _ _ us hl => match us, hl with | [_, _], _ => rfl
theorem b4 : Bnd d4 := fun _ _ _ _ _ _ us hl => match us, hl with | [_, _], _ => rfl
theorem b5 : Bnd d5 := fun _ _ _ _ _ _ us hl => match us, hl with | [_, _, _], _ => rfl
theorem b6 : Bnd d6 := fun _ _ _ _ _ _ us hl => match us, hl with | [_], _ => rfl
theorem b7 : Bnd d7 := fun _ _ _ _ _ _ us hl => match us, hl with | [_, _], _ => rfl
theorem b8 : Bnd d8 := fun _ _ _ _ _ _ us hl => match us, hl with | [_, _], _ => rfl
theorem b9 : Bnd d9 := fun _ _ _ _ _ _ us hl => match us, hl with | [_, _], _ => rfl
theorem b10 : Bnd d10 := fun _ _ _ _ _ _ us hl => match us, hl with | [_], _ => rfl
theorem b11 : Bnd d11 := fun _ _ _ _ _ _ us hl => match us, hl with | [_, _, _, _], _ => rfl
theorem b12 : Bnd d12 := fun _ _ _ _ _ _ us hl => match us, hl with | [_, _, _, _], _ => rfl
theorem b13 : Bnd d13 := fun _ _ _ _ _ _ us hl => match us, hl with | [_, _, _, _], _ => rfl
theorem b14 : Bnd d14 := fun _ _ _ _ _ _ us hl => match us, hl with | [_, _, _], _ => rfl
theorem b15 : Bnd d15 := fun _ _ _ _ _ _ us hl => match us, hl with | [_], _ => rfl
theorem b16 : Bnd d16 := fun _ _ _ _ _ _ us hl => match us, hl with | [_, _], _ => rfl
theorem b17 : Bnd d17 := fun _ _ _ _ _ _ us hl => match us, hl with | [_, _, _], _ => rfl
theorem b18 : Bnd d18 := fun _ _ _ _ _ _ us hl => match us, hl with | [_, _, _], _ => rfl
theorem b19 : Bnd d19 := fun _ _ _ _ _ _ us hl => match us, hl with | [_, _, _], _ => rfl
theorem b20 : Bnd d20 := fun _ _ _ _ _ _ us hl => match us, hl with | [_, _, _], _ => rfl
theorem b21 : Bnd d21 := fun _ _ _ _ _ _ us hl => match us, hl with | [_, _], _ => rfl
theorem b22 : Bnd d22 := fun _ _ _ _ _ _ us hl => match us, hl with | [_], _ => rfl
theorem bAll : ∀ d ∈ L, Bnd d := by
  intro d hd
  simp only [L, List.mem_cons, List.not_mem_nil, or_false] at hd
  rcases hd with rfl | rfl | rfl | rfl | rfl | rfl | rfl | rfl | rfl | rfl | rfl | rfl | rfl | rfl | rfl | rfl | rfl | rfl | rfl | rfl | rfl | rfl | rfl
  · exact b0
  · exact b1
  · exact b2
  · exact b3
  · exact b4
  · exact b5
  · exact b6
  · exact b7
  · exact b8
  · exact b9
  · exact b10
  · exact b11
  · exact b12
  · exact b13
  · exact b14
  · exact b15
  · exact b16
  · exact b17
  · exact b18
  · exact b19
  · exact b20
  · exact b21
  · exact b22
theorem kAll : ∀ q ∈ KS, ∀ d, L[q.f]? = some d → BndK d q := by
  intro q hq d hd
  simp only [KS, List.mem_cons, List.not_mem_nil, or_false] at hq
  rcases hq with rfl
  · cases (show some d5 = some d from hd); exact fun _ _ _ _ _ _ us ws h1 h2 => match us, ws, h1, h2 with | [], [_, _, _], _, _ => rfl
set_option maxRecDepth 1000000
theorem c0 : fdB 40 L KS d0 = true := by decide +kernel
theorem c1 : fdB 40 L KS d1 = true := by decide +kernel
theorem c2 : fdB 40 L KS d2 = true := by decide +kernel
theorem c3 : fdB 40 L KS d3 = true := by decide +kernel
theorem c4 : fdB 40 L KS d4 = true := by decide +kernel
theorem c5 : fdB 40 L KS d5 = true := by decide +kernel
theorem c6 : fdB 40 L KS d6 = true := by decide +kernel
theorem c7 : fdB 40 L KS d7 = true := by decide +kernel
theorem c8 : fdB 40 L KS d8 = true := by decide +kernel
theorem c9 : fdB 40 L KS d9 = true := by decide +kernel
theorem c10 : fdB 40 L KS d10 = true := by decide +kernel
theorem c11 : fdB 40 L KS d11 = true := by decide +kernel
theorem c12 : fdB 40 L KS d12 = true := by decide +kernel
theorem c13 : fdB 40 L KS d13 = true := by decide +kernel
theorem c14 : fdB 40 L KS d14 = true := by decide +kernel
theorem c15 : fdB 40 L KS d15 = true := by decide +kernel
theorem c16 : fdB 40 L KS d16 = true := by decide +kernel
theorem c17 : fdB 40 L KS d17 = true := by decide +kernel
theorem c18 : fdB 40 L KS d18 = true := by decide +kernel
theorem c19 : fdB 40 L KS d19 = true := by decide +kernel
theorem c20 : fdB 40 L KS d20 = true := by decide +kernel
theorem c21 : fdB 40 L KS d21 = true := by decide +kernel
theorem c22 : fdB 40 L KS d22 = true := by decide +kernel
end Pw.Lw

set_option Elab.async false
set_option linter.all false
set_option maxRecDepth 100000
set_option maxHeartbeats 1000000
namespace Pw.Lw
open PySem PySem.Spec PyProof.Rows L2 Pw
abbrev Fs := fsOf L
abbrev Gn : Nat → Option D := fun _ => none
noncomputable abbrev cl (n f : Nat) (ds : List D) (S : Sto) : R D := callN Fs Gn n f ds S
section
variable {n : Nat} {S : Sto}
/-- a thing that is read off itself -/
def D.val : D → Bool
  | .ref _ => false
  | .dct _ _ => false
  | _ => true
def isI : D → Bool
  | .int _ => true
  | _ => false
theorem s_int (d : D) (h : D.val d = true) : cl (n + 1) 0 [d] S = .ok (.bl (isI d)) S := by
  show callN Fs Gn (n + 1) 0 [d] S = _
  rw [call_eq (F := f0) rfl rfl]
  cases d <;> simp [D.val] at h <;> simp [f0, dVar, tyIs, dAnd, truth, isI]
theorem s_btw (a b : Int) (d : D) (h : D.val d = true) : cl (n + 2) 1 [.int a, d, .int b] S = .ok (.bl (match d with | .int i => decide (a ≤ i) && decide (i ≤ b) | _ => false)) S := by
  show callN Fs Gn (n + 2) 1 _ S = _
  rw [call_eq (F := f1) rfl rfl]
  have e := s_int (n := n) (S := S) d h
  simp only [cl] at e
  simp [f1, dVar, e]
  cases d with
  | int i => by_cases h : a ≤ i <;> simp [isI, dAnd, truth, dCmp2, cmpop, h]
  | _ => simp [isI, dAnd, truth]
theorem small {n : Nat} (h : n ≤ 1000) : n ≤ sizeLine := by rw [sizeLine_eq]; omega
def inR (m : Nat) : D → Bool
  | .int i => decide (0 ≤ i) && decide (i ≤ (m : Int) - 1)
  | _ => false
def intOf : D → Int
  | .int i => i
  | _ => 0
theorem inR_int {m : Nat} {xs : List D} (h : xs.all (inR m) = true) : xs = (xs.map intOf).map .int := by
  rw [List.map_map]
  conv => lhs; rw [← List.map_id xs]
  apply List.map_congr_left
  intro x hx
  have := List.all_eq_true.mp h x hx
  cases x <;> first | rfl | cases this
open Classical in
/-- told each just once -/
noncomputable def ordB (m : Nat) (xs : List D) : Bool := decide (xs.length = m) && xs.all (inR m) && decide ((xs.map intOf).mergeSort (fun a b => decide (a ≤ b)) = (List.range m).map fun (k : Nat) => (k : Int))
theorem bools_bl {α : Type} (p : α → Bool) : ∀ xs : List α, bools? (xs.map fun x => D.bl (p x)) = some (xs.map p)
  | [] => rfl
  | x :: xs => by
    show (bools? (xs.map fun x => D.bl (p x))).map (p x :: ·) = _
    rw [bools_bl p xs]; rfl
theorem prim_all {bx : Bool} {α : Type} (p : α → Bool) (xs : List α) : prim .all bx [.lst (xs.map fun x => D.bl (p x))] S = .ok (.bl (xs.all p)) S := by
  show R.o ((some (xs.map fun x => D.bl (p x))).bind bools?) (fun bs => .ok (.bl (bs.all id)) S) = _
  show R.o (bools? (xs.map fun x => D.bl (p x))) _ = _
  rw [bools_bl]
  simp only [R.o_some, List.all_map]
  rfl
theorem prim_lenT {bx : Bool} (xs : List D) : prim .len bx [.tup xs] S = .ok (.int xs.length) S := rfl
theorem prim_lenL {bx : Bool} (xs : List D) : prim .len bx [.lst xs] S = .ok (.int xs.length) S := rfl
theorem mkL_f {xs : List D} (h : xs.length ≤ sizeLine) : mkL false xs S = .ok (.lst xs) S := by
  unfold mkL
  rw [if_pos h]
  rfl
theorem cmp_int_eq (i j : Int) : cmpop .eq (.int i) (.int j) S = some (decide (i = j)) := by
  have e := deq_nb (S := S) (a := .int i) (b := .int j) rfl rfl (by simp [D.dep])
  simp only [cmpop, e]
  simp
theorem cmp_int_ne (i j : Int) : cmpop .ne (.int i) (.int j) S = some (!decide (i = j)) := by
  have e := deq_nb (S := S) (a := .int i) (b := .int j) rfl rfl (by simp [D.dep])
  simp only [cmpop, e]
  simp
theorem prim_sortedT (ns : List Int) (h : ns.length ≤ 1000) : prim .sorted false [.tup (ns.map .int)] S = .ok (.lst ((ns.mergeSort (fun a b => decide (a ≤ b))).map .int)) S := by
  show R.o ((some (ns.map .int)).bind sortD) (fun xs => mkL false xs S) = _
  show R.o (sortD (ns.map .int)) (fun xs => mkL false xs S) = _
  rw [sortD_ints ns (small h)]
  exact mkL_f (by rw [List.length_map, List.length_mergeSort]; exact small h)
theorem rangeOf_1 (j : Int) (h1 : -(2 ^ 62) ≤ j) (h2 : j < 2 ^ 62) : rangeOf 1 [.int j] = some (0, j.toNat) := by
  simp only [rangeOf, h1, h2, and_self, if_true]
theorem range_ints (m : Nat) : rangeD 0 m = ((List.range m).map fun (k : Nat) => (k : Int)).map .int := by
  unfold rangeD
  rw [List.map_map]
  apply List.map_congr_left
  intro k _
  simp
theorem prim_rangeL1 {bx : Bool} (m : Nat) (h : m ≤ 1000) : prim (.rangeL 1) false [.int m] S = .ok (.lst (((List.range m).map fun (k : Nat) => (k : Int)).map .int)) S := by
  rw [← range_ints]
  show R.o (rangeOf 1 [.int m]) (fun q => if q.2 ≤ sizeLine then mkL false (rangeD q.1 q.2) S else .bad) = _
  have e : rangeOf 1 [.int (m : Int)] = some (0, m) := by rw [rangeOf_1 _ (by omega) (by omega), Int.toNat_natCast]
  rw [e]
  simp only [R.o_some]
  rw [if_pos (small h)]
  exact mkL_f (by unfold rangeD; rw [List.length_map, List.length_range]; exact small h)
theorem ints_nb (ns : List Int) : D.nb (.lst (ns.map .int)) = true := nbs_map (fun _ => rfl) ns
theorem ints_dep (ns : List Int) : D.dep (.lst (ns.map .int)) ≤ 60 := by
  show D.deps (ns.map .int) + 1 ≤ 60
  have := deps_map (g := D.int) (k := 0) (fun _ => Nat.le_refl _) ns
  omega
theorem map_int_inj {a b : List Int} (h : a.map D.int = b.map D.int) : a = b := by
  have := congrArg (List.map intOf) h
  rw [List.map_map, List.map_map] at this
  have e : (intOf ∘ D.int) = id := rfl
  rw [e, List.map_id, List.map_id] at this
  exact this
open Classical in
theorem eq_ints (ns ms : List Int) : cmpop .eq (.lst (ns.map .int)) (.lst (ms.map .int)) S = some (decide (ns = ms)) := by
  have e := deq_nb (S := S) (ints_nb ns) (ints_nb ms) (ints_dep ns)
  simp only [cmpop, e]
  congr 1
  by_cases h : ns = ms
  · subst h; simp
  · rw [decide_eq_false h, decide_eq_false]
    intro z
    injection z with z
    exact h (map_int_inj z)
theorem s_order (xs : List D) (hv : ∀ x ∈ xs, D.val x = true) (hl : xs.length ≤ 1000) (m : Nat) (hm : m ≤ 1000) : cl (n + 3) 3 [.int m, .tup xs] S = .ok (.bl (ordB m xs)) S := by
  show callN Fs Gn (n + 3) 3 _ S = _
  rw [call_eq (F := f3) rfl rfl]
  have hc : compLoop (.n 2) [2] ⟨xs, []⟩ [some (.int m), some (.tup xs), none] (denT (callN Fs Gn (n + 2)) Gn none) (den (callN Fs Gn (n + 2)) Gn (.call 1 [(.k (.int 0)), (.v 2), (.bin .sub false (.v 0) (.k (.int 1)))])).v xs [] S = .ok (xs.map fun x => .bl (inR m x)) S := by
    have z := comp_map (tg := .n 2) (own := [2]) (src := ⟨xs, []⟩) (e0 := [some (.int m), some (.tup xs), none]) (t := denT (callN Fs Gn (n + 2)) Gn none) (elt := (den (callN Fs Gn (n + 2)) Gn (.call 1 [(.k (.int 0)), (.v 2), (.bin .sub false (.v 0) (.k (.int 1)))])).v) (enc := id) (g := fun x => .bl (inR m x)) (stays_nil xs (S := S)) xs [] (by simpa using small hl) (fun y hy => ⟨[some (.int m), some (.tup xs), some y], by simp [Tg.put, wipeE], rfl, by
      have e := s_btw (n := n) (S := S) 0 ((m : Int) - 1) y (hv y hy)
      simp only [cl] at e
      simp [dVar, binop, bInt, e]
      cases y <;> rfl⟩)
    simpa using z
  have ha : prim .all false [.lst (xs.map fun x => .bl (inR m x))] S = .ok (.bl (xs.all (inR m))) S := prim_all _ _
  simp [f3, dVar, tyIs, truth, src1, guardOf, hc, mkL_f (small (show (xs.map fun x => D.bl (inR m x)).length ≤ 1000 by simpa using hl)), ha, prim_lenT, cmp_int_ne]
  by_cases h1 : (xs.length : Int) = (m : Int)
  · have h1' : xs.length = m := by omega
    rw [if_pos h1]
    cases h2 : xs.all (inR m) with
    | false => simp [ordB, h2]
    | true =>
      have hx := inR_int h2
      have hs : prim .sorted false [.tup xs] S = .ok (.lst (((xs.map intOf).mergeSort (fun a b => decide (a ≤ b))).map .int)) S := by
        have := prim_sortedT (S := S) (xs.map intOf) (by rw [List.length_map]; exact hl)
        rw [← hx] at this
        exact this
      have hr := prim_rangeL1 (S := S) (bx := false) m hm
      have he := eq_ints (S := S) ((xs.map intOf).mergeSort (fun a b => decide (a ≤ b))) ((List.range m).map fun (k : Nat) => (k : Int))
      have ho : ordB m xs = decide ((xs.map intOf).mergeSort (fun a b => decide (a ≤ b)) = (List.range m).map fun (k : Nat) => (k : Int)) := by
        unfold ordB
        rw [h1', h2]
        simp
      rw [ho]
      generalize (xs.map intOf).mergeSort (fun a b => decide (a ≤ b)) = ss at *
      generalize ((List.range m).map fun (k : Nat) => (k : Int)) = rr at *
      simp [-List.map_map, hs, hr, he]
  · have h1' : ¬ xs.length = m := by omega
    rw [if_neg h1]
    simp [ordB, h1']
abbrev nD (k : Nat) : D := .int (k : Int)
theorem atI_of {xs : List D} {k : Nat} (h : k < xs.length) : atI xs (k : Int) = some (xs.getD k .non) := by
  unfold atI
  rw [show ixN xs.length (k : Int) = some k from by unfold ixN; rw [if_pos (by omega), if_pos (by omega), Int.toNat_natCast]]
  show xs[k]? = _
  rw [List.getD_eq_getElem?_getD, List.getElem?_eq_getElem h]
  rfl
theorem idx_t {xs : List D} {k : Nat} (h : k < xs.length) : Pw.index S (.tup xs) (nD k) = some (xs.getD k .non) := atI_of h
theorem s_led (xs : List D) (row : List Nat) (hk : ∀ k ∈ row, k < xs.length) (hl : row.length ≤ 1000) : cl (n + 1) 4 [.tup xs, .tup (row.map nD)] S = .ok (.tup (row.map fun k => xs.getD k .non)) S := by
  show callN Fs Gn (n + 1) 4 _ S = _
  rw [call_eq (F := f4) rfl rfl]
  have hc : compLoop (.n 2) [2] ⟨row.map nD, []⟩ [some (.tup xs), some (.tup (row.map nD)), none] (denT (callN Fs Gn n) Gn none) (den (callN Fs Gn n) Gn (.ix (.v 0) (.v 2))).v (row.map nD) [] S = .ok (row.map fun k => xs.getD k .non) S := by
    have z := comp_map (tg := .n 2) (own := [2]) (src := ⟨row.map nD, []⟩) (e0 := [some (.tup xs), some (.tup (row.map nD)), none]) (t := denT (callN Fs Gn n) Gn none) (elt := (den (callN Fs Gn n) Gn (.ix (.v 0) (.v 2))).v) (enc := nD) (g := fun k => xs.getD k .non) (stays_nil _ (S := S)) row [] (by simpa using small hl) (fun k hk2 => ⟨[some (.tup xs), some (.tup (row.map nD)), some (nD k)], by simp [Tg.put, wipeE], rfl, by
      simp [dVar, -List.getD_eq_getElem?_getD, idx_t (S := S) (hk k hk2)]⟩)
    simpa using z
  have hp : prim .tuple false [.lst (row.map fun k => xs.getD k .non)] S = .ok (.tup (row.map fun k => xs.getD k .non)) S := (rfl)
  simp [f4, dVar, src1, guardOf, -List.map_map, -List.getD_eq_getElem?_getD, hc, hp, mkL_f (small (show (row.map fun k => xs.getD k .non).length ≤ 1000 by simpa using hl))]
/-! ## draws -/
theorem closeR_len {fz : Bool} {d : D} {S' : Sto} (h : S'.length ≤ S.length) : closeR fz S (.ret d S') = .ok d S' := by
  cases fz
  · rfl
  · show R.ok (close S S' d).1 (close S S' d).2 = _
    unfold close
    rw [if_pos h]
theorem at0 (x y : D) : atI [x, y] 0 = some x := (rfl)
theorem at1 (x y : D) : atI [x, y] 1 = some y := (rfl)
theorem set0 (x y v : D) (j : Nat) (h : S[j]? = some (.lst [x, y])) : setItemD (.ref j) (.int 0) v S = some (S.set j (.lst [v, y])) := by
  unfold setItemD
  simp only [h]
  rfl
theorem set1 (x y v : D) (j : Nat) (h : S[j]? = some (.lst [x, y])) : setItemD (.ref j) (.int 1) v S = some (S.set j (.lst [x, v])) := by
  unfold setItemD
  simp only [h]
  rfl
theorem small_i {i : Int} (h1 : -(2 ^ 64) < i) (h2 : i < 2 ^ 64) : small64 i = true := by
  unfold small64
  rw [Bool.and_eq_true]
  exact ⟨decide_eq_true h1, decide_eq_true h2⟩
theorem mulOk_l {i j : Int} (h1 : -(2 ^ 64) < i) (h2 : i < 2 ^ 64) : mulOk i j = true := by
  unfold mulOk
  rw [small_i h1 h2]; rfl
theorem mulOk_r {i j : Int} (h1 : -(2 ^ 64) < j) (h2 : j < 2 ^ 64) : mulOk i j = true := by
  unfold mulOk
  rw [small_i h1 h2, Bool.or_true]; rfl
theorem ix_ref {j : Nat} {x y : D} {i : D} (h : S[j]? = some (.lst [x, y])) : Pw.index S (.ref j) i = Pw.index S (.lst [x, y]) i := by
  unfold Pw.index
  rw [rd_ref, h]
  rfl
theorem ix_l0 {x y : D} : Pw.index S (.lst [x, y]) (.int 0) = some x := (rfl)
theorem ix_l1 {x y : D} : Pw.index S (.lst [x, y]) (.int 1) = some y := (rfl)
theorem b_mul (i j : Int) (h : mulOk i j = true) : binop .mul false (.int i) (.int j) S = .ok (.int (i * j)) S := by
  show (if mulOk i j then R.ok (D.int (i * j)) S else .bad) = _
  rw [if_pos h]
theorem b_add (i j : Int) : binop .add false (.int i) (.int j) S = .ok (.int (i + j)) S := (rfl)
theorem b_sub (i j : Int) : binop .sub false (.int i) (.int j) S = .ok (.int (i - j)) S := (rfl)
theorem b_mod (i j : Int) (h : 0 < j) : binop .mod false (.int i) (.int j) S = .ok (.int (i % j)) S := by
  show R.opt S (((if 0 < j then some (i % j) else none) : Option Int).map D.int) = _
  rw [if_pos h]
  rfl
theorem b_fdiv (i j : Int) (h : 0 < j) (h2 : j < 1073741824) : binop .fdiv false (.int i) (.int j) S = .ok (.int (i / j)) S := by
  show R.opt S (((if 0 < j ∧ j < 1073741824 then some (i / j) else none) : Option Int).map D.int) = _
  rw [if_pos ⟨h, h2⟩]
  rfl
theorem p_int {bx : Bool} (i : Int) : prim .int bx [.int i] S = .ok (.int i) S := (rfl)
theorem cmp_gt (i j : Int) : cmpop .gt (.int i) (.int j) S = some (decide (j < i)) := (rfl)
theorem s_drawn {j : Nat} {a b many : Int} (h : S[j]? = some (.lst [.int a, .int b])) (hm : 0 < many) (hm2 : many < 1073741824) :
    ∃ d a' b', cl (n + 1) 7 [.ref j, .int many] S = .ok (.int d) (S.set j (.lst [.int a', .int b'])) ∧ 0 ≤ d ∧ d < many := by
  have hj : j < S.length := (List.getElem?_eq_some_iff.mp h).1
  have i0 : Pw.index S (.ref j) (.int 0) = some (.int a) := by rw [ix_ref h]; exact ix_l0
  have i1 : Pw.index S (.ref j) (.int 1) = some (.int b) := by rw [ix_ref h]; exact ix_l1
  by_cases ha : 0 < a
  · refine ⟨a % many, a / many, b, ?_, Int.emod_nonneg _ (by omega), Int.emod_lt_of_pos _ hm⟩
    show callN Fs Gn (n + 1) 7 _ S = _
    rw [call_eq (F := f7) rfl rfl]
    have e2 := set0 (S := S) (.int a) (.int b) (.int (a / many)) j h
    have e3 := closeR_len (S := S) (fz := true) (d := .int (a % many)) (S' := S.set j (.lst [.int (a / many), .int b])) (by simp)
    simp [f7, dVar, i0, cmp_gt, ha, p_int, b_mod _ _ hm, b_fdiv _ _ hm hm2, Tg.put, e2, e3]
  · have hb0 : 0 ≤ (b * 48271 + 12820163) % 2147483647 := Int.emod_nonneg _ (by omega)
    have hb1 : (b * 48271 + 12820163) % 2147483647 < 2147483647 := Int.emod_lt_of_pos _ (by omega)
    refine ⟨((b * 48271 + 12820163) % 2147483647 * ((b * 48271 + 12820163) % 2147483647)) % 2147483629 / 64 % many, a, (b * 48271 + 12820163) % 2147483647, ?_, Int.emod_nonneg _ (by omega), Int.emod_lt_of_pos _ hm⟩
    show callN Fs Gn (n + 1) 7 _ S = _
    rw [call_eq (F := f7) rfl rfl]
    have e1 : binop .mul false (.int b) (.int 48271) S = .ok (.int (b * 48271)) S := b_mul _ _ (mulOk_r (by omega) (by omega))
    have e2 := set1 (S := S) (.int a) (.int b) (.int ((b * 48271 + 12820163) % 2147483647)) j h
    generalize hB : (b * 48271 + 12820163) % 2147483647 = B at *
    have e4 : (S.set j (.lst [.int a, .int B]))[j]? = some (.lst [.int a, .int B]) := List.getElem?_set_self hj
    have i2 : Pw.index (S.set j (.lst [.int a, .int B])) (.ref j) (.int 1) = some (.int B) := by rw [ix_ref e4]; exact ix_l1
    have e5 : binop .mul false (.int B) (.int B) (S.set j (.lst [.int a, .int B])) = .ok (.int (B * B)) (S.set j (.lst [.int a, .int B])) := b_mul _ _ (mulOk_r (by omega) (by omega))
    have e3 := closeR_len (S := S) (fz := true) (d := .int (B * B % 2147483629 / 64 % many)) (S' := S.set j (.lst [.int a, .int B])) (by simp)
    simp [f7, dVar, i0, i1, i2, cmp_gt, ha, p_int, e1, e5, b_add, b_mod _ _ hm, b_mod _ 2147483647 (by omega), b_mod _ 2147483629 (by omega), b_fdiv _ 64 (by omega) (by omega), hB, e2, e3]
theorem b_pow (i j : Int) (h : 0 ≤ j ∧ j ≤ 1000000 ∧ i.natAbs < 2 ^ 64) : binop .pow false (.int i) (.int j) S = .ok (.int (i ^ j.toNat)) S := by
  show R.opt S (((if 0 ≤ j ∧ j ≤ 1000000 ∧ i.natAbs < 2 ^ 64 then some (i ^ j.toNat) else none) : Option Int).map D.int) = _
  rw [if_pos h]
  rfl
theorem p_max {bx : Bool} (i j : Int) : prim .max2 bx [.int i, .int j] S = .ok (.int (if j > i then j else i)) S := (rfl)
theorem mkL_t {xs : List D} (h : xs.length ≤ sizeLine) : mkL true xs S = .ok (.ref S.length) (S ++ [.lst xs]) := by
  unfold mkL
  rw [if_pos h]
  rfl
theorem s_jar (c : Int) : ∃ a b, cl (n + 1) 6 [.int c] S = .ok (.ref S.length) (S ++ [.lst [.int a, .int b]]) := by
  have p1 : binop .pow false (.int 10) (.int 64) S = .ok (.int ((10 : Int) ^ 64)) S := b_pow 10 64 ⟨by decide, by decide, by decide⟩
  have p2 : binop .pow false (.int 10) (.int 18) S = .ok (.int ((10 : Int) ^ 18)) S := b_pow 10 18 ⟨by decide, by decide, by decide⟩
  have m1 : binop .mul false (.int ((10 : Int) ^ 64)) (.int ((10 : Int) ^ 64)) S = .ok (.int ((10 : Int) ^ 64 * (10 : Int) ^ 64)) S := b_mul _ _ (by decide +kernel)
  have m2 : binop .mul false (.int ((10 : Int) ^ 64 * (10 : Int) ^ 64)) (.int ((10 : Int) ^ 64)) S = .ok (.int ((10 : Int) ^ 64 * (10 : Int) ^ 64 * (10 : Int) ^ 64)) S := b_mul _ _ (by decide +kernel)
  have hp : 0 < (10 : Int) ^ 64 * (10 : Int) ^ 64 * (10 : Int) ^ 64 := by decide +kernel
  generalize (10 : Int) ^ 64 * (10 : Int) ^ 64 * (10 : Int) ^ 64 = P3 at *
  generalize (10 : Int) ^ 64 * (10 : Int) ^ 64 = P2 at *
  generalize (10 : Int) ^ 64 = P1 at *
  generalize (10 : Int) ^ 18 = P0 at *
  refine ⟨if c % P3 - P0 > 0 then c % P3 - P0 else 0, c % P3 % 2147483629 + 3, ?_⟩
  show callN Fs Gn (n + 1) 6 _ S = _
  rw [call_eq (F := f6) rfl rfl]
  have hk := mkL_t (S := S) (xs := [.int (if c % P3 - P0 > 0 then c % P3 - P0 else 0), .int (c % P3 % 2147483629 + 3)]) (small (by simp))
  simp [f6, dVar, p_int, p1, p2, m1, m2, b_mod _ _ hp, b_mod _ 2147483629 (by omega), b_add, b_sub, p_max, Tg.put] at hk ⊢
  simp [hk]
/-! ## the same, part by part -/
mutual
/-- no long rows -/
def wd : D → Bool
  | .tup xs => decide (xs.length ≤ 1000) && wds xs
  | .lst xs => decide (xs.length ≤ 1000) && wds xs
  | _ => true
def wds : List D → Bool
  | [] => true
  | x :: xs => wd x && wds xs
end
theorem wds_get {xs : List D} (h : wds xs = true) : ∀ x ∈ xs, wd x = true := by
  induction xs with
  | nil => intro x hx; cases hx
  | cons y ys ih =>
    unfold wds at h
    rw [Bool.and_eq_true] at h
    intro x hx
    rcases List.mem_cons.mp hx with rfl | hx
    · exact h.1
    · exact ih h.2 x hx
theorem nbs_get {xs : List D} (h : D.nbs xs = true) : ∀ x ∈ xs, D.nb x = true := by
  induction xs with
  | nil => intro x hx; cases hx
  | cons y ys ih =>
    unfold D.nbs at h
    rw [Bool.and_eq_true] at h
    intro x hx
    rcases List.mem_cons.mp hx with rfl | hx
    · exact h.1
    · exact ih h.2 x hx
theorem deps_get {xs : List D} : ∀ x ∈ xs, D.dep x ≤ D.deps xs := by
  induction xs with
  | nil => intro x hx; cases hx
  | cons y ys ih =>
    intro x hx
    unfold D.deps
    rcases List.mem_cons.mp hx with rfl | hx
    · omega
    · have := ih x hx; omega
theorem getD_mem {xs : List D} {k : Nat} (h : k < xs.length) : xs.getD k .non ∈ xs := by
  rw [List.getD_eq_getElem?_getD, List.getElem?_eq_getElem h]
  exact List.getElem_mem h
open Classical in
theorem all_get {xs ys : List D} (h : xs.length = ys.length) : ((List.range ys.length).all fun k => decide (xs.getD k .non = ys.getD k .non)) = decide (xs = ys) := by
  by_cases e : xs = ys
  · subst e; simp
  · rw [decide_eq_false e]
    cases z : (List.range ys.length).all fun k => decide (xs.getD k .non = ys.getD k .non) with
    | false => rfl
    | true =>
      refine absurd (List.ext_getElem h fun k h1 h2 => ?_) e
      have := of_decide_eq_true (List.all_eq_true.mp z k (List.mem_range.mpr h2))
      rw [List.getD_eq_getElem?_getD, List.getD_eq_getElem?_getD, List.getElem?_eq_getElem h1, List.getElem?_eq_getElem h2] at this
      exact this
theorem same_bl (a b : Bool) : cl (n + 1) 8 [.bl a, .bl b] S = .ok (.bl (a == b)) S := by
  show callN Fs Gn (n + 1) 8 _ S = _
  rw [call_eq (F := f8) rfl rfl]
  cases a <;> cases b <;> simp [f8, dVar, isop]
theorem cmp_bl_ne (a b : Bool) : cmpop .ne (.bl a) (.bl b) S = some (!(a == b)) := by
  simp [cmpop, deq, pyd, D.toPy, PyData.depth, PyData.eqv]
open Classical in
theorem cmp_nb_eq {a b : D} (h1 : D.nb a = true) (h2 : D.nb b = true) (hd : D.dep a ≤ 60) : cmpop .eq a b S = some (decide (a = b)) := by
  have e := deq_nb (S := S) h1 h2 hd
  simp only [cmpop, e]
theorem prim_range_i (m : Nat) (h : m ≤ 1000) : (rangeOf 1 [D.int m]).map (fun q => (⟨rangeD q.1 q.2, []⟩ : Src)) = some ⟨rangeD 0 m, []⟩ := by
  rw [rangeOf_1 _ (by omega) (by omega), Int.toNat_natCast]
  rfl
open Classical in
theorem same_seq {q : Nat} {X Y : D} {xs ys : List D} (hX : rd S X = .tup xs ∨ rd S X = .lst xs) (hY : rd S Y = .tup ys ∨ rd S Y = .lst ys) (hl : xs.length = ys.length) (hw : ys.length ≤ 1000)
    (ih : ∀ k, k < ys.length → callN Fs Gn q 8 [xs.getD k .non, ys.getD k .non] S = .ok (.bl (decide (xs.getD k .non = ys.getD k .non))) S) :
    compLoop (.n 2) [2] ⟨rangeD 0 ys.length, []⟩ [some X, some Y, none] (denT (callN Fs Gn q) Gn none) (den (callN Fs Gn q) Gn (.call 8 [(.ix (.v 0) (.v 2)), (.ix (.v 1) (.v 2))])).v (rangeD 0 ys.length) [] S = .ok ((List.range ys.length).map fun k => .bl (decide (xs.getD k .non = ys.getD k .non))) S := by
  have ix : ∀ {Z : D} {zs : List D} {k : Nat}, (rd S Z = .tup zs ∨ rd S Z = .lst zs) → k < zs.length → Pw.index S Z (.int (0 + (k : Int))) = some (zs.getD k .non) := by
    intro Z zs k h hk
    unfold Pw.index
    rw [Int.zero_add]
    rcases h with h | h <;> rw [h] <;> exact atI_of hk
  have z := comp_map (tg := .n 2) (own := [2]) (src := ⟨rangeD 0 ys.length, []⟩) (e0 := [some X, some Y, none]) (t := denT (callN Fs Gn q) Gn none) (elt := (den (callN Fs Gn q) Gn (.call 8 [(.ix (.v 0) (.v 2)), (.ix (.v 1) (.v 2))])).v)
    (enc := fun (k : Nat) => D.int (0 + (k : Int))) (g := fun k => .bl (decide (xs.getD k .non = ys.getD k .non))) (stays_nil _ (S := S)) (List.range ys.length) [] (by simpa using small hw) (fun k hk => ⟨[some X, some Y, some (.int (0 + (k : Int)))], by simp [Tg.put, wipeE], rfl, by
      have hk := List.mem_range.mp hk
      have e1 := ix hX (show k < xs.length by omega)
      have e2 := ix hY hk
      have e3 := ih k hk
      simp only [v_call, ds_cons, ds_nil, v_ix, v_v, dVar, List.getElem?_cons_zero, List.getElem?_cons_succ, R.bind_ok, e1, e2, R.opt_some, e3]⟩)
  simpa [rangeD] using z
open Classical in
theorem s_same : ∀ (m : Nat) (n : Nat) (S : Sto) (y x : D), D.dep y ≤ m → m ≤ 60 → D.nb y = true → D.nb x = true → wd y = true → wd x = true → cl (n + m + 1) 8 [x, y] S = .ok (.bl (decide (x = y))) S := by
  intro m
  induction m with
  | zero =>
    intro n S y x hd hm hy hx wy wx
    show callN Fs Gn (n + 0 + 1) 8 _ S = _
    rw [call_eq (F := f8) rfl rfl]
    cases y with
    | non => cases x <;> simp [D.nb] at hx <;> simp [f8, dVar, isop]
    | int i =>
      cases x with
      | int k =>
        have e := cmp_int_eq (S := S) k i
        simp [f8, dVar, isop, tyIs, dAnd, truth, e]
      | _ => simp [D.nb] at hx <;> simp [f8, dVar, isop, tyIs, dAnd, truth]
    | str i =>
      cases x with
      | str k =>
        have e := cmp_nb_eq (S := S) (a := .str k) (b := .str i) rfl rfl (by simp [D.dep])
        simp [f8, dVar, isop, tyIs, dAnd, truth, e]
      | _ => simp [D.nb] at hx <;> simp [f8, dVar, isop, tyIs, dAnd, truth]
    | tup ys => exact absurd hd (by simp [D.dep])
    | lst ys => exact absurd hd (by simp [D.dep])
    | _ => simp [D.nb] at hy
  | succ m ih =>
    intro n S y x hd hm hy hx wy wx
    show callN Fs Gn (n + (m + 1) + 1) 8 _ S = _
    rw [call_eq (F := f8) rfl rfl]
    cases y with
    | non => cases x <;> simp [D.nb] at hx <;> simp [f8, dVar, isop]
    | int i =>
      cases x with
      | int k =>
        have e := cmp_int_eq (S := S) k i
        simp [f8, dVar, isop, tyIs, dAnd, truth, e]
      | _ => simp [D.nb] at hx <;> simp [f8, dVar, isop, tyIs, dAnd, truth]
    | str i =>
      cases x with
      | str k =>
        have e := cmp_nb_eq (S := S) (a := .str k) (b := .str i) rfl rfl (by simp [D.dep])
        simp [f8, dVar, isop, tyIs, dAnd, truth, e]
      | _ => simp [D.nb] at hx <;> simp [f8, dVar, isop, tyIs, dAnd, truth]
    | tup ys =>
      have hyl : ys.length ≤ 1000 ∧ wds ys = true := by
        have : (decide (ys.length ≤ 1000) && wds ys) = true := wy
        rw [Bool.and_eq_true] at this
        exact ⟨of_decide_eq_true this.1, this.2⟩
      have hyn : D.nbs ys = true := hy
      have hyd : D.deps ys ≤ m := by
        have : D.deps ys + 1 ≤ m + 1 := hd
        omega
      cases x with
      | tup xs =>
        have hxl : xs.length ≤ 1000 ∧ wds xs = true := by
          have : (decide (xs.length ≤ 1000) && wds xs) = true := wx
          rw [Bool.and_eq_true] at this
          exact ⟨of_decide_eq_true this.1, this.2⟩
        have hxn : D.nbs xs = true := hx
        have el := cmp_int_eq (S := S) (xs.length : Int) (ys.length : Int)
        have pl : ∀ zs : List D, prim .len false [.tup zs] S = .ok (.int zs.length) S := fun _ => (rfl)
        by_cases hl : xs.length = ys.length
        · have hc := same_seq (S := S) (q := n + (m + 1)) (X := .tup xs) (Y := .tup ys) (xs := xs) (ys := ys) (.inl rfl) (.inl rfl) hl hyl.1 (fun k hk => by
            have h1 := getD_mem (xs := ys) hk
            have h2 := getD_mem (xs := xs) (k := k) (by omega)
            have := ih n S (ys.getD k .non) (xs.getD k .non) (Nat.le_trans (deps_get _ h1) hyd) (by omega) (nbs_get hyn _ h1) (nbs_get hxn _ h2) (wds_get hyl.2 _ h1) (wds_get hxl.2 _ h2)
            rw [show n + (m + 1) = n + m + 1 by omega]
            exact this)
          have ha := prim_all (S := S) (bx := false) (fun k => decide (xs.getD k .non = ys.getD k .non)) (List.range ys.length)
          have hg := all_get hl
          have hr := prim_range_i ys.length hyl.1
          have hm := mkL_f (S := S) (xs := (List.range ys.length).map fun k => D.bl (decide (xs.getD k .non = ys.getD k .non))) (small (by simpa using hyl.1))
          rw [hg] at ha
          have el2 := cmp_int_eq (S := S) (ys.length : Int) (ys.length : Int)
          simp only [f8, dVar, isop, tyIs, dAnd, truth, cmp_bl_ne, pl, el2, hl, hc, rd_bl, ha, hr, hm, rd_tup, rd_lst, List.map_cons, List.map_nil, List.replicate, List.cons_append, List.nil_append, List.getElem?_cons_zero, List.getElem?_cons_succ, v_v, v_k, v_isk, v_isi, v_and, v_or, v_not, v_cmp, v_pr, v_comp, t_and, t_or, t_not, t_isk, t_isi, t_cmp, tOf_bl, ss_cons, ss_nil, s_ite, s_ret, ds_cons, ds_nil, i_rng, R.bind_ok, R.opt_some, R.st_ok, R.o_some, SR.then_nx, SR.then_ret, Option.map_some, List.length_cons, List.length_nil, Nat.zero_add, decide_true, decide_false, Bool.not_true, Bool.not_false, beq_self_eq_true, if_true, if_false, Bool.false_eq_true, Bool.or_false, reduceCtorEq, Bool.or_self]
          first | done | simp [closeR_ret]
        · have hl' : ¬ (xs.length : Int) = (ys.length : Int) := by omega
          have hne : ¬ xs = ys := fun z => hl (by rw [z])
          simp [f8, dVar, isop, tyIs, dAnd, truth, cmp_bl_ne, pl, el, hl', hne]
      | _ => simp [D.nb] at hx <;> simp [f8, dVar, isop, tyIs, dAnd, truth, cmp_bl_ne]
    | lst ys =>
      have hyl : ys.length ≤ 1000 ∧ wds ys = true := by
        have : (decide (ys.length ≤ 1000) && wds ys) = true := wy
        rw [Bool.and_eq_true] at this
        exact ⟨of_decide_eq_true this.1, this.2⟩
      have hyn : D.nbs ys = true := hy
      have hyd : D.deps ys ≤ m := by
        have : D.deps ys + 1 ≤ m + 1 := hd
        omega
      cases x with
      | lst xs =>
        have hxl : xs.length ≤ 1000 ∧ wds xs = true := by
          have : (decide (xs.length ≤ 1000) && wds xs) = true := wx
          rw [Bool.and_eq_true] at this
          exact ⟨of_decide_eq_true this.1, this.2⟩
        have hxn : D.nbs xs = true := hx
        have el := cmp_int_eq (S := S) (xs.length : Int) (ys.length : Int)
        have pl : ∀ zs : List D, prim .len false [.lst zs] S = .ok (.int zs.length) S := fun _ => (rfl)
        by_cases hl : xs.length = ys.length
        · have hc := same_seq (S := S) (q := n + (m + 1)) (X := .lst xs) (Y := .lst ys) (xs := xs) (ys := ys) (.inr rfl) (.inr rfl) hl hyl.1 (fun k hk => by
            have h1 := getD_mem (xs := ys) hk
            have h2 := getD_mem (xs := xs) (k := k) (by omega)
            have := ih n S (ys.getD k .non) (xs.getD k .non) (Nat.le_trans (deps_get _ h1) hyd) (by omega) (nbs_get hyn _ h1) (nbs_get hxn _ h2) (wds_get hyl.2 _ h1) (wds_get hxl.2 _ h2)
            rw [show n + (m + 1) = n + m + 1 by omega]
            exact this)
          have ha := prim_all (S := S) (bx := false) (fun k => decide (xs.getD k .non = ys.getD k .non)) (List.range ys.length)
          have hg := all_get hl
          have hr := prim_range_i ys.length hyl.1
          have hm := mkL_f (S := S) (xs := (List.range ys.length).map fun k => D.bl (decide (xs.getD k .non = ys.getD k .non))) (small (by simpa using hyl.1))
          rw [hg] at ha
          have el2 := cmp_int_eq (S := S) (ys.length : Int) (ys.length : Int)
          simp only [f8, dVar, isop, tyIs, dAnd, truth, cmp_bl_ne, pl, el2, hl, hc, rd_bl, ha, hr, hm, rd_tup, rd_lst, List.map_cons, List.map_nil, List.replicate, List.cons_append, List.nil_append, List.getElem?_cons_zero, List.getElem?_cons_succ, v_v, v_k, v_isk, v_isi, v_and, v_or, v_not, v_cmp, v_pr, v_comp, t_and, t_or, t_not, t_isk, t_isi, t_cmp, tOf_bl, ss_cons, ss_nil, s_ite, s_ret, ds_cons, ds_nil, i_rng, R.bind_ok, R.opt_some, R.st_ok, R.o_some, SR.then_nx, SR.then_ret, Option.map_some, List.length_cons, List.length_nil, Nat.zero_add, decide_true, decide_false, Bool.not_true, Bool.not_false, beq_self_eq_true, if_true, if_false, Bool.false_eq_true, Bool.or_false, reduceCtorEq, Bool.or_self]
          first | done | simp [closeR_ret]
        · have hl' : ¬ (xs.length : Int) = (ys.length : Int) := by omega
          have hne : ¬ xs = ys := fun z => hl (by rw [z])
          simp [f8, dVar, isop, tyIs, dAnd, truth, cmp_bl_ne, pl, el, hl', hne]
      | _ => simp [D.nb] at hx <;> simp [f8, dVar, isop, tyIs, dAnd, truth, cmp_bl_ne]
    | _ => simp [D.nb] at hy
end
end Pw.Lw

set_option Elab.async false
set_option linter.all false
set_option maxRecDepth 100000
set_option maxHeartbeats 1000000
namespace Pw.Lw
open PySem PySem.Spec PyProof.Rows L2 Pw
section
variable {n : Nat} {S : Sto}
/-- a loop that only looks -/
theorem for_test {i : Nat} {src : Src} {body : Ev → Sto → SR} {p : D → Bool} {d : D} (hs : src.stays S) : ∀ (xs : List D) (e : Ev), i < e.length → (∀ (e' : Ev) (x : D), e'.length = e.length → (∀ k, k ≠ i → e'[k]? = e[k]?) → x ∈ xs → body (e'.set i (some x)) S = if p x then .nx (e'.set i (some x)) S else .ret d S) →
    ∃ e2, forLoop (.n i) src body xs e S = if xs.all p then .nx e2 S else .ret d S
  | [], e, hi, _ => ⟨e, by unfold forLoop; rw [if_pos hs]; rfl⟩
  | x :: xs, e, hi, h => by
    have h1 := h e x rfl (fun _ _ => rfl) (List.mem_cons_self ..)
    unfold forLoop
    rw [if_pos hs]
    have hp : Tg.put (.n i) x S e = some (e.set i (some x)) := by simp [Tg.put, hi]
    rw [hp]
    simp only [optS_some]
    rw [h1]
    cases hx : p x with
    | false => exact ⟨e, by simp [hx]⟩
    | true =>
      simp only [if_true, SR.then_nx, List.all_cons, hx, Bool.true_and]
      exact for_test hs xs (e.set i (some x)) (by simpa using hi) fun e' y hl hk hy => h e' y (by simpa using hl) (fun k hk2 => by rw [hk k hk2, List.getElem?_set_ne (Ne.symm hk2)]) (List.mem_cons_of_mem _ hy)
theorem len4 {α : Type} {l : List α} (h : l.length = 4) : ∃ a b c d, l = [a, b, c, d] := by
  match l, h with
  | [a, b, c, d], _ => exact ⟨a, b, c, d, rfl⟩
theorem cmp_le (i j : Int) : cmpop .le (.int i) (.int j) S = some (decide (i ≤ j)) := (rfl)
theorem cmp_lt (i j : Int) : cmpop .lt (.int i) (.int j) S = some (decide (i < j)) := (rfl)
theorem s_numbers (xs : List D) (hv : ∀ x ∈ xs, D.val x = true) (m k : Nat) : cl (n + 1) 18 [.tup xs, .int m, .int k] S = .ok (.bl (decide (xs.length = m) && xs.all (inR k))) S := by
  show callN Fs Gn (n + 1) 18 _ S = _
  rw [call_eq (F := f18) rfl rfl]
  obtain ⟨e2, h2⟩ := for_test (S := S) (i := 3) (src := ⟨xs, []⟩) (p := inR k) (d := .bl false) (body := denSs (callN Fs Gn n) Gn [.ite (.or (.not (.isi (.v 3) .int)) (.or (.isk false (.v 3) (.bl true)) (.or (.isk false (.v 3) (.bl false)) (.not (.cmp2 .le .lt (.k (.int 0)) (.v 3) (.v 2)))))) [.ret (.k (.bl false))] []]) (stays_nil xs) xs [some (.tup xs), some (.int m), some (.int k), none] (by simp) (fun e' x hl hk hx => by
    obtain ⟨a, b, c, d, rfl⟩ := len4 hl
    have g2 := hk 2 (by decide)
    simp at g2
    subst g2
    have hx := hv x hx
    cases x with
    | int i =>
      have e3 : inR k (.int i) = (decide (0 ≤ i) && decide (i < (k : Int))) := by
        show (decide (0 ≤ i) && decide (i ≤ (k : Int) - 1)) = _
        congr 1
        simp
        omega
      rw [e3]
      by_cases z1 : 0 ≤ i
      · by_cases z2 : i < (k : Int) <;> simp [dVar, tyIs, isop, dCmp2, cmp_le, cmp_lt, z1, z2]
      · simp [dVar, tyIs, isop, dCmp2, cmp_le, cmp_lt, z1]
    | bl b => cases b <;> simp [dVar, tyIs, isop, inR]
    | _ => simp [D.val] at hx <;> simp [dVar, tyIs, inR])
  by_cases h1 : (xs.length : Int) = (m : Int)
  · have h1' : xs.length = m := by omega
    cases hp : xs.all (inR k) with
    | true => rw [hp] at h2; simp [f18, dVar, tyIs, prim_lenT, cmp_int_ne, h1, h1', src1, guardOf, h2, hp] at h2 ⊢ <;> simp [h2]
    | false => rw [hp] at h2; simp [f18, dVar, tyIs, prim_lenT, cmp_int_ne, h1, h1', src1, guardOf, h2, hp] at h2 ⊢ <;> simp [h2]
  · have h1' : ¬ xs.length = m := by omega
    simp [f18, dVar, tyIs, prim_lenT, cmp_int_ne, h1, h1']
end
end Pw.Lw

set_option Elab.async false
set_option linter.all false
set_option maxRecDepth 100000
set_option maxHeartbeats 1000000
namespace Pw.Lw
open PySem PySem.Spec PyProof.Rows L2 Pw
section
variable {n : Nat} {S : Sto}
/-! ## webs -/
structure Bx where
  w : Str
  i : List Nat
  o : List Nat
structure Wb where
  ws : List Str
  bs : List Bx
  l : List Nat
  r : List Nat
def nT (l : List Nat) : D := .tup (l.map nD)
def encB (b : Bx) : D := .tup [.str b.w, nT b.i, nT b.o]
def encW (w : Wb) : D := .tup [.tup (w.ws.map .str), .tup (w.bs.map encB), nT w.l, nT w.r]
structure Wb.Ok (w : Wb) : Prop where
  ws : w.ws.length ≤ 900
  bs : w.bs.length ≤ 900
  l : w.l.length ≤ 900 ∧ ∀ k ∈ w.l, k < w.ws.length
  r : w.r.length ≤ 900 ∧ ∀ k ∈ w.r, k < w.ws.length
  b : ∀ b ∈ w.bs, (b.i.length ≤ 900 ∧ ∀ k ∈ b.i, k < w.ws.length) ∧ (b.o.length ≤ 900 ∧ ∀ k ∈ b.o, k < w.ws.length)
theorem nb_nT (l : List Nat) : D.nb (nT l) = true := nbs_map (fun _ => rfl) l
theorem nb_encB (b : Bx) : D.nb (encB b) = true := by
  show D.nbs [.str b.w, nT b.i, nT b.o] = true
  simp [D.nbs, nb_nT, D.nb]
theorem nb_encW (w : Wb) : D.nb (encW w) = true := by
  have h1 : D.nb (.tup (w.ws.map .str)) = true := nbs_map (fun _ => rfl) _
  have h2 : D.nb (.tup (w.bs.map encB)) = true := nbs_map nb_encB _
  show D.nbs [.tup (w.ws.map .str), .tup (w.bs.map encB), nT w.l, nT w.r] = true
  simp [D.nbs, nb_nT, h1, h2]
theorem dep_nT (l : List Nat) : D.dep (nT l) ≤ 1 := by
  show D.deps (l.map nD) + 1 ≤ 1
  have := deps_map (g := nD) (k := 0) (fun _ => Nat.le_refl _) l
  omega
theorem dep_encB (b : Bx) : D.dep (encB b) ≤ 2 := by
  show D.deps [.str b.w, nT b.i, nT b.o] + 1 ≤ 2
  have h1 := dep_nT b.i
  have h2 := dep_nT b.o
  simp only [D.deps, D.dep]
  omega
theorem dep_encW (w : Wb) : D.dep (encW w) ≤ 4 := by
  show D.deps [.tup (w.ws.map .str), .tup (w.bs.map encB), nT w.l, nT w.r] + 1 ≤ 4
  have h1 := dep_nT w.l
  have h2 := dep_nT w.r
  have h3 := deps_map (g := encB) (k := 2) dep_encB w.bs
  have h4 := deps_map (g := D.str) (k := 0) (fun _ => Nat.le_refl _) w.ws
  simp only [D.deps, D.dep]
  omega
theorem nT_inj {a b : List Nat} (h : nT a = nT b) : a = b := by
  injection h with h
  have := congrArg (List.map intOf) h
  rw [List.map_map, List.map_map] at this
  have e : (intOf ∘ nD) = fun k : Nat => (k : Int) := rfl
  rw [e] at this
  exact List.map_inj_right (fun x y h => by omega) |>.mp this
theorem pys_nD : ∀ ps : List Nat, D.pys (ps.map nD) = ps.map fun (k : Nat) => PyData.int (k : Int)
  | [] => rfl
  | p :: ps => by rw [List.map_cons, List.map_cons, ← pys_nD ps]; rfl
theorem place_nat (k : Nat) : ∀ ps : List Nat, k ∈ ps → (ps.map fun (k : Nat) => PyData.int (k : Int)).findIdx? (fun y => PyData.eqv y (.int (k : Int))) = some (ps.idxOf k)
  | [], h => by cases h
  | p :: ps, h => by
    rw [List.map_cons, List.findIdx?_cons, List.idxOf_cons]
    by_cases e : p = k
    · subst e
      simp [PyData.eqv]
    · have e2 : PyData.eqv (.int (p : Int)) (.int (k : Int)) = false := by
        simp only [PyData.eqv, beq_eq_false_iff_ne]
        omega
      have hm : k ∈ ps := by
        rcases List.mem_cons.mp h with h | h
        · exact absurd h.symm e
        · exact h
      rw [e2, place_nat k ps hm]
      have : (p == k) = false := by simpa using e
      simp [this]
theorem p_index {bx : Bool} (k : Nat) (ps : List Nat) (h : k ∈ ps) : prim .indexOf bx [nT ps, nD k] S = .ok (.int (ps.idxOf k : Nat)) S := by
  have e : idxOf S (nD k) (ps.map nD) = some (ps.idxOf k) := by
    have h1 : pyd S (nD k) = some (.int (k : Int)) := rfl
    have h2 : D.toPys (ps.map nD) = some (ps.map fun (k : Nat) => PyData.int (k : Int)) := by
      rw [toPys_nb (nbs_map (fun _ => rfl) ps), pys_nD]
    unfold idxOf inSeq
    rw [h1, h2]
    simp only
    rw [if_pos (Nat.le_trans (Nat.min_le_right _ _) (by simp [PyData.depth]))]
    exact place_nat k ps h
  show R.o ((some (ps.map nD)).bind (idxOf S (nD k))) (fun i => .ok (.int i) S) = _
  show R.o (idxOf S (nD k) (ps.map nD)) (fun i => .ok (.int i) S) = _
  rw [e]
  rfl
end
end Pw.Lw

set_option Elab.async false
set_option linter.all false
set_option maxRecDepth 100000
set_option maxHeartbeats 1000000
namespace Pw.Lw
open PySem PySem.Spec PyProof.Rows L2 Pw
section
variable {n : Nat} {S : Sto} {C : Nat → List D → Sto → R D}
theorem getD_nD (ps : List Nat) (k : Nat) (h : k < ps.length) : (ps.map nD).getD k .non = nD (ps.getD k 0) := by
  rw [List.getD_eq_getElem?_getD, List.getElem?_map, List.getElem?_eq_getElem h, List.getD_eq_getElem?_getD, List.getElem?_eq_getElem h]
  rfl
theorem idx_nT {ps : List Nat} {k : Nat} (h : k < ps.length) : Pw.index S (nT ps) (nD k) = some (nD (ps.getD k 0)) := by
  rw [← getD_nD ps k h]
  exact idx_t (by rw [List.length_map]; exact h)
/-- [wires[at] for at in row] -/
theorem led_comp {e : Ev} {ps row : List Nat} (he : e[1]? = some (some (nT ps))) (h9 : 9 < e.length) (hk : ∀ k ∈ row, k < ps.length) (hl : row.length ≤ 1000) :
    compLoop (.n 9) [9] ⟨row.map nD, []⟩ e (denT C Gn none) (den C Gn (.ix (.v 1) (.v 9))).v (row.map nD) [] S = .ok (row.map fun k => nD (ps.getD k 0)) S := by
  have z := comp_map (tg := .n 9) (own := [9]) (src := ⟨row.map nD, []⟩) (e0 := e) (t := denT C Gn none) (elt := (den C Gn (.ix (.v 1) (.v 9))).v) (enc := nD) (g := fun k => nD (ps.getD k 0)) (stays_nil _ (S := S)) row [] (by simpa using small hl) (fun k hk2 => by
    refine ⟨(e.set 9 none).set 9 (some (nD k)), by simp [Tg.put, wipeE, h9], rfl, ?_⟩
    have e1 : ((e.set 9 none).set 9 (some (nD k)))[1]? = some (some (nT ps)) := by
      rw [List.getElem?_set_ne (by decide), List.getElem?_set_ne (by decide)]; exact he
    have e2 : ((e.set 9 none).set 9 (some (nD k)))[9]? = some (some (nD k)) := by
      rw [List.getElem?_set_self (by simpa using h9)]
    have e3 := idx_nT (S := S) (hk k hk2)
    simp only [v_ix, v_v, dVar, e1, e2, R.bind_ok, e3, R.opt_some])
  simpa using z
theorem src_nT (row : List Nat) : src1 S (nT row) = some ⟨row.map nD, []⟩ := (rfl)
theorem p_tupleL {bx : Bool} (xs : List D) : prim .tuple bx [.lst xs] S = .ok (.tup xs) S := (rfl)
/-- tuple([wires[at] for at in row]) -/
theorem led_tup {e : Ev} {ps row : List Nat} {x : E} (he : e[1]? = some (some (nT ps))) (h9 : 9 < e.length) (hk : ∀ k ∈ row, k < ps.length) (hl : row.length ≤ 1000) (hx : (den C Gn x).v e S = .ok (nT row) S) :
    (den C Gn (.pr .tuple false [(.comp false (.n 9) (.e x) [9] none (.ix (.v 1) (.v 9)))])).v e S = .ok (nT (row.map fun k => ps.getD k 0)) S := by
  have hc := led_comp (C := C) (S := S) he h9 hk hl
  have hm := mkL_f (S := S) (xs := row.map fun k => nD (ps.getD k 0)) (small (by simpa using hl))
  have e4 : nT (row.map fun k => ps.getD k 0) = .tup (row.map fun k => nD (ps.getD k 0)) := by
    show D.tup _ = _
    rw [List.map_map]
    rfl
  simp only [v_pr, ds_cons, ds_nil, v_comp, i_e, hx, R.bind_ok, src_nT, R.opt_some, hc, hm, p_tupleL, e4]
/-- a loop with its invariant -/
theorem for_inv {α : Type} {tg : Tg} {src : Src} {body : Ev → Sto → SR} {enc : α → D} (Inv : Nat → Ev → Sto → Prop) (hs : ∀ i e S, Inv i e S → src.stays S) : ∀ (ys : List α) (i : Nat) (e : Ev) (S : Sto), Inv i e S →
    (∀ (j : Nat) (e : Ev) (S : Sto) (y : α), ys[j]? = some y → Inv (i + j) e S → ∃ e1 e2 S2, Tg.put tg (enc y) S e = some e1 ∧ body e1 S = .nx e2 S2 ∧ Inv (i + j + 1) e2 S2) →
    ∃ e2 S2, forLoop tg src body (ys.map enc) e S = .nx e2 S2 ∧ Inv (i + ys.length) e2 S2
  | [], i, e, S, h, _ => ⟨e, S, by unfold forLoop; simp only [List.map_nil]; rw [if_pos (hs i e S h)], h⟩
  | y :: ys, i, e, S, h, st => by
    obtain ⟨e1, e2, S2, h1, h2, h3⟩ := st 0 e S y rfl h
    obtain ⟨e3, S3, h4, h5⟩ := for_inv Inv hs ys (i + 1) e2 S2 h3 fun j e S z hz hI => by
      have := st (j + 1) e S z (by simpa using hz) (by rw [show i + (j + 1) = i + 1 + j by omega]; exact hI)
      rw [show i + 1 + j + 1 = i + (j + 1) + 1 by omega]
      exact this
    refine ⟨e3, S3, ?_, by rw [List.length_cons, show i + (ys.length + 1) = i + 1 + ys.length by omega]; exact h5⟩
    rw [List.map_cons]
    unfold forLoop
    rw [if_pos (hs i e S h), h1]
    simp only [optS_some]
    rw [h2]
    exact h4
end
end Pw.Lw

set_option Elab.async false
set_option linter.all false
set_option maxRecDepth 100000
set_option maxHeartbeats 1000000
namespace Pw.Lw
open PySem PySem.Spec PyProof.Rows L2 Pw
section
variable {n : Nat} {S : Sto} {C : Nat → List D → Sto → R D}
instance : Inhabited Bx := ⟨⟨⟨#[]⟩, [], []⟩⟩
def ledB (ps : List Nat) (b : Bx) : Bx := ⟨b.w, b.i.map fun k => ps.getD k 0, b.o.map fun k => ps.getD k 0⟩
def ledW (w : Wb) (ps qs : List Nat) : Wb := ⟨(List.range ps.length).map fun k => w.ws.getD (ps.idxOf k) ⟨#[]⟩, (List.range qs.length).map fun k => ledB ps (w.bs.getD (qs.idxOf k) default), w.l.map fun k => ps.getD k 0, w.r.map fun k => ps.getD k 0⟩
/-- each place told -/
structure Full (m : Nat) (ps : List Nat) : Prop where
  len : ps.length = m
  mem : ∀ k, k < m → k ∈ ps
  nd : ps.Nodup
  lt : ∀ k ∈ ps, k < m
theorem Full.of {m : Nat} {ps : List Nat} (h : ps.Perm (List.range m)) : Full m ps :=
  ⟨by rw [h.length_eq, List.length_range], fun k hk => h.mem_iff.mpr (List.mem_range.mpr hk), h.nodup_iff.mpr List.nodup_range, fun k hk => List.mem_range.mp (h.mem_iff.mp hk)⟩
theorem Full.idx {m : Nat} {ps : List Nat} (h : Full m ps) {k : Nat} (hk : k < m) : ps.idxOf k < m := by
  rw [← h.len]
  exact List.idxOf_lt_length_of_mem (h.mem k hk)
theorem getD_map' {α : Type} [Inhabited α] (g : α → D) (xs : List α) (z : α) (k : Nat) (h : k < xs.length) : (xs.map g).getD k .non = g (xs.getD k z) := by
  rw [List.getD_eq_getElem?_getD, List.getElem?_map, List.getElem?_eq_getElem h, List.getD_eq_getElem?_getD, List.getElem?_eq_getElem h]
  rfl
theorem kd_nT (l : List Nat) : kd S (nT l) = 2 := (rfl)
theorem ix_w0 (w : Wb) : Pw.index S (encW w) (.int 0) = some (.tup (w.ws.map .str)) := (rfl)
theorem ix_w1 (w : Wb) : Pw.index S (encW w) (.int 1) = some (.tup (w.bs.map encB)) := (rfl)
theorem ix_w2 (w : Wb) : Pw.index S (encW w) (.int 2) = some (nT w.l) := (rfl)
theorem ix_w3 (w : Wb) : Pw.index S (encW w) (.int 3) = some (nT w.r) := (rfl)
theorem len_nT {bx : Bool} (l : List Nat) : prim .len bx [nT l] S = .ok (.int l.length) S := by
  show R.ok (D.int ((l.map nD).length : Nat)) S = _
  rw [List.length_map]
theorem rangeD0 (m : Nat) : rangeD 0 m = (List.range m).map nD := by
  unfold rangeD
  apply List.map_congr_left
  intro k _
  simp [nD]
theorem rng_n (m : Nat) (h : m ≤ 1000) : (rangeOf 1 [D.int m]).map (fun q => (⟨rangeD q.1 q.2, []⟩ : Src)) = some ⟨(List.range m).map nD, []⟩ := by
  rw [prim_range_i m h, rangeD0]
/-- [web[0][wires.index(k)] for k in range(len(wires))] -/
theorem led_kinds {e : Ev} {w : Wb} {ps : List Nat} (hf : Full w.ws.length ps) (hl : ps.length ≤ 1000) (h0 : e[0]? = some (some (encW w))) (h1 : e[1]? = some (some (nT ps))) (h3 : 3 < e.length) :
    compLoop (.n 3) [3] ⟨(List.range ps.length).map nD, []⟩ e (denT C Gn none) (den C Gn (.ix (.ix (.v 0) (.k (.int 0))) (.mth .indexOf false (.v 1) [(.v 3)]))).v ((List.range ps.length).map nD) [] S = .ok ((List.range ps.length).map fun k => .str (w.ws.getD (ps.idxOf k) ⟨#[]⟩)) S := by
  have z := comp_map (tg := .n 3) (own := [3]) (src := ⟨(List.range ps.length).map nD, []⟩) (e0 := e) (t := denT C Gn none) (elt := (den C Gn (.ix (.ix (.v 0) (.k (.int 0))) (.mth .indexOf false (.v 1) [(.v 3)]))).v) (enc := nD) (g := fun k => .str (w.ws.getD (ps.idxOf k) ⟨#[]⟩)) (stays_nil _ (S := S)) (List.range ps.length) [] (by simpa using small hl) (fun k hk => by
    have hk := List.mem_range.mp hk
    rw [hf.len] at hk
    refine ⟨(e.set 3 none).set 3 (some (nD k)), by simp [Tg.put, wipeE, h3], rfl, ?_⟩
    have e0 : ((e.set 3 none).set 3 (some (nD k)))[0]? = some (some (encW w)) := by
      rw [List.getElem?_set_ne (by decide), List.getElem?_set_ne (by decide)]; exact h0
    have e1 : ((e.set 3 none).set 3 (some (nD k)))[1]? = some (some (nT ps)) := by
      rw [List.getElem?_set_ne (by decide), List.getElem?_set_ne (by decide)]; exact h1
    have e2 : ((e.set 3 none).set 3 (some (nD k)))[3]? = some (some (nD k)) := by
      rw [List.getElem?_set_self (by simpa using h3)]
    have e3 := p_index (S := S) (bx := false) k ps (hf.mem k hk)
    have e4 : Pw.index S (.tup (w.ws.map .str)) (.int (ps.idxOf k : Nat)) = some (.str (w.ws.getD (ps.idxOf k) ⟨#[]⟩)) := by
      rw [← getD_map' (α := Str) (z := ⟨#[]⟩) .str _ _ (hf.idx hk)]
      exact idx_t (by rw [List.length_map]; exact hf.idx hk)
    simp only [v_ix, v_v, v_k, v_mth, dVar, e0, e1, e2, R.bind_ok, ix_w0, R.opt_some, kd_nT, Pr.kindOk, ds_cons, ds_nil, e3, e4, if_true, beq_self_eq_true, Bool.or_true])
  simpa using z
theorem p_append {bx : Bool} {j : Nat} {xs : List D} {y : D} (h : S[j]? = some (.lst xs)) (hl : xs.length < 1000) : prim .append bx [.ref j, y] S = .ok .non (S.set j (.lst (xs ++ [y]))) := by
  show dAppend (.ref j) y S = _
  unfold dAppend
  simp only [h]
  rw [if_pos (Nat.lt_of_lt_of_le hl (small (Nat.le_refl _)))]
theorem kd_ref {j : Nat} {xs : List D} (h : S[j]? = some (.lst xs)) : kd S (.ref j) = 1 := by
  unfold kd
  rw [rd_ref, h]
  rfl
theorem set_last (xs ys : List D) : (S ++ [MO.lst xs]).set S.length (.lst ys) = S ++ [.lst ys] := by
  rw [List.set_append_right _ _ (Nat.le_refl _)]
  simp
theorem get_last (xs : List D) : (S ++ [MO.lst xs])[S.length]? = some (.lst xs) := by
  simp
end
end Pw.Lw

set_option Elab.async false
set_option linter.all false
set_option maxRecDepth 100000
set_option maxHeartbeats 1000000
namespace Pw.Lw
open PySem PySem.Spec PyProof.Rows L2 Pw
section
variable {n : Nat} {S : Sto} {C : Nat → List D → Sto → R D}
def rowAt (w : Wb) (ps qs : List Nat) (k : Nat) : D := encB (ledB ps (w.bs.getD (qs.idxOf k) default))
structure LInv (S : Sto) (w : Wb) (ps qs : List Nat) (ks : D) (i : Nat) (e : Ev) (S' : Sto) : Prop where
  l : e.length = 10
  v0 : e[0]? = some (some (encW w))
  v1 : e[1]? = some (some (nT ps))
  v2 : e[2]? = some (some (nT qs))
  v4 : e[4]? = some (some ks)
  v5 : e[5]? = some (some (.ref S.length))
  st : S' = S ++ [.lst ((List.range i).map (rowAt w ps qs))]
theorem put3 {e : Ev} {a b c : Nat} {x y z : D} (ha : a < e.length) (hb : b < e.length) (hc : c < e.length) : Tg.put (.tu [.n a, .n b, .n c]) (.tup [x, y, z]) S e = some (((e.set a (some x)).set b (some y)).set c (some z)) := by
  simp [Tg.put, Tg.puts, seqOf, ha, hb, hc]
theorem put1 {e : Ev} {a : Nat} {x : D} (ha : a < e.length) : Tg.put (.n a) x S e = some (e.set a (some x)) := by
  simp [Tg.put, ha]
theorem tupsz {xs : List D} (h : xs.length ≤ 1000) : (if xs.length ≤ sizeLine then R.ok (D.tup xs) S else .bad) = .ok (.tup xs) S := if_pos (small h)
theorem led_body {w : Wb} {ps qs : List Nat} {ks : D} (hf : Full w.ws.length ps) (hq : Full w.bs.length qs) (ok : w.Ok) {j : Nat} (hj : j < w.bs.length) {e : Ev} {S' : Sto} (h : LInv S w ps qs ks j e S') :
    ∃ e1 e2 S2, Tg.put (.n 3) (nD j) S' e = some e1 ∧ denSs C Gn [.asg (.g (.tu [(.n 6), (.n 7), (.n 8)])) (.ix (.ix (.v 0) (.k (.int 1))) (.mth .indexOf false (.v 2) [(.v 3)])), .expr (.mth .append false (.v 5) [(.tup [(.v 6), (.pr .tuple false [(.comp false (.n 9) (.e (.v 7)) [9] none (.ix (.v 1) (.v 9)))]), (.pr .tuple false [(.comp false (.n 9) (.e (.v 8)) [9] none (.ix (.v 1) (.v 9)))])])])] e1 S' = .nx e2 S2 ∧ LInv S w ps qs ks (j + 1) e2 S2 := by
  obtain ⟨l, v0, v1, v2, v4, v5, st⟩ := h
  have hx := hq.idx hj
  have e4 : Pw.index S' (.tup (w.bs.map encB)) (.int (qs.idxOf j : Nat)) = some (encB (w.bs.getD (qs.idxOf j) default)) := by
    rw [← getD_map' (α := Bx) (z := default) encB _ _ hx]
    exact idx_t (by rw [List.length_map]; exact hx)
  have hb := ok.b (w.bs.getD (qs.idxOf j) default) (by
    rw [List.getD_eq_getElem?_getD, List.getElem?_eq_getElem hx]
    exact List.getElem_mem hx)
  generalize hB : w.bs.getD (qs.idxOf j) default = B at *
  have e3 := p_index (S := S') (bx := false) j qs (hq.mem j hj)
  have ha : e[0]? = some (some (encW w)) := v0
  refine ⟨e.set 3 (some (nD j)), (((e.set 3 (some (nD j))).set 6 (some (.str B.w))).set 7 (some (nT B.i))).set 8 (some (nT B.o)), S ++ [.lst ((List.range (j + 1)).map (rowAt w ps qs))], put1 (by omega), ?_, ?_⟩
  · have a0 : (e.set 3 (some (nD j)))[0]? = some (some (encW w)) := by rw [List.getElem?_set_ne (by decide)]; exact v0
    have a2 : (e.set 3 (some (nD j)))[2]? = some (some (nT qs)) := by rw [List.getElem?_set_ne (by decide)]; exact v2
    have a3 : (e.set 3 (some (nD j)))[3]? = some (some (nD j)) := by rw [List.getElem?_set_self (by omega)]
    have pu := put3 (S := S') (e := e.set 3 (some (nD j))) (a := 6) (b := 7) (c := 8) (x := .str B.w) (y := nT B.i) (z := nT B.o) (by simp [l]) (by simp [l]) (by simp [l])
    have pu2 : Tg.put (.tu [.n 6, .n 7, .n 8]) (encB B) S' (e.set 3 (some (nD j))) = _ := pu
    generalize hE : (((e.set 3 (some (nD j))).set 6 (some (.str B.w))).set 7 (some (nT B.i))).set 8 (some (nT B.o)) = E at *
    have lE : E.length = 10 := by subst hE; simp [l]
    have b1 : E[1]? = some (some (nT ps)) := by
      subst hE
      rw [List.getElem?_set_ne (by decide), List.getElem?_set_ne (by decide), List.getElem?_set_ne (by decide), List.getElem?_set_ne (by decide)]; exact v1
    have b5 : E[5]? = some (some (.ref S.length)) := by
      subst hE
      rw [List.getElem?_set_ne (by decide), List.getElem?_set_ne (by decide), List.getElem?_set_ne (by decide), List.getElem?_set_ne (by decide)]; exact v5
    have b6 : E[6]? = some (some (.str B.w)) := by
      subst hE
      rw [List.getElem?_set_ne (by decide), List.getElem?_set_ne (by decide), List.getElem?_set_self (by simp [l])]
    have b7 : E[7]? = some (some (nT B.i)) := by
      subst hE
      rw [List.getElem?_set_ne (by decide), List.getElem?_set_self (by simp [l])]
    have b8 : E[8]? = some (some (nT B.o)) := by
      subst hE
      rw [List.getElem?_set_self (by simp [l])]
    have t7 := led_tup (C := C) (S := S') (e := E) (ps := ps) (row := B.i) (x := .v 7) b1 (by omega) (fun k hk => by rw [hf.len]; exact hb.1.2 k hk) (by omega) (by simp only [v_v, dVar, b7])
    have t8 := led_tup (C := C) (S := S') (e := E) (ps := ps) (row := B.o) (x := .v 8) b1 (by omega) (fun k hk => by rw [hf.len]; exact hb.2.2 k hk) (by omega) (by simp only [v_v, dVar, b8])
    have gj : S'[S.length]? = some (.lst ((List.range j).map (rowAt w ps qs))) := by rw [st]; exact get_last _
    have pa := p_append (S := S') (bx := false) (y := encB (ledB ps B)) gj (by have := ok.bs; simp; omega)
    have kr := kd_ref gj
    have hr : S'.set S.length (.lst ((List.range j).map (rowAt w ps qs) ++ [encB (ledB ps B)])) = S ++ [.lst ((List.range (j + 1)).map (rowAt w ps qs))] := by
      rw [st, set_last, List.range_succ, List.map_append]
      show _ = S ++ [MO.lst (_ ++ [encB (ledB ps _)])]
      rw [hB]
    have tz := tupsz (S := S') (xs := [.str B.w, nT (B.i.map fun k => ps.getD k 0), nT (B.o.map fun k => ps.getD k 0)]) (by simp)
    have en : D.tup [.str B.w, nT (B.i.map fun k => ps.getD k 0), nT (B.o.map fun k => ps.getD k 0)] = encB (ledB ps B) := rfl
    have v6 : (den C Gn (.v 6)).v E S' = .ok (.str B.w) S' := by simp only [v_v, dVar, b6]
    have v5' : (den C Gn (.v 5)).v E S' = .ok (.ref S.length) S' := by simp only [v_v, dVar, b5]
    have hL1 : (den C Gn (.ix (.ix (.v 0) (.k (.int 1))) (.mth .indexOf false (.v 2) [(.v 3)]))).v (e.set 3 (some (nD j))) S' = .ok (encB B) S' := by
      simp only [v_ix, v_v, v_k, v_mth, dVar, a0, a2, a3, R.bind_ok, ix_w1, R.opt_some, kd_nT, Pr.kindOk, ds_cons, ds_nil, e3, e4, if_true, beq_self_eq_true, Bool.or_true]
    have hL2 : (den C Gn (.mth .append false (.v 5) [(.tup [(.v 6), (.pr .tuple false [(.comp false (.n 9) (.e (.v 7)) [9] none (.ix (.v 1) (.v 9)))]), (.pr .tuple false [(.comp false (.n 9) (.e (.v 8)) [9] none (.ix (.v 1) (.v 9)))])])])).v E S' = .ok .non (S ++ [.lst ((List.range (j + 1)).map (rowAt w ps qs))]) := by
      rw [v_mth, v5']
      simp only [R.bind_ok, kr, Pr.kindOk, beq_self_eq_true, if_true, ds_cons, ds_nil]
      rw [v_tup]
      simp only [ds_cons, ds_nil]
      rw [v6]
      simp only [R.bind_ok]
      rw [t7, R.bind_ok, t8]
      simp only [R.bind_ok]
      rw [tz, en]
      simp only [R.bind_ok, kr, if_true]
      rw [pa, hr]
    simp only [ss_cons, ss_nil, s_asg, s_expr]
    rw [hL1]
    simp only [R.st_ok]
    rw [pu2]
    simp only [optS_some, SR.then_nx]
    rw [hL2]
    simp only [R.st_ok, SR.then_nx]
  · refine ⟨by simp [l], ?_, ?_, ?_, ?_, ?_, rfl⟩
    all_goals
      rw [List.getElem?_set_ne (by decide), List.getElem?_set_ne (by decide), List.getElem?_set_ne (by decide), List.getElem?_set_ne (by decide)]
      assumption
end
end Pw.Lw

set_option Elab.async false
set_option linter.all false
set_option maxRecDepth 100000
set_option maxHeartbeats 1000000
namespace Pw.Lw
open PySem PySem.Spec PyProof.Rows L2 Pw
section
variable {n : Nat} {S : Sto} {C : Nat → List D → Sto → R D}
mutual
theorem nb_pure : ∀ d : D, D.nb d = true → D.pure d = true
  | .non, _ => rfl
  | .bl _, _ => rfl
  | .int _, _ => rfl
  | .str _, _ => rfl
  | .tup xs, h => nbs_pures xs h
  | .lst xs, h => nbs_pures xs h
  | .dct _ _, h => by cases h
  | .ref _, h => by cases h
theorem nbs_pures : ∀ xs : List D, D.nbs xs = true → D.pures xs = true
  | [], _ => rfl
  | x :: xs, h => by
    unfold D.nbs at h
    rw [Bool.and_eq_true] at h
    unfold D.pures
    rw [nb_pure x h.1, nbs_pures xs h.2]; rfl
end
theorem len10 {α : Type} {l : List α} (h : l.length = 10) : ∃ a b c d e f g h i j, l = [a, b, c, d, e, f, g, h, i, j] := by
  match l, h with
  | [a, b, c, d, e, f, g, h, i, j], _ => exact ⟨a, b, c, d, e, f, g, h, i, j, rfl⟩
theorem led_row {e : Ev} {j : Nat} {w : Wb} {ps row : List Nat} {x : E} (h9 : 9 < e.length) (h1 : e[1]? = some (some (nT ps))) (hx : (den C Gn x).v e S = .ok (nT row) S) (hk : ∀ k ∈ row, k < ps.length) (hl : row.length ≤ 1000) :
    (den C Gn (.pr .tuple false [(.comp false (.n 9) (.e x) [9] none (.ix (.v 1) (.v 9)))])).v e S = .ok (nT (row.map fun k => ps.getD k 0)) S :=
  led_tup h1 h9 hk hl hx
theorem s_lawled (w : Wb) (ps qs : List Nat) (hf : Full w.ws.length ps) (hq : Full w.bs.length qs) (ok : w.Ok) : cl (n + 1) 17 [encW w, nT ps, nT qs] S = .ok (encW (ledW w ps qs)) S := by
  show callN Fs Gn (n + 1) 17 _ S = _
  rw [call_eq (F := f17) rfl rfl]
  have hps : ps.length ≤ 900 := by rw [hf.len]; exact ok.ws
  have hqs : qs.length ≤ 900 := by rw [hq.len]; exact ok.bs
  have hc := led_kinds (C := callN Fs Gn n) (S := S) (e := [some (encW w), some (nT ps), some (nT qs), none, none, none, none, none, none, none]) hf (by omega) rfl rfl (by simp)
  have hm := mkL_f (S := S) (xs := (List.range ps.length).map fun k => D.str (w.ws.getD (ps.idxOf k) ⟨#[]⟩)) (small (by simp; omega))
  generalize hks : D.lst ((List.range ps.length).map fun k => D.str (w.ws.getD (ps.idxOf k) ⟨#[]⟩)) = ks at *
  have hm2 := mkL_t (S := S) (xs := []) (small (by simp))
  have t0 := tupsz (S := S ++ [MO.lst []]) (xs := [ks, .ref S.length]) (by simp)
  have pu : Tg.put (.tu [.n 4, .n 5]) (.tup [ks, .ref S.length]) (S ++ [MO.lst []]) [some (encW w), some (nT ps), some (nT qs), none, none, none, none, none, none, none] = some [some (encW w), some (nT ps), some (nT qs), none, some ks, some (.ref S.length), none, none, none, none] := by
    simp [Tg.put, Tg.puts, seqOf]
  have i0 : LInv S w ps qs ks 0 [some (encW w), some (nT ps), some (nT qs), none, some ks, some (.ref S.length), none, none, none, none] (S ++ [MO.lst []]) := ⟨rfl, rfl, rfl, rfl, rfl, rfl, rfl⟩
  obtain ⟨e2, S2, hF, hI⟩ := for_inv (α := Nat) (tg := .n 3) (src := ⟨(List.range qs.length).map nD, []⟩) (enc := nD) (LInv S w ps qs ks) (fun i e S _ => stays_nil _) (List.range qs.length) 0 _ _ i0 (fun j e S' y hy hI => by
    have hjl : j < qs.length := by
      have := (List.getElem?_eq_some_iff.mp hy).1
      simpa using this
    have hy : y = j := by
      rw [List.getElem?_range hjl] at hy
      exact (Option.some.inj hy).symm
    subst hy
    rw [Nat.zero_add] at hI
    rw [Nat.zero_add]
    exact led_body (C := callN Fs Gn n) hf hq ok (by rw [← hq.len]; exact hjl) hI)
  rw [List.length_range, Nat.zero_add] at hI
  obtain ⟨l, v0, v1, v2, v4, v5, st⟩ := hI
  have g5 : S2[S.length]? = some (.lst ((List.range qs.length).map (rowAt w ps qs))) := by rw [st]; exact get_last _
  have p4 : prim .tuple false [ks] S2 = .ok (.tup ((List.range ps.length).map fun k => D.str (w.ws.getD (ps.idxOf k) ⟨#[]⟩))) S2 := by rw [← hks]; rfl
  have p5 : prim .tuple false [.ref S.length] S2 = .ok (.tup ((List.range qs.length).map (rowAt w ps qs))) S2 := by
    show pTuple S2 (.ref S.length) = _
    unfold pTuple
    rw [rd_ref, g5]
    rfl
  have tl := led_tup (C := callN Fs Gn n) (S := S2) (e := e2) (ps := ps) (row := w.l) (x := .ix (.v 0) (.k (.int 2))) v1 (by omega) (fun k hk => by rw [hf.len]; exact ok.l.2 k hk) (by have := ok.l.1; omega) (by simp only [v_ix, v_v, v_k, dVar, v0, R.bind_ok, ix_w2, R.opt_some])
  have tr := led_tup (C := callN Fs Gn n) (S := S2) (e := e2) (ps := ps) (row := w.r) (x := .ix (.v 0) (.k (.int 3))) v1 (by omega) (fun k hk => by rw [hf.len]; exact ok.r.2 k hk) (by have := ok.r.1; omega) (by simp only [v_ix, v_v, v_k, dVar, v0, R.bind_ok, ix_w3, R.opt_some])
  have e4 : (den (callN Fs Gn n) Gn (.v 4)).v e2 S2 = .ok ks S2 := by simp only [v_v, dVar, v4]
  have e5 : (den (callN Fs Gn n) Gn (.v 5)).v e2 S2 = .ok (.ref S.length) S2 := by simp only [v_v, dVar, v5]
  have hT : (den (callN Fs Gn n) Gn (.tup [(.pr .tuple false [(.v 4)]), (.pr .tuple false [(.v 5)]), (.pr .tuple false [(.comp false (.n 9) (.e (.ix (.v 0) (.k (.int 2)))) [9] none (.ix (.v 1) (.v 9)))]), (.pr .tuple false [(.comp false (.n 9) (.e (.ix (.v 0) (.k (.int 3)))) [9] none (.ix (.v 1) (.v 9)))])])).v e2 S2 = .ok (encW (ledW w ps qs)) S2 := by
    have q4 : (den (callN Fs Gn n) Gn (.pr .tuple false [(.v 4)])).v e2 S2 = .ok (.tup ((List.range ps.length).map fun k => D.str (w.ws.getD (ps.idxOf k) ⟨#[]⟩))) S2 := by
      simp only [v_pr, ds_cons, ds_nil, e4, R.bind_ok]
      exact p4
    have q5 : (den (callN Fs Gn n) Gn (.pr .tuple false [(.v 5)])).v e2 S2 = .ok (.tup ((List.range qs.length).map (rowAt w ps qs))) S2 := by
      simp only [v_pr, ds_cons, ds_nil, e5, R.bind_ok]
      exact p5
    rw [v_tup]
    simp only [ds_cons, ds_nil, q4, q5, tl, tr, R.bind_ok]
    rw [tupsz (by simp)]
    congr 1
    show D.tup _ = D.tup _
    congr 1
    show [D.tup _, D.tup _, _, _] = [D.tup _, D.tup _, _, _]
    simp only [ledW, List.map_map]
    rfl
  have hA : (den (callN Fs Gn n) Gn (.tup [(.comp false (.n 3) (.rng [(.pr .len false [(.v 1)])]) [3] none (.ix (.ix (.v 0) (.k (.int 0))) (.mth .indexOf false (.v 1) [(.v 3)]))), (.lst true [])])).v [some (encW w), some (nT ps), some (nT qs), none, none, none, none, none, none, none] S = .ok (.tup [ks, .ref S.length]) (S ++ [MO.lst []]) := by
    rw [v_tup]
    simp only [ds_cons, ds_nil, v_comp, i_rng, v_pr, v_v, v_lst, dVar, List.getElem?_cons_succ, List.getElem?_cons_zero, R.bind_ok, len_nT, List.length_cons, List.length_nil, Nat.zero_add, rng_n _ (show ps.length ≤ 1000 by omega), R.opt_some, hc, hm]
    rw [hm2]
    simp only [R.bind_ok]
    exact t0
  have hR : denI (callN Fs Gn n) Gn (.rng [(.pr .len false [(.v 2)])]) [some (encW w), some (nT ps), some (nT qs), none, some ks, some (.ref S.length), none, none, none, none] (S ++ [MO.lst []]) = .ok ⟨(List.range qs.length).map nD, []⟩ (S ++ [MO.lst []]) := by
    simp only [i_rng, ds_cons, ds_nil, v_pr, v_v, dVar, List.getElem?_cons_succ, List.getElem?_cons_zero, R.bind_ok, len_nT, List.length_cons, List.length_nil, Nat.zero_add, rng_n _ (show qs.length ≤ 1000 by omega), R.opt_some]
  show closeR true S (denSs (callN Fs Gn n) Gn f17.body [some (encW w), some (nT ps), some (nT qs), none, none, none, none, none, none, none] S) = _
  unfold f17
  simp only [ss_cons, ss_nil, s_asg, s_for, s_ret]
  rw [hA]
  simp only [R.st_ok]
  rw [pu]
  simp only [optS_some, SR.then_nx]
  rw [hR]
  simp only [R.st_ok]
  rw [hF]
  simp only [SR.then_nx]
  rw [hT]
  simp only [R.st_ok, SR.then_ret]
  rw [st]
  exact closeR_grown (nb_pure _ (nb_encW _))
end
end Pw.Lw

set_option Elab.async false
set_option linter.all false
set_option maxRecDepth 100000
set_option maxHeartbeats 1000000
namespace Pw.Lw
open PySem PySem.Spec PyProof.Rows L2 Pw
section
variable {n : Nat} {S : Sto} {C : Nat → List D → Sto → R D}
def tupL : D → Option (List D)
  | .tup xs => some xs
  | _ => none
theorem s_tup2 (m : Nat) (d : D) (h : D.val d = true) : cl (n + 1) 2 [.int m, d] S = .ok (.bl (match tupL d with | some xs => decide (xs.length = m) | none => false)) S := by
  show callN Fs Gn (n + 1) 2 _ S = _
  rw [call_eq (F := f2) rfl rfl]
  cases d with
  | tup xs =>
    have e1 := cmp_int_eq (S := S) (xs.length : Int) (m : Int)
    simp [f2, dVar, tyIs, dAnd, truth, tupL, prim_lenT, e1]
    omega
  | _ => simp [D.val] at h <;> simp [f2, dVar, tyIs, dAnd, truth, tupL]
noncomputable def ordV (m : Nat) (d : D) : Bool := match tupL d with | some xs => ordB m xs | none => false
theorem s_orderV (d : D) (h : D.val d = true) (hx : ∀ xs, tupL d = some xs → (∀ x ∈ xs, D.val x = true) ∧ xs.length ≤ 1000) (m : Nat) (hm : m ≤ 1000) : cl (n + 3) 3 [.int m, d] S = .ok (.bl (ordV m d)) S := by
  cases d with
  | tup xs =>
    have := hx xs rfl
    exact s_order xs this.1 this.2 m hm
  | _ =>
    show callN Fs Gn (n + 3) 3 _ S = _
    rw [call_eq (F := f3) rfl rfl]
    simp [D.val] at h <;> simp [f3, dVar, tyIs, dAnd, truth, ordV, tupL]
def numV (m k : Nat) (d : D) : Bool := match tupL d with | some xs => decide (xs.length = m) && xs.all (inR k) | none => false
theorem s_numbersV (d : D) (h : D.val d = true) (hx : ∀ xs, tupL d = some xs → (∀ x ∈ xs, D.val x = true)) (m k : Nat) : cl (n + 1) 18 [d, .int m, .int k] S = .ok (.bl (numV m k d)) S := by
  cases d with
  | tup xs => exact s_numbers xs (hx xs rfl) m k
  | _ =>
    show callN Fs Gn (n + 1) 18 _ S = _
    rw [call_eq (F := f18) rfl rfl]
    simp [D.val] at h <;> simp [f18, dVar, tyIs, dAnd, truth, numV, tupL]
/-! ### orders -/
theorem ord_full {m : Nat} {xs : List D} (h : ordB m xs = true) : ∃ ps : List Nat, xs = ps.map nD ∧ Full m ps := by
  unfold ordB at h
  simp only [Bool.and_eq_true, decide_eq_true_eq] at h
  obtain ⟨⟨h1, h2⟩, h3⟩ := h
  have hx := inR_int h2
  refine ⟨xs.map fun d => (intOf d).toNat, ?_, Full.of ?_⟩
  · rw [List.map_map]
    conv => lhs; rw [← List.map_id xs]
    apply List.map_congr_left
    intro x hx2
    have := List.all_eq_true.mp h2 x hx2
    cases x <;> first | cases this | skip
    rename_i i
    have hi : 0 ≤ i := by
      have : (decide (0 ≤ i) && decide (i ≤ (m : Int) - 1)) = true := this
      simp only [Bool.and_eq_true, decide_eq_true_eq] at this
      exact this.1
    show D.int i = D.int ((i.toNat : Nat) : Int)
    rw [Int.toNat_of_nonneg hi]
  · have hp := (List.mergeSort_perm (xs.map intOf) (fun a b => decide (a ≤ b))).map Int.toNat
    rw [h3, List.map_map, List.map_map] at hp
    have e : (Int.toNat ∘ fun (k : Nat) => (k : Int)) = id := by funext k; simp
    rw [e, List.map_id] at hp
    exact hp.symm
theorem Full.get_idx {m : Nat} {ps : List Nat} (h : Full m ps) {k : Nat} (hk : k < m) : ps.getD (ps.idxOf k) 0 = k := by
  have hi := List.idxOf_lt_length_of_mem (h.mem k hk)
  rw [List.getD_eq_getElem?_getD, List.getElem?_eq_getElem hi]
  exact List.getElem_idxOf hi
theorem Full.get_lt {m : Nat} {ps : List Nat} (h : Full m ps) {k : Nat} (hk : k < m) : ps.getD k 0 < m := by
  have hi : k < ps.length := by rw [h.len]; exact hk
  rw [List.getD_eq_getElem?_getD, List.getElem?_eq_getElem hi]
  exact h.lt _ (List.getElem_mem hi)
theorem Full.idx_get {m : Nat} {ps : List Nat} (h : Full m ps) {k : Nat} (hk : k < m) : ps.idxOf (ps.getD k 0) = k := by
  have hi : k < ps.length := by rw [h.len]; exact hk
  rw [List.getD_eq_getElem?_getD, List.getElem?_eq_getElem hi]
  exact h.nd.idxOf_getElem k hi
/-- the led row is the other row when each goes to its own -/
theorem led_iff {α : Type} {m : Nat} {ps : List Nat} (h : Full m ps) (xs ys : List α) (z : α) (hx : xs.length = m) : (List.range ps.length).map (fun j => xs.getD (ps.idxOf j) z) = ys ↔ ys.length = m ∧ ∀ k, k < m → xs.getD k z = ys.getD (ps.getD k 0) z := by
  constructor
  · intro e
    subst e
    refine ⟨by simp [h.len], fun k hk => ?_⟩
    have := h.get_lt hk
    rw [List.getD_eq_getElem?_getD (l := (List.range ps.length).map _), List.getElem?_map, List.getElem?_range (by rw [h.len]; exact this)]
    show xs.getD k z = xs.getD (ps.idxOf (ps.getD k 0)) z
    rw [h.idx_get hk]
  · intro ⟨e1, e2⟩
    apply List.ext_getElem (by simp [h.len, e1])
    intro j h1 h2
    rw [List.getElem_map, List.getElem_range]
    have hj : j < m := by rw [← e1]; exact h2
    rw [e2 _ (h.idx hj), h.get_idx hj, List.getD_eq_getElem?_getD, List.getElem?_eq_getElem h2]
    rfl
end
end Pw.Lw

set_option Elab.async false
set_option linter.all false
set_option maxRecDepth 100000
set_option maxHeartbeats 1000000
namespace Pw.Lw
open PySem PySem.Spec PyProof.Rows L2 Pw
section
variable {n : Nat} {S : Sto} {C : Nat → List D → Sto → R D}
theorem wds_map {α : Type} {g : α → D} : ∀ l : List α, (∀ a ∈ l, wd (g a) = true) → wds (l.map g) = true
  | [], _ => rfl
  | a :: l, h => by
    rw [List.map_cons]
    unfold wds
    rw [h a (List.mem_cons_self ..), wds_map l fun b hb => h b (List.mem_cons_of_mem _ hb)]; rfl
theorem wd_tup {xs : List D} (h : xs.length ≤ 1000) (h2 : wds xs = true) : wd (.tup xs) = true := by
  unfold wd
  rw [h2, decide_eq_true h]; rfl
theorem wd_nT {l : List Nat} (h : l.length ≤ 1000) : wd (nT l) = true := wd_tup (by simpa using h) (wds_map l fun _ _ => rfl)
theorem wd_encW {w : Wb} (h : w.Ok) : wd (encW w) = true := by
  refine wd_tup (by simp) ?_
  have h1 : wd (.tup (w.ws.map .str)) = true := wd_tup (by have := h.ws; simp; omega) (wds_map _ fun _ _ => rfl)
  have h2 : wd (.tup (w.bs.map encB)) = true := wd_tup (by have := h.bs; simp; omega) (wds_map _ fun b hb => by
    have hb := h.b b hb
    refine wd_tup (by simp) ?_
    have q1 := wd_nT (l := b.i) (by omega)
    have q2 := wd_nT (l := b.o) (by omega)
    simp [wds, q1, q2, wd])
  have h3 := wd_nT (l := w.l) (by have := h.l.1; omega)
  have h4 := wd_nT (l := w.r) (by have := h.r.1; omega)
  simp [wds, h1, h2, h3, h4]
theorem ledW_ok {w : Wb} {ps qs : List Nat} (h : w.Ok) (hf : Full w.ws.length ps) (hq : Full w.bs.length qs) : (ledW w ps qs).Ok := by
  have hl : (ledW w ps qs).ws.length = w.ws.length := by simp [ledW, hf.len]
  have hg : ∀ (row : List Nat), (∀ k ∈ row, k < w.ws.length) → ∀ k ∈ row.map (fun k => ps.getD k 0), k < w.ws.length := by
    intro row hr k hk
    obtain ⟨j, hj, rfl⟩ := List.mem_map.mp hk
    exact hf.get_lt (hr j hj)
  refine ⟨by rw [hl]; exact h.ws, by simp [ledW, hq.len]; exact h.bs, ⟨by simp [ledW]; exact h.l.1, by rw [hl]; exact hg _ h.l.2⟩, ⟨by simp [ledW]; exact h.r.1, by rw [hl]; exact hg _ h.r.2⟩, ?_⟩
  intro b hb
  obtain ⟨k, hk, rfl⟩ := List.mem_map.mp hb
  have hk := List.mem_range.mp hk
  rw [hq.len] at hk
  have hx := hq.idx hk
  have hB := h.b (w.bs.getD (qs.idxOf k) default) (by
    rw [List.getD_eq_getElem?_getD, List.getElem?_eq_getElem hx]
    exact List.getElem_mem hx)
  rw [hl]
  exact ⟨⟨by simp [ledB]; simpa using hB.1.1, hg _ hB.1.2⟩, ⟨by simp [ledB]; simpa using hB.2.1, hg _ hB.2.2⟩⟩
structure VOk (v : D) : Prop where
  va : D.val v = true
  p : ∀ xs, tupL v = some xs → ∀ x ∈ xs, D.val x = true ∧ ∀ ys, tupL x = some ys → (∀ y ∈ ys, D.val y = true) ∧ ys.length ≤ 900
def natsOf : D → List Nat
  | .tup xs => xs.map fun d => (intOf d).toNat
  | _ => []
theorem natsOf_nT (ps : List Nat) : natsOf (nT ps) = ps := by
  show (ps.map nD).map _ = _
  rw [List.map_map]
  conv => rhs; rw [← List.map_id ps]
  apply List.map_congr_left
  intro x _
  simp [intOf]
open Classical in
noncomputable def judge (w o : Wb) : D → Bool
  | .tup [a, b] => decide (w.ws.length = o.ws.length) && decide (w.bs.length = o.bs.length) && ordV w.ws.length a && ordV w.bs.length b && decide (encW (ledW w (natsOf a) (natsOf b)) = encW o)
  | _ => false
theorem ordV_full {m : Nat} {d : D} (h : ordV m d = true) : ∃ ps, d = nT ps ∧ Full m ps := by
  cases d <;> first | cases h | skip
  obtain ⟨ps, h1, h2⟩ := ord_full (xs := _) h
  exact ⟨ps, by rw [h1]; rfl, h2⟩
/-- sorted(xs) != list(range(k)) of numbers -/
theorem srt_ne (xs : List D) (m k : Nat) (hn : numV m k (.tup xs) = true) (hl : xs.length ≤ 1000) (hk : k ≤ 1000) : ∃ ss : List Int, prim .sorted false [.tup xs] S = .ok (.lst (ss.map .int)) S ∧ prim (.rangeL 1) false [.int k] S = .ok (.lst (((List.range k).map fun (k : Nat) => (k : Int)).map .int)) S ∧
    cmpop .ne (.lst (ss.map .int)) (.lst (((List.range k).map fun (k : Nat) => (k : Int)).map .int)) S = some (!(decide (m = k) && ordV m (.tup xs))) := by
  unfold numV tupL at hn
  simp only [Bool.and_eq_true, decide_eq_true_eq] at hn
  have hx := inR_int hn.2
  have hs := prim_sortedT (S := S) (xs.map intOf) (by rw [List.length_map]; exact hl)
  rw [← hx] at hs
  refine ⟨_, hs, prim_rangeL1 (bx := false) k hk, ?_⟩
  have he := eq_ints (S := S) ((xs.map intOf).mergeSort (fun a b => decide (a ≤ b))) ((List.range k).map fun (k : Nat) => (k : Int))
  have e2 : cmpop .ne (.lst (((xs.map intOf).mergeSort (fun a b => decide (a ≤ b))).map .int)) (.lst (((List.range k).map fun (k : Nat) => (k : Int)).map .int)) S = (cmpop .eq (.lst (((xs.map intOf).mergeSort (fun a b => decide (a ≤ b))).map .int)) (.lst (((List.range k).map fun (k : Nat) => (k : Int)).map .int)) S).map (!·) := rfl
  rw [e2, he]
  simp only [Option.map_some]
  congr 2
  by_cases e : m = k
  · subst e
    simp [ordV, tupL, ordB, hn.1, hn.2]
  · have : ¬ (xs.map intOf).mergeSort (fun a b => decide (a ≤ b)) = (List.range k).map fun (k : Nat) => (k : Int) := by
      intro z
      have := congrArg List.length z
      rw [List.length_mergeSort] at this
      simp at this
      omega
    simp [e, this]
end
end Pw.Lw

set_option Elab.async false
set_option linter.all false
set_option maxRecDepth 100000
set_option maxHeartbeats 1000000
namespace Pw.Lw
open PySem PySem.Spec PyProof.Rows L2 Pw
section
variable {n : Nat} {S : Sto} {C : Nat → List D → Sto → R D}
theorem numV_ord {m : Nat} {d : D} (h : ordV m d = true) : numV m m d = true := by
  cases d <;> first | cases h | skip
  rename_i xs
  have h : ordB m xs = true := h
  unfold ordB at h
  simp only [Bool.and_eq_true, decide_eq_true_eq] at h
  unfold numV tupL
  simp [h.1.1, h.1.2]
theorem put2 {e : Ev} {a b : Nat} {x y : D} (ha : a < e.length) (hb : b < e.length) : Tg.put (.tu [.n a, .n b]) (.tup [x, y]) S e = some ((e.set a (some x)).set b (some y)) := by
  simp [Tg.put, Tg.puts, seqOf, ha, hb]
theorem len_ws {bx : Bool} (w : Wb) : prim .len bx [.tup (w.ws.map .str)] S = .ok (.int w.ws.length) S := by
  rw [prim_lenT, List.length_map]
theorem len_bs {bx : Bool} (w : Wb) : prim .len bx [.tup (w.bs.map encB)] S = .ok (.int w.bs.length) S := by
  rw [prim_lenT, List.length_map]
open Classical in
theorem s_leads (w o : Wb) (ok : w.Ok) (oo : o.Ok) (v : D) (hv : VOk v) : cl (n + 6) 19 [encW w, encW o, v] S = .ok (.bl (judge w o v)) S := by
  show callN Fs Gn (n + 6) 19 _ S = _
  rw [call_eq (F := f19) rfl rfl]
  obtain ⟨va, vp⟩ := hv
  cases v with
  | tup xs =>
    have e1 := cmp_int_ne (S := S) (xs.length : Int) 2
    by_cases h2 : xs.length = 2
    · obtain ⟨a, b, rfl⟩ : ∃ a b, xs = [a, b] := by
        match xs, h2 with
        | [a, b], _ => exact ⟨a, b, rfl⟩
      have ha := vp _ rfl a (by simp)
      have hb := vp _ rfl b (by simp)
      have na := s_numbersV (n := n + 4) (S := S) a ha.1 (fun xs hx => (ha.2 xs hx).1) w.ws.length o.ws.length
      have nb := s_numbersV (n := n + 4) (S := S) b hb.1 (fun xs hx => (hb.2 xs hx).1) w.bs.length o.bs.length
      simp only [cl] at na nb
      have ow := oo.ws
      have ob := oo.bs
      cases ea : numV w.ws.length o.ws.length a with
      | false =>
        rw [ea] at na
        have hj : judge w o (.tup [a, b]) = false := by
          unfold judge
          cases eo : ordV w.ws.length a with
          | false => simp [eo]
          | true =>
            by_cases z : w.ws.length = o.ws.length
            · rw [← z, numV_ord eo] at ea; cases ea
            · simp [z]
        simp [f19, dVar, tyIs, dAnd, truth, prim_lenT, cmp_int_ne, put2, ix_w0, ix_w1, len_ws, len_bs, na, hj]
      | true =>
        cases eb : numV w.bs.length o.bs.length b with
        | false =>
          rw [ea] at na
          rw [eb] at nb
          have hj : judge w o (.tup [a, b]) = false := by
            unfold judge
            cases eo : ordV w.bs.length b with
            | false => simp [eo]
            | true =>
              by_cases z : w.bs.length = o.bs.length
              · rw [← z, numV_ord eo] at eb; cases eb
              · simp [z]
          simp [f19, dVar, tyIs, dAnd, truth, prim_lenT, cmp_int_ne, put2, ix_w0, ix_w1, len_ws, len_bs, na, nb, hj]
        | true =>
          rw [ea] at na
          rw [eb] at nb
          cases a <;> first | cases ea | skip
          rename_i as
          cases b <;> first | cases eb | skip
          rename_i bs
          obtain ⟨sa, pa, ra, ca⟩ := srt_ne (S := S) as _ _ ea (by have := (ha.2 _ rfl).2; omega) (show o.ws.length ≤ 1000 by omega)
          obtain ⟨sb, pb, rb, cb⟩ := srt_ne (S := S) bs _ _ eb (by have := (hb.2 _ rfl).2; omega) (show o.bs.length ≤ 1000 by omega)
          generalize D.lst (((List.range o.ws.length).map fun (k : Nat) => (k : Int)).map .int) = ja at *
          generalize D.lst (((List.range o.bs.length).map fun (k : Nat) => (k : Int)).map .int) = jb at *
          generalize D.lst (sa.map .int) = da at *
          generalize D.lst (sb.map .int) = db at *
          cases qa : (decide (w.ws.length = o.ws.length) && ordV w.ws.length (.tup as)) with
          | false =>
            rw [qa] at ca
            have hj : judge w o (.tup [.tup as, .tup bs]) = false := by
              unfold judge
              rw [Bool.and_eq_false_iff] at qa
              rcases qa with qa | qa <;> simp [qa]
            simp [f19, dVar, tyIs, dAnd, truth, prim_lenT, cmp_int_ne, put2, ix_w0, ix_w1, len_ws, len_bs, na, nb, pa, ra, ca, hj]
          | true =>
            rw [qa] at ca
            cases qb : (decide (w.bs.length = o.bs.length) && ordV w.bs.length (.tup bs)) with
            | false =>
              rw [qb] at cb
              have hj : judge w o (.tup [.tup as, .tup bs]) = false := by
                unfold judge
                rw [Bool.and_eq_false_iff] at qb
                rcases qb with qb | qb <;> simp [qb]
              simp [f19, dVar, tyIs, dAnd, truth, prim_lenT, cmp_int_ne, put2, ix_w0, ix_w1, len_ws, len_bs, na, nb, pa, ra, ca, pb, rb, cb, hj]
            | true =>
              rw [qb] at cb
              rw [Bool.and_eq_true] at qa qb
              obtain ⟨ps, rfa, fa⟩ := ordV_full qa.2
              obtain ⟨qs, rfb, fb⟩ := ordV_full qb.2
              have hL := s_lawled (n := n + 4) (S := S) w ps qs fa fb ok
              have hS := s_same 4 n S (encW o) (encW (ledW w ps qs)) (dep_encW _) (by omega) (nb_encW _) (nb_encW _) (wd_encW oo) (wd_encW (ledW_ok ok fa fb))
              simp only [cl] at hL hS
              have hj : judge w o (.tup [.tup as, .tup bs]) = decide (encW (ledW w ps qs) = encW o) := by
                show (decide (w.ws.length = o.ws.length) && decide (w.bs.length = o.bs.length) && ordV w.ws.length (.tup as) && ordV w.bs.length (.tup bs) && decide (encW (ledW w (natsOf (.tup as)) (natsOf (.tup bs))) = encW o)) = _
                rw [qa.1, qa.2, qb.1, qb.2, rfa, rfb, natsOf_nT, natsOf_nT]
                rfl
              rw [hj]
              rw [rfa] at na pa
              rw [rfb] at nb pb
              rw [rfa, rfb]
              generalize decide (encW (ledW w ps qs) = encW o) = z at *
              simp [f19, dVar, tyIs, dAnd, truth, prim_lenT, cmp_int_ne, put2, ix_w0, ix_w1, len_ws, len_bs, na, nb, pa, ra, ca, pb, rb, cb, hL, hS]
    · have hj : judge w o (.tup xs) = false := by
        match xs, h2 with
        | [], _ => rfl
        | [_], _ => rfl
        | _ :: _ :: _ :: _, _ => rfl
      have h2' : ¬ (xs.length : Int) = 2 := by omega
      simp [f19, dVar, tyIs, dAnd, truth, prim_lenT, e1, h2', hj]
  | _ => simp [D.val] at va <;> simp [f19, dVar, tyIs, dAnd, truth, judge]
end
end Pw.Lw

set_option Elab.async false
set_option linter.all false
set_option maxRecDepth 100000
set_option maxHeartbeats 1000000
namespace Pw.Lw
open PySem PySem.Spec PyProof.Rows L2 Pw
section
variable {n : Nat} {S : Sto} {C : Nat → List D → Sto → R D}
theorem enumD_eq (xs : List D) : enumD xs = (List.range xs.length).map fun k => D.tup [nD k, xs.getD k .non] := by
  unfold enumD
  apply List.ext_getElem (by simp)
  intro k h1 h2
  have hk : k < xs.length := by simpa using h2
  simp [List.getElem?_eq_getElem hk]
theorem srcEnum_tup (xs : List D) : srcEnum S (.tup xs) = some ⟨(List.range xs.length).map fun k => D.tup [nD k, xs.getD k .non], []⟩ := by
  show some (⟨enumD xs, []⟩ : Src) = _
  rw [enumD_eq]
theorem srcEnum_lst (xs : List D) : srcEnum S (.lst xs) = some ⟨(List.range xs.length).map fun k => D.tup [nD k, xs.getD k .non], []⟩ := by
  show some (⟨enumD xs, []⟩ : Src) = _
  rw [enumD_eq]
theorem slice_w (o : Wb) : slice false (encW o) (some 2) none S = .ok (.tup [nT o.l, nT o.r]) S := (rfl)
theorem s_led_n (ps row : List Nat) (hk : ∀ k ∈ row, k < ps.length) (hl : row.length ≤ 1000) : cl (n + 1) 4 [nT ps, nT row] S = .ok (nT (row.map fun k => ps.getD k 0)) S := by
  have e : nT (row.map fun k => ps.getD k 0) = .tup (row.map fun k => (ps.map nD).getD k .non) := by
    show D.tup _ = _
    congr 1
    rw [List.map_map]
    apply List.map_congr_left
    intro k hk2
    exact (getD_nD ps k (hk k hk2)).symm
  rw [e]
  exact s_led (ps.map nD) row (by simpa using hk) hl
open Classical in
/-- what the judge asks -/
theorem judge_parts (w o : Wb) (ps qs : List Nat) (hf : Full w.ws.length ps) (hq : Full w.bs.length qs) (h1 : w.ws.length = o.ws.length) (h2 : w.bs.length = o.bs.length) :
    encW (ledW w ps qs) = encW o ↔ (∀ k, k < w.ws.length → w.ws.getD k ⟨#[]⟩ = o.ws.getD (ps.getD k 0) ⟨#[]⟩) ∧ (w.l.map (fun k => ps.getD k 0) = o.l ∧ w.r.map (fun k => ps.getD k 0) = o.r) ∧ (∀ k, k < w.bs.length → encB (ledB ps (w.bs.getD k default)) = encB (o.bs.getD (qs.getD k 0) default)) := by
  have hs : ∀ {a b : List Str}, a.map D.str = b.map D.str ↔ a = b := fun {a b} => List.map_inj_right (fun x y h => by injection h)
  have e1 : (D.tup ((ledW w ps qs).ws.map .str) = D.tup (o.ws.map .str)) ↔ ∀ k, k < w.ws.length → w.ws.getD k ⟨#[]⟩ = o.ws.getD (ps.getD k 0) ⟨#[]⟩ := by
    constructor
    · intro h
      injection h with h
      exact ((led_iff hf w.ws o.ws ⟨#[]⟩ rfl).mp (hs.mp h)).2
    · intro h
      exact congrArg D.tup (hs.mpr ((led_iff hf w.ws o.ws ⟨#[]⟩ rfl).mpr ⟨h1.symm, h⟩))
  have e2 : (D.tup ((ledW w ps qs).bs.map encB) = D.tup (o.bs.map encB)) ↔ ∀ k, k < w.bs.length → encB (ledB ps (w.bs.getD k default)) = encB (o.bs.getD (qs.getD k 0) default) := by
    have r : (ledW w ps qs).bs.map encB = (List.range qs.length).map fun j => (w.bs.map fun b => encB (ledB ps b)).getD (qs.idxOf j) (encB (ledB ps default)) := by
      show ((List.range qs.length).map _).map encB = _
      rw [List.map_map]
      apply List.map_congr_left
      intro j _
      show encB (ledB ps (w.bs.getD (qs.idxOf j) default)) = _
      simp only [List.getD_eq_getElem?_getD, List.getElem?_map]
      cases w.bs[qs.idxOf j]? <;> rfl
    have li := led_iff hq (w.bs.map fun b => encB (ledB ps b)) (o.bs.map encB) (encB (ledB ps default)) (by simp)
    rw [← r] at li
    have g1 : ∀ k, k < w.bs.length → (w.bs.map fun b => encB (ledB ps b)).getD k (encB (ledB ps default)) = encB (ledB ps (w.bs.getD k default)) := by
      intro k hk
      simp [List.getD_eq_getElem?_getD, List.getElem?_eq_getElem hk]
    have g2 : ∀ k, k < w.bs.length → (o.bs.map encB).getD (qs.getD k 0) (encB (ledB ps default)) = encB (o.bs.getD (qs.getD k 0) default) := by
      intro k hk
      have := hq.get_lt hk
      rw [h2] at this
      rw [List.getD_eq_getElem?_getD, List.getElem?_map, List.getElem?_eq_getElem this, List.getD_eq_getElem?_getD (l := o.bs), List.getElem?_eq_getElem this]
      rfl
    constructor
    · intro h k hk
      injection h with h
      have := (li.mp h).2 k hk
      rw [g1 k hk, g2 k hk] at this
      exact this
    · intro h
      exact congrArg D.tup (li.mpr ⟨by simp [h2], fun k hk => by rw [g1 k hk, g2 k hk]; exact h k hk⟩)
  rw [← e1, ← e2]
  constructor
  · intro h
    have h : D.tup [_, _, _, _] = D.tup [_, _, _, _] := h
    injection h with h
    injection h with a1 h
    injection h with a2 h
    injection h with a3 h
    injection h with a4 h
    exact ⟨a1, ⟨nT_inj a3, nT_inj a4⟩, a2⟩
  · rintro ⟨a1, ⟨a3, a4⟩, a2⟩
    show D.tup [_, _, _, _] = D.tup [_, _, _, _]
    rw [a1, a2, show (ledW w ps qs).l = o.l from a3, show (ledW w ps qs).r = o.r from a4]
end
end Pw.Lw

set_option Elab.async false
set_option linter.all false
set_option maxRecDepth 100000
set_option maxHeartbeats 1000000
namespace Pw.Lw
open PySem PySem.Spec PyProof.Rows L2 Pw
section
variable {n : Nat} {S : Sto} {C : Nat → List D → Sto → R D}
open Classical in
theorem isl_kinds {w o : Wb} {ps : List Nat} {B Vv : D} (hf : Full w.ws.length ps) (hw : w.ws.length ≤ 900) (h1 : w.ws.length = o.ws.length) :
    compLoop (.tu [(.n 5), (.n 6)]) [5, 6] ⟨(List.range w.ws.length).map fun k => D.tup [nD k, (w.ws.map .str).getD k .non], []⟩ [some (encW w), some (encW o), some Vv, some (nT ps), some B, none, none, none, none, none, none, none] (denT C Gn none) (den C Gn (.cmp .eq (.v 6) (.ix (.ix (.v 1) (.k (.int 0))) (.ix (.v 3) (.v 5))))).v ((List.range w.ws.length).map fun k => D.tup [nD k, (w.ws.map .str).getD k .non]) [] S = .ok ((List.range w.ws.length).map fun k => .bl (decide (w.ws.getD k ⟨#[]⟩ = o.ws.getD (ps.getD k 0) ⟨#[]⟩))) S := by
  have z := comp_map (tg := .tu [(.n 5), (.n 6)]) (own := [5, 6]) (src := ⟨(List.range w.ws.length).map fun k => D.tup [nD k, (w.ws.map .str).getD k .non], []⟩) (e0 := [some (encW w), some (encW o), some Vv, some (nT ps), some B, none, none, none, none, none, none, none]) (t := denT C Gn none) (elt := (den C Gn (.cmp .eq (.v 6) (.ix (.ix (.v 1) (.k (.int 0))) (.ix (.v 3) (.v 5))))).v) (enc := fun k => D.tup [nD k, (w.ws.map .str).getD k .non]) (g := fun k => .bl (decide (w.ws.getD k ⟨#[]⟩ = o.ws.getD (ps.getD k 0) ⟨#[]⟩))) (stays_nil _ (S := S)) (List.range w.ws.length) [] (by simpa using small (show w.ws.length ≤ 1000 by omega)) (fun k hk => by
    have hk := List.mem_range.mp hk
    have hp := hf.get_lt hk
    refine ⟨[some (encW w), some (encW o), some Vv, some (nT ps), some B, some (nD k), some (.str (w.ws.getD k ⟨#[]⟩)), none, none, none, none, none], ?_, rfl, ?_⟩
    · rw [getD_map' (α := Str) (z := ⟨#[]⟩) .str _ _ hk]
      simp [Tg.put, Tg.puts, seqOf, wipeE]
    · have e1 : Pw.index S (nT ps) (nD k) = some (nD (ps.getD k 0)) := idx_nT (by rw [hf.len]; exact hk)
      have e2 : Pw.index S (.tup (o.ws.map .str)) (nD (ps.getD k 0)) = some (.str (o.ws.getD (ps.getD k 0) ⟨#[]⟩)) := by
        rw [← getD_map' (α := Str) (z := ⟨#[]⟩) .str _ _ (by rw [← h1]; exact hp)]
        exact idx_t (by rw [List.length_map, ← h1]; exact hp)
      have e3 := cmp_nb_eq (S := S) (a := .str (w.ws.getD k ⟨#[]⟩)) (b := .str (o.ws.getD (ps.getD k 0) ⟨#[]⟩)) rfl rfl (by simp [D.dep])
      generalize w.ws.getD k ⟨#[]⟩ = x1 at *
      generalize o.ws.getD (ps.getD k 0) ⟨#[]⟩ = x2 at *
      simp only [v_cmp, v_ix, v_v, v_k, dVar, List.getElem?_cons_succ, List.getElem?_cons_zero, R.bind_ok, ix_w0, R.opt_some, e1, e2, e3, Option.map_some]
      congr 2
      simp)
  simpa using z
theorem isl_moved {w : Wb} {ps : List Nat} {O B Vv : D} {x5 x6 : Option D} (hf : Full w.ws.length ps) (ok : w.Ok) :
    compLoop (.tu [(.n 7), (.n 8), (.n 9)]) [7, 8, 9] ⟨w.bs.map encB, []⟩ [some (encW w), some O, some Vv, some (nT ps), some B, x5, x6, none, none, none, none, none] (denT (callN Fs Gn (n + 1)) Gn none) (den (callN Fs Gn (n + 1)) Gn (.tup [(.v 7), (.call 4 [(.v 3), (.v 8)]), (.call 4 [(.v 3), (.v 9)])])).v (w.bs.map encB) [] S = .ok (w.bs.map fun b => encB (ledB ps b)) S := by
  have z := comp_map (tg := .tu [(.n 7), (.n 8), (.n 9)]) (own := [7, 8, 9]) (src := ⟨w.bs.map encB, []⟩) (e0 := [some (encW w), some O, some Vv, some (nT ps), some B, x5, x6, none, none, none, none, none]) (t := denT (callN Fs Gn (n + 1)) Gn none) (elt := (den (callN Fs Gn (n + 1)) Gn (.tup [(.v 7), (.call 4 [(.v 3), (.v 8)]), (.call 4 [(.v 3), (.v 9)])])).v) (enc := encB) (g := fun b => encB (ledB ps b)) (stays_nil _ (S := S)) w.bs [] (by have := ok.bs; simpa using small (show w.bs.length ≤ 1000 by omega)) (fun b hb => by
    have hB := ok.b b hb
    refine ⟨[some (encW w), some O, some Vv, some (nT ps), some B, x5, x6, some (.str b.w), some (nT b.i), some (nT b.o), none, none], ?_, rfl, ?_⟩
    · simp [encB, Tg.put, Tg.puts, seqOf, wipeE]
    · have l1 := s_led_n (n := n) (S := S) ps b.i (fun k hk => by rw [hf.len]; exact hB.1.2 k hk) (by omega)
      have l2 := s_led_n (n := n) (S := S) ps b.o (fun k hk => by rw [hf.len]; exact hB.2.2 k hk) (by omega)
      simp only [cl] at l1 l2
      simp only [v_tup, ds_cons, ds_nil, v_v, v_call, dVar, List.getElem?_cons_succ, List.getElem?_cons_zero, R.bind_ok, l1, l2]
      exact tupsz (by simp))
  simpa using z
end
end Pw.Lw

set_option Elab.async false
set_option linter.all false
set_option maxRecDepth 100000
set_option maxHeartbeats 1000000
namespace Pw.Lw
open PySem PySem.Spec PyProof.Rows L2 Pw
section
variable {n : Nat} {S : Sto} {C : Nat → List D → Sto → R D}
open Classical in
theorem isl_boxes {w o : Wb} {ps qs : List Nat} {A Vv M : D} {x5 x6 x7 x8 x9 : Option D} (hq : Full w.bs.length qs) (hw : w.bs.length ≤ 900) (h1 : w.bs.length = o.bs.length) :
    compLoop (.tu [(.n 5), (.n 11)]) [5, 11] ⟨(List.range w.bs.length).map fun k => D.tup [nD k, (w.bs.map fun b => encB (ledB ps b)).getD k .non], []⟩ [some (encW w), some (encW o), some Vv, some A, some (nT qs), x5, x6, x7, x8, x9, some M, none] (denT C Gn none) (den C Gn (.cmp .eq (.v 11) (.ix (.ix (.v 1) (.k (.int 1))) (.ix (.v 4) (.v 5))))).v ((List.range w.bs.length).map fun k => D.tup [nD k, (w.bs.map fun b => encB (ledB ps b)).getD k .non]) [] S = .ok ((List.range w.bs.length).map fun k => .bl (decide (encB (ledB ps (w.bs.getD k default)) = encB (o.bs.getD (qs.getD k 0) default)))) S := by
  have z := comp_map (tg := .tu [(.n 5), (.n 11)]) (own := [5, 11]) (src := ⟨(List.range w.bs.length).map fun k => D.tup [nD k, (w.bs.map fun b => encB (ledB ps b)).getD k .non], []⟩) (e0 := [some (encW w), some (encW o), some Vv, some A, some (nT qs), x5, x6, x7, x8, x9, some M, none]) (t := denT C Gn none) (elt := (den C Gn (.cmp .eq (.v 11) (.ix (.ix (.v 1) (.k (.int 1))) (.ix (.v 4) (.v 5))))).v) (enc := fun k => D.tup [nD k, (w.bs.map fun b => encB (ledB ps b)).getD k .non]) (g := fun k => .bl (decide (encB (ledB ps (w.bs.getD k default)) = encB (o.bs.getD (qs.getD k 0) default)))) (stays_nil _ (S := S)) (List.range w.bs.length) [] (by simpa using small (show w.bs.length ≤ 1000 by omega)) (fun k hk => by
    have hk := List.mem_range.mp hk
    have hp := hq.get_lt hk
    refine ⟨[some (encW w), some (encW o), some Vv, some A, some (nT qs), some (nD k), x6, x7, x8, x9, some M, some (encB (ledB ps (w.bs.getD k default)))], ?_, rfl, ?_⟩
    · rw [getD_map' (α := Bx) (z := default) (fun b => encB (ledB ps b)) _ _ hk]
      simp [Tg.put, Tg.puts, seqOf, wipeE]
    · have e1 : Pw.index S (nT qs) (nD k) = some (nD (qs.getD k 0)) := idx_nT (by rw [hq.len]; exact hk)
      have e2 : Pw.index S (.tup (o.bs.map encB)) (nD (qs.getD k 0)) = some (encB (o.bs.getD (qs.getD k 0) default)) := by
        rw [← getD_map' (α := Bx) (z := default) encB _ _ (by rw [← h1]; exact hp)]
        exact idx_t (by rw [List.length_map, ← h1]; exact hp)
      have e3 := cmp_nb_eq (S := S) (nb_encB (ledB ps (w.bs.getD k default))) (nb_encB (o.bs.getD (qs.getD k 0) default)) (by have := dep_encB (ledB ps (w.bs.getD k default)); omega)
      generalize encB (ledB ps (w.bs.getD k default)) = x1 at *
      generalize encB (o.bs.getD (qs.getD k 0) default) = x2 at *
      simp only [v_cmp, v_ix, v_v, v_k, dVar, List.getElem?_cons_succ, List.getElem?_cons_zero, R.bind_ok, ix_w1, R.opt_some, e1, e2, e3, Option.map_some])
  simpa using z
theorem all_range (m : Nat) (p : Nat → Prop) [∀ k, Decidable (p k)] : ((List.range m).all fun k => decide (p k)) = true ↔ ∀ k, k < m → p k := by
  simp [List.all_eq_true]
open Classical in
theorem judge_eq (w o : Wb) (ps qs : List Nat) (h1 : w.ws.length = o.ws.length) (h2 : w.bs.length = o.bs.length) (oa : ordV w.ws.length (nT ps) = true) (ob : ordV w.bs.length (nT qs) = true) : judge w o (.tup [nT ps, nT qs]) = decide (encW (ledW w ps qs) = encW o) := by
  show (decide (w.ws.length = o.ws.length) && decide (w.bs.length = o.bs.length) && ordV w.ws.length (nT ps) && ordV w.bs.length (nT qs) && decide (encW (ledW w (natsOf (nT ps)) (natsOf (nT qs))) = encW o)) = _
  rw [oa, ob, natsOf_nT, natsOf_nT]
  simp [h1, h2]
open Classical in
theorem cmp_nb_ne {a b : D} (h1 : D.nb a = true) (h2 : D.nb b = true) (hd : D.dep a ≤ 60) : cmpop .ne a b S = some (!decide (a = b)) := by
  have e := deq_nb (S := S) h1 h2 hd
  simp only [cmpop, e]
  rfl
end
end Pw.Lw

set_option Elab.async false
set_option linter.all false
set_option maxRecDepth 100000
set_option maxHeartbeats 1000000
namespace Pw.Lw
open PySem PySem.Spec PyProof.Rows L2 Pw
section
variable {n : Nat} {S : Sto} {C : Nat → List D → Sto → R D}
def isT (m : Nat) (d : D) : Bool := match tupL d with | some xs => decide (xs.length = m) | none => false
open Classical in
theorem s_isl (w o : Wb) (ok : w.Ok) (oo : o.Ok) (v : D) (hv : VOk v) : cl (n + 6) 5 [encW w, encW o, v] S = .ok (.bl (judge w o v)) S := by
  show callN Fs Gn (n + 6) 5 _ S = _
  rw [call_eq (F := f5) rfl rfl]
  obtain ⟨va, vp⟩ := hv
  have c1 := cmp_int_ne (S := S) (w.ws.length : Int) (o.ws.length : Int)
  have c2 := cmp_int_ne (S := S) (w.bs.length : Int) (o.bs.length : Int)
  have t2 := s_tup2 (n := n + 4) (S := S) 2 v va
  have t2' : callN Fs Gn (n + 5) 2 [.int 2, v] S = .ok (.bl (isT 2 v)) S := t2
  by_cases h1 : w.ws.length = o.ws.length
  · have h1' : (w.ws.length : Int) = (o.ws.length : Int) := by omega
    by_cases h2 : w.bs.length = o.bs.length
    · have h2' : (w.bs.length : Int) = (o.bs.length : Int) := by omega
      rw [decide_eq_true h1'] at c1
      rw [decide_eq_true h2'] at c2
      cases hh : isT 2 v with
      | false =>
        rw [hh] at t2'
        have hj : judge w o v = false := by
          match v, hh with
          | .tup [a, b], hh => cases hh
          | .tup [], _ => rfl
          | .tup [_], _ => rfl
          | .tup (_ :: _ :: _ :: _), _ => rfl
          | .lst _, _ => rfl
          | .non, _ => rfl
          | .bl _, _ => rfl
          | .int _, _ => rfl
          | .str _, _ => rfl
          | .dct _ _, _ => rfl
          | .ref _, _ => rfl
        simp [f5, dVar, ix_w0, ix_w1, len_ws, len_bs, c1, c2, t2', hj]
      | true =>
        rw [hh] at t2'
        obtain ⟨a, b, rfl⟩ : ∃ a b, v = .tup [a, b] := by
          match v, hh with
          | .tup [a, b], _ => exact ⟨a, b, rfl⟩
          | .tup (_ :: _ :: _ :: _), hh => simp [isT, tupL] at hh
        have ha := vp _ rfl a (by simp)
        have hb := vp _ rfl b (by simp)
        have oa := s_orderV (n := n + 2) (S := S) a ha.1 (fun xs hx => ⟨(ha.2 xs hx).1, by have := (ha.2 xs hx).2; omega⟩) w.ws.length (by have := ok.ws; omega)
        have ob := s_orderV (n := n + 2) (S := S) b hb.1 (fun xs hx => ⟨(hb.2 xs hx).1, by have := (hb.2 xs hx).2; omega⟩) w.bs.length (by have := ok.bs; omega)
        simp only [cl] at oa ob
        cases ea : ordV w.ws.length a with
        | false =>
          rw [ea] at oa
          have hj : judge w o (.tup [a, b]) = false := by
            show (_ && ordV w.ws.length a && _ && _) = false
            rw [ea]; simp
          simp [f5, dVar, ix_w0, ix_w1, len_ws, len_bs, c1, c2, t2', put2, oa, hj]
        | true =>
          cases eb : ordV w.bs.length b with
          | false =>
            rw [ea] at oa
            rw [eb] at ob
            have hj : judge w o (.tup [a, b]) = false := by
              show (_ && ordV w.bs.length b && _) = false
              rw [eb]; simp
            simp [f5, dVar, ix_w0, ix_w1, len_ws, len_bs, c1, c2, t2', put2, oa, ob, hj]
          | true =>
            obtain ⟨ps, rfl, fa⟩ := ordV_full ea
            obtain ⟨qs, rfl, fb⟩ := ordV_full eb
            rw [judge_eq w o ps qs h1 h2 ea eb]
            rw [ea] at oa
            rw [eb] at ob
            have hJ := judge_parts w o ps qs fa fb h1 h2
            have hk := isl_kinds (C := callN Fs Gn (n + 5)) (S := S) (w := w) (o := o) (ps := ps) (B := nT qs) (Vv := .tup [nT ps, nT qs]) fa ok.ws h1
            have mk := mkL_f (S := S) (xs := (List.range w.ws.length).map fun k => D.bl (decide (w.ws.getD k ⟨#[]⟩ = o.ws.getD (ps.getD k 0) ⟨#[]⟩))) (small (by have := ok.ws; simp; omega))
            have ak := prim_all (S := S) (bx := false) (fun k => decide (w.ws.getD k ⟨#[]⟩ = o.ws.getD (ps.getD k 0) ⟨#[]⟩)) (List.range w.ws.length)
            have sk := srcEnum_tup (S := S) (w.ws.map .str)
            rw [List.length_map] at sk
            have l1 := s_led_n (n := n + 4) (S := S) ps w.l (fun k hk => by rw [fa.len]; exact ok.l.2 k hk) (by have := ok.l.1; omega)
            have l2 := s_led_n (n := n + 4) (S := S) ps w.r (fun k hk => by rw [fa.len]; exact ok.r.2 k hk) (by have := ok.r.1; omega)
            simp only [cl] at l1 l2
            have tz := tupsz (S := S) (xs := [nT (w.l.map fun k => ps.getD k 0), nT (w.r.map fun k => ps.getD k 0)]) (by simp)
            have cs := cmp_nb_ne (S := S) (a := .tup [nT (w.l.map fun k => ps.getD k 0), nT (w.r.map fun k => ps.getD k 0)]) (b := .tup [nT o.l, nT o.r]) (by simp [D.nb, D.nbs, nb_nT]) (by simp [D.nb, D.nbs, nb_nT]) (by have q1 := dep_nT (w.l.map fun k => ps.getD k 0); have q2 := dep_nT (w.r.map fun k => ps.getD k 0); simp only [D.dep, D.deps]; omega)
            have ce : (D.tup [nT (w.l.map fun k => ps.getD k 0), nT (w.r.map fun k => ps.getD k 0)] = D.tup [nT o.l, nT o.r]) ↔ (w.l.map (fun k => ps.getD k 0) = o.l ∧ w.r.map (fun k => ps.getD k 0) = o.r) := by
              constructor
              · intro h
                injection h with h
                injection h with a1 h
                injection h with a2 h
                exact ⟨nT_inj a1, nT_inj a2⟩
              · rintro ⟨a1, a2⟩
                rw [a1, a2]
            have hm := isl_moved (n := n + 4) (S := S) (w := w) (ps := ps) (O := encW o) (B := nT qs) (Vv := .tup [nT ps, nT qs]) (x5 := none) (x6 := none) fa ok
            have mm := mkL_f (S := S) (xs := w.bs.map fun b => encB (ledB ps b)) (small (by have := ok.bs; simp; omega))
            have sm := srcEnum_lst (S := S) (w.bs.map fun b => encB (ledB ps b))
            rw [List.length_map] at sm
            have hx := isl_boxes (C := callN Fs Gn (n + 5)) (S := S) (w := w) (o := o) (ps := ps) (qs := qs) (A := nT ps) (Vv := .tup [nT ps, nT qs]) (M := .lst (w.bs.map fun b => encB (ledB ps b))) (x5 := none) (x6 := none) (x7 := none) (x8 := none) (x9 := none) fb ok.bs h2
            have mx := mkL_f (S := S) (xs := (List.range w.bs.length).map fun k => D.bl (decide (encB (ledB ps (w.bs.getD k default)) = encB (o.bs.getD (qs.getD k 0) default)))) (small (by have := ok.bs; simp; omega))
            have ax := prim_all (S := S) (bx := false) (fun k => decide (encB (ledB ps (w.bs.getD k default)) = encB (o.bs.getD (qs.getD k 0) default))) (List.range w.bs.length)
            rw [← all_range, ← ce, ← all_range] at hJ
            generalize ((List.range w.ws.length).all fun k => decide (w.ws.getD k ⟨#[]⟩ = o.ws.getD (ps.getD k 0) ⟨#[]⟩)) = z1 at *
            generalize ((List.range w.bs.length).all fun k => decide (encB (ledB ps (w.bs.getD k default)) = encB (o.bs.getD (qs.getD k 0) default))) = z3 at *
            generalize ((List.range w.ws.length).map fun k => D.bl (decide (w.ws.getD k ⟨#[]⟩ = o.ws.getD (ps.getD k 0) ⟨#[]⟩))) = K1 at *
            generalize ((List.range w.bs.length).map fun k => D.bl (decide (encB (ledB ps (w.bs.getD k default)) = encB (o.bs.getD (qs.getD k 0) default)))) = K3 at *
            have hd : decide (encW (ledW w ps qs) = encW o) = (z1 && decide (D.tup [nT (w.l.map fun k => ps.getD k 0), nT (w.r.map fun k => ps.getD k 0)] = D.tup [nT o.l, nT o.r]) && z3) := by
              by_cases hz : encW (ledW w ps qs) = encW o
              · have := hJ.mp hz
                rw [decide_eq_true hz, this.1, decide_eq_true this.2.1, this.2.2]; rfl
              · rw [decide_eq_false hz]
                cases z1 <;> cases z3 <;> simp at hJ ⊢
                exact fun a b => hz (hJ.mpr ⟨a, b⟩)
            rw [hd]
            have sz : 2 ≤ sizeLine := small (by omega)
            generalize decide (D.tup [nT (w.l.map fun k => ps.getD k 0), nT (w.r.map fun k => ps.getD k 0)] = D.tup [nT o.l, nT o.r]) = z2 at *
            cases z1 with
            | false => simp [-List.map_map, -List.getD_eq_getElem?_getD, f5, dVar, ix_w0, ix_w1, len_ws, len_bs, c1, c2, t2', put2, oa, ob, sk, hk, mk, ak]
            | true =>
              cases z2 with
              | false => simp [-List.map_map, -List.getD_eq_getElem?_getD, f5, dVar, ix_w0, ix_w1, ix_w2, ix_w3, len_ws, len_bs, c1, c2, t2', put2, oa, ob, sk, hk, mk, ak, l1, l2, sz, slice_w, asInt, cs]
              | true => simp [-List.map_map, -List.getD_eq_getElem?_getD, f5, dVar, ix_w0, ix_w1, ix_w2, ix_w3, len_ws, len_bs, c1, c2, t2', put2, put1, oa, ob, sk, hk, mk, ak, l1, l2, sz, slice_w, asInt, cs, src1, guardOf, hm, mm, sm, hx, mx, ax]
    · have h2' : ¬ (w.bs.length : Int) = (o.bs.length : Int) := by omega
      have hj : judge w o v = false := by
        unfold judge
        split
        · simp [h2]
        · rfl
      rw [decide_eq_true h1'] at c1
      rw [decide_eq_false h2'] at c2
      simp [f5, dVar, ix_w0, ix_w1, len_ws, len_bs, c1, c2, hj]
  · have h1' : ¬ (w.ws.length : Int) = (o.ws.length : Int) := by omega
    have hj : judge w o v = false := by
      unfold judge
      split
      · simp [h1]
      · rfl
    rw [decide_eq_false h1'] at c1
    simp [f5, dVar, ix_w0, ix_w1, len_ws, len_bs, c1, hj]
end
end Pw.Lw

set_option Elab.async false
set_option linter.all false
set_option maxRecDepth 100000
set_option maxHeartbeats 1000000
namespace Pw.Lw
open PySem PySem.Spec PyProof.Rows L2 Pw
section
variable {n : Nat} {S : Sto} {C : Nat → List D → Sto → R D}
/-- the jar at j was drawn from, and nothing else has changed -/
structure Jw (j : Nat) (S S2 : Sto) : Prop where
  len : S2.length = S.length
  jar : ∃ a b, S2[j]? = some (.lst [.int a, .int b])
  old : ∀ l, l ≠ j → S2[l]? = S[l]?
theorem Jw.refl {j : Nat} {a b : Int} (h : S[j]? = some (.lst [.int a, .int b])) : Jw j S S := ⟨rfl, ⟨a, b, h⟩, fun _ _ => rfl⟩
theorem Jw.trans {j : Nat} {S2 S3 : Sto} (h : Jw j S S2) (h2 : Jw j S2 S3) : Jw j S S3 := ⟨h2.len.trans h.len, h2.jar, fun l hl => (h2.old l hl).trans (h.old l hl)⟩
theorem Jw.set {j : Nat} {a b : Int} (h : j < S.length) : Jw j S (S.set j (.lst [.int a, .int b])) := ⟨by simp, ⟨a, b, List.getElem?_set_self h⟩, fun l hl => List.getElem?_set_ne (Ne.symm hl)⟩
/-- one draw -/
theorem drawn {j : Nat} {S0 : Sto} (h : Jw j S0 S) {many : Nat} (hm : 0 < many) (hm2 : many < 1073741824) : ∃ (d : Nat) (S2 : Sto), cl (n + 1) 7 [.ref j, .int many] S = .ok (.int d) S2 ∧ d < many ∧ Jw j S S2 := by
  obtain ⟨a, b, hj⟩ := h.jar
  obtain ⟨d, a2, b2, h1, h2, h3⟩ := s_drawn (n := n) (many := many) hj (by omega) (by omega)
  exact ⟨d.toNat, _, by rw [h1, Int.toNat_of_nonneg h2], by omega, Jw.set (List.getElem?_eq_some_iff.mp hj).1⟩
end
end Pw.Lw

set_option Elab.async false
set_option linter.all false
set_option maxRecDepth 100000
set_option maxHeartbeats 1000000
namespace Pw.Lw
open PySem PySem.Spec PyProof.Rows L2 Pw
/-- a comprehension with its invariant: index, rows so far, store -/
theorem comp_acc {α : Type} {tg : Tg} {own : List Nat} {src : Src} {e0 : Ev} {t : Ev → Sto → R Bool} {elt : Ev → Sto → R D} {enc : α → D} (Inv : Nat → List D → Sto → Prop) (hs : ∀ i acc S, Inv i acc S → src.stays S) : ∀ (ys : List α) (i : Nat) (acc : List D) (S : Sto), acc.length + ys.length ≤ sizeLine → Inv i acc S →
    (∀ i acc S, ∀ y ∈ ys, Inv i acc S → ∃ e1 d S', Tg.put tg (enc y) S (wipeE e0 own) = some e1 ∧ t e1 S = .ok true S ∧ elt e1 S = .ok d S' ∧ Inv (i + 1) (acc ++ [d]) S') →
    ∃ xs S', compLoop tg own src e0 t elt (ys.map enc) acc S = .ok xs S' ∧ xs.length = acc.length + ys.length ∧ Inv (i + ys.length) xs S'
  | [], i, acc, S, _, hi, _ => by
    refine ⟨acc, S, ?_, rfl, hi⟩
    unfold compLoop
    simp only [List.map_nil]
    rw [if_pos (hs i acc S hi)]
  | y :: ys, i, acc, S, hl, hi, h => by
    obtain ⟨e1, d, S1, h1, h2, h3, h5⟩ := h i acc S y (List.mem_cons_self ..) hi
    rw [List.length_cons] at hl
    obtain ⟨xs, S', r1, r2, r4⟩ := comp_acc Inv hs ys (i + 1) (acc ++ [d]) S1 (by rw [List.length_append, List.length_singleton]; omega) h5 fun i acc S z hz => h i acc S z (List.mem_cons_of_mem _ hz)
    refine ⟨xs, S', ?_, by rw [r2, List.length_append, List.length_singleton, List.length_cons]; omega, by rw [List.length_cons]; rw [show i + (ys.length + 1) = i + 1 + ys.length by omega]; exact r4⟩
    rw [List.map_cons]
    unfold compLoop
    rw [if_pos (hs i acc S hi), h1]
    simp only
    rw [h2]
    simp only [R.nox_ok, R.bind_ok, if_true]
    rw [h3]
    simp only [R.nox_ok, R.bind_ok]
    rw [if_pos (by omega)]
    exact r1
end Pw.Lw

set_option Elab.async false
set_option linter.all false
set_option maxRecDepth 100000
set_option maxHeartbeats 1000000
namespace Pw.Lw
open PySem PySem.Spec PyProof.Rows L2 Pw
section
variable {n : Nat} {S : Sto} {C : Nat → List D → Sto → R D}
theorem p_popAt {bx : Bool} {j : Nat} {xs : List D} {k : Nat} (h : S[j]? = some (.lst xs)) (hk : k < xs.length) (hl : xs.length ≤ 1000) : prim .popAt bx [.ref j, .int k] S = .ok (xs.getD k .non) (S.set j (.lst (xs.eraseIdx k))) := by
  show dPopAt (.ref j) (.int k) S = _
  unfold dPopAt
  simp only [h]
  rw [show ixN xs.length (k : Int) = some k from by unfold ixN; rw [if_pos (by omega), if_pos (by omega), Int.toNat_natCast]]
  simp only [R.o_some]
  rw [List.getElem?_eq_getElem hk]
  simp only [R.o_some]
  rw [if_pos (by omega)]
  congr 1
  rw [List.getD_eq_getElem?_getD, List.getElem?_eq_getElem hk]
  rfl
theorem p_lenR {bx : Bool} {j : Nat} {xs : List D} (h : S[j]? = some (.lst xs)) : prim .len bx [.ref j] S = .ok (.int xs.length) S := by
  show pLen S (.ref j) = _
  unfold pLen
  rw [rd_ref, h]
  rfl
theorem erase_perm : ∀ {ls : List Nat} {k : Nat}, k < ls.length → (ls.getD k 0 :: ls.eraseIdx k).Perm ls
  | [], _, h => by cases h
  | x :: ls, 0, _ => List.Perm.refl _
  | x :: ls, k + 1, h => (List.Perm.swap ..).trans ((erase_perm (ls := ls) (k := k) (by simpa using h)).cons x)
theorem map_erase : ∀ (ls : List Nat) (k : Nat), (ls.map nD).eraseIdx k = (ls.eraseIdx k).map nD
  | [], _ => rfl
  | _ :: _, 0 => rfl
  | x :: ls, k + 1 => by
    show nD x :: (ls.map nD).eraseIdx k = nD x :: (ls.eraseIdx k).map nD
    rw [map_erase ls k]
end
end Pw.Lw

set_option Elab.async false
set_option linter.all false
set_option maxRecDepth 100000
set_option maxHeartbeats 1000000
namespace Pw.Lw
open PySem PySem.Spec PyProof.Rows L2 Pw
section
variable {n : Nat} {S : Sto} {C : Nat → List D → Sto → R D}
/-- inside a call: the jar drawn from, one new list -/
structure Jn (j : Nat) (S S2 : Sto) (xs : List D) : Prop where
  hj : j < S.length
  len : S2.length = S.length + 1
  jar : ∃ a b, S2[j]? = some (.lst [.int a, .int b])
  old : ∀ l, l ≠ j → l < S.length → S2[l]? = S[l]?
  new : S2[S.length]? = some (.lst xs)
theorem Jn.start {j : Nat} {S0 : Sto} (h : Jw j S0 S) (xs : List D) : Jn j S (S ++ [MO.lst xs]) xs := by
  obtain ⟨a, b, hj⟩ := h.jar
  have hl := (List.getElem?_eq_some_iff.mp hj).1
  exact ⟨hl, by simp, ⟨a, b, by rw [List.getElem?_append_left hl]; exact hj⟩, fun l _ hl2 => List.getElem?_append_left hl2, get_last _⟩
theorem Jn.step {j : Nat} {S2 S3 : Sto} {xs : List D} (h : Jn j S S2 xs) (h2 : Jw j S2 S3) : Jn j S S3 xs :=
  ⟨h.hj, h2.len.trans h.len, h2.jar, fun l hl hl2 => (h2.old l hl).trans (h.old l hl hl2), by rw [h2.old _ (by have := h.hj; omega)]; exact h.new⟩
theorem Jn.set {j : Nat} {S2 : Sto} {xs : List D} (h : Jn j S S2 xs) (ys : List D) : Jn j S (S2.set S.length (.lst ys)) ys := by
  have hj := h.hj
  obtain ⟨a, b, hb⟩ := h.jar
  refine ⟨hj, by simp [h.len], ⟨a, b, by rw [List.getElem?_set_ne (by omega)]; exact hb⟩, fun l hl hl2 => by rw [List.getElem?_set_ne (by omega)]; exact h.old l hl hl2, List.getElem?_set_self (by rw [h.len]; omega)⟩
theorem Jn.jw {j : Nat} {S2 : Sto} {xs : List D} (h : Jn j S S2 xs) : Jw j S2 S2 := by
  obtain ⟨a, b, hb⟩ := h.jar
  exact Jw.refl hb
/-- the call's end -/
theorem Jn.close {j : Nat} {S0 S2 : Sto} {xs : List D} {d : D} (h0 : Jw j S0 S) (h : Jn j S S2 xs) (hp : D.pure d = true) : ∃ S3, closeR true S (.ret d S2) = .ok d S3 ∧ Jw j S S3 := by
  have hj := h.hj
  have hl : (S2.take S.length).length = S.length := by rw [List.length_take, h.len]; omega
  have hg : ∀ l, l < S.length → (S2.take S.length)[l]? = S2[l]? := fun l hl => List.getElem?_take_of_lt hl
  refine ⟨S2.take S.length, closeR_pure hp (by rw [h.len]; omega) ?_, ⟨hl, ?_, ?_⟩⟩
  · intro l hl
    obtain ⟨a, b, hb⟩ := h.jar
    by_cases e : l = j
    · subst e
      exact .inr ⟨_, hb, rfl⟩
    · exact .inl (h.old l e hl)
  · obtain ⟨a, b, hb⟩ := h.jar
    exact ⟨a, b, by rw [hg _ hj]; exact hb⟩
  · intro l hl2
    by_cases e : l < S.length
    · rw [hg _ e]; exact h.old l hl2 e
    · rw [List.getElem?_eq_none (by omega), List.getElem?_eq_none (by omega)]
end
end Pw.Lw

set_option Elab.async false
set_option linter.all false
set_option maxRecDepth 100000
set_option maxHeartbeats 1000000
namespace Pw.Lw
open PySem PySem.Spec PyProof.Rows L2 Pw
section
variable {n : Nat} {S : Sto} {X : Xc → Sto → Prop}
/-- the jar -/
def Jr (j : Nat) (S : Sto) : Prop := ∃ a b, S[j]? = some (.lst [.int a, .int b])
theorem Jr.lt {j : Nat} (h : Jr j S) : j < S.length := by
  obtain ⟨a, b, h⟩ := h
  exact (List.getElem?_eq_some_iff.mp h).1
theorem Jr.low {j : Nat} (h : Jr j S) : Low S j := by
  obtain ⟨a, b, h⟩ := h
  exact Low.lst h rfl
theorem Jr.eq {j : Nat} {S2 : Sto} (h : Jr j S) (e : S2[j]? = S[j]?) : Jr j S2 := by
  obtain ⟨a, b, h⟩ := h
  exact ⟨a, b, e.trans h⟩
theorem Jr.push {j : Nat} (h : Jr j S) (m : MO) : Jr j (S ++ [m]) := h.eq (List.getElem?_append_left h.lt)
theorem w_drawn {j : Nat} {many : Int} (h : Jr j S) (hm : 0 < many) (hm2 : many < 1073741824) : Wp (cl (n + 1) 7 [.ref j, .int many] S) (fun d S2 => ∃ k : Nat, d = nD k ∧ (k : Int) < many ∧ Jr j S2 ∧ Fr (· = j) S S2) X := by
  obtain ⟨a, b, hj⟩ := h
  obtain ⟨d, a2, b2, h1, h2, h3⟩ := s_drawn (n := n) (many := many) hj hm hm2
  rw [h1, Wp_ok]
  refine ⟨d.toNat, by rw [nD, Int.toNat_of_nonneg h2], by omega, ⟨a2, b2, List.getElem?_set_self (List.getElem?_eq_some_iff.mp hj).1⟩, Fr.set rfl⟩
theorem w_draw {j : Nat} {many : Int} {Q : D → Sto → Prop} (h : Jr j S) (hm : 0 < many) (hm2 : many < 1073741824) (hq : ∀ (k : Nat) (S2 : Sto), (k : Int) < many → Jr j S2 → Fr (· = j) S S2 → Q (.int k) S2) : Wp (cl (n + 1) 7 [.ref j, .int many] S) Q X := by
  refine (w_drawn h hm hm2).mono ?_ (fun _ _ z => z)
  rintro d S2 ⟨k, rfl, h1, h2, h3⟩
  exact hq k S2 h1 h2 h3
end
end Pw.Lw

set_option Elab.async false
set_option linter.all false
set_option maxRecDepth 100000
set_option maxHeartbeats 1000000
namespace Pw.Lw
open PySem PySem.Spec PyProof.Rows L2 Pw
section
variable {n : Nat} {S : Sto} {X : Xc → Sto → Prop}
def alpha : Str := "abcdefghijklmnopqrstuvwxyz"
def qz (c : Nat) : Str := "qz" ++ ⟨#[c]⟩
theorem alpha_len : alpha.cps.toList.length = 26 := by decide +kernel
theorem qz_nodup : (alpha.cps.toList.map qz).Nodup := by decide +kernel
theorem qz_size (c : Nat) : (⟨#[c]⟩ : Str).length = 1 := rfl
/-- a word that is not there yet -/
theorem free_one {ws : List Str} (h : ws.length < 26) : (alpha.cps.toList.map qz).filter (fun w => !decide (w ∈ ws)) ≠ [] := by
  intro z
  have h1 : (alpha.cps.toList.map qz) ⊆ ws := by
    intro w hw
    have := List.filter_eq_nil_iff.mp z w hw
    simpa using this
  have h2 := nodup_le qz_nodup h1
  rw [List.length_map, alpha_len] at h2
  omega
def frees : List Str := alpha.cps.toList.map qz
def menu : List Str := ["a", "b", "box", "left", "wires", "rule", "f", "g", "boxes", "one", "like", "abcdefgh"]
theorem joined {bx : Bool} {ws : List Str} (h : (ws.map (·.length)).sum ≤ 100000) (hl : ws.length ≤ 100) : prim .join bx [.str "", .lst (ws.map .str)] S = .ok (.str (Txt.join "" ws)) S := by
  show pJoin S (.str "") (.lst (ws.map .str)) = _
  unfold pJoin
  simp only [seq_lst, Option.bind_some, strs_map]
  rw [if_pos]
  have : (Str.ofString "").length = 0 := by decide +kernel
  rw [this]
  omega
theorem w_words {j : Nat} {many : Nat} (h : Jr j S) (hm : many ≤ 20) : Wp (cl (n + 2) 9 [.ref j, .int many] S) (fun d S2 => ∃ ws : List Str, d = .tup (ws.map .str) ∧ ws.length = many ∧ Jr j S2 ∧ Fr (· = j) S S2) X := by
  refine Wp_call (F := f9) rfl rfl ?_
  unfold f9
  rw [WpS_cons]
  simp [-ss_cons, dVar, sizeLine_eq]
  rw [WpS_cons]
  simp [-ss_cons, dVar, sizeLine_eq]
  refine Wp.of_eq (comp_map (enc := fun c => D.str ⟨#[c]⟩) (g := fun c => D.str (qz c)) (stays_nil _) alpha.cps.toList [] (by rw [alpha_len, sizeLine_eq]; decide) fun c hc => ?_) ?_
  · exact ⟨[some (.ref j), some (.int many), _, _, some (.str ⟨#[c]⟩), none, none, none, none], rfl, rfl, by simp [dVar, b_adds, qz_size, sizeLine_eq, qz]; decide +kernel⟩
  rw [List.nil_append]
  refine ⟨by rw [List.length_map, alpha_len]; decide, ?_⟩
  have hmenu : [D.str (Str.ofString "a"), D.str (Str.ofString "b"), D.str (Str.ofString "box"),
              D.str (Str.ofString "left"), D.str (Str.ofString "wires"), D.str (Str.ofString "rule"),
              D.str (Str.ofString "f"), D.str (Str.ofString "g"), D.str (Str.ofString "boxes"),
              D.str (Str.ofString "one"), D.str (Str.ofString "like"), D.str (Str.ofString "abcdefgh")] = menu.map .str := rfl
  have hfree : List.map (fun c => D.str (qz c)) alpha.cps.toList = frees.map .str := by rw [frees, List.map_map]; rfl
  rw [hmenu, hfree]
  rw [WpS_cons]
  have hr := rng1 (j := (many : Int)) (by omega)
  simp [-ss_cons, dVar, sizeLine_eq, hr, -Option.map_eq_some_iff]
  refine WpS_for (fun i e S' => ∃ (ws : List Str) (x6 x7 : Option D), ws.length = i ∧ e = [some (.ref j), some (.int many), some (.lst (menu.map .str)), some (.ref S.length), none, some (.lst (frees.map .str)), x6, x7, none] ∧ Jr j S' ∧ FrG (· = j) S S' ∧ S'[S.length]? = some (.lst (ws.map .str))) (List.range many) 0 _ _ ?_ ?_ ?_
  · exact ⟨[], none, none, rfl, rfl, h.push _, FrG.push _, by simp⟩
  · rintro i e S1 hi ⟨ws, x6, x7, hw, rfl, hj, hf, hn⟩
    refine ⟨stays_nil _, ?_⟩
    simp [-ss_cons]
    rw [WpS_cons]
    simp [-ss_cons, dVar, sizeLine_eq]
    refine w_draw hj (by decide) (by decide) fun k S2 hk hj2 hf2 => ?_
    have hix := (Sq.lst (menu.map .str) (S := S2)).ixm (k := k) (by show k < 12; omega)
    generalize menu[k]'_ = word at hix
    simp [-ss_cons, hix]
    have hlt := h.lt
    rw [WpS_cons]
    refine WpS.join (fun e S' => ∃ x7 : Str, e = [some (.ref j), some (.int many), some (.lst (menu.map .str)), some (.ref S.length), none, some (.lst (frees.map .str)), some (.int i), some (.str x7), none] ∧ Jr j S' ∧ FrG (· = j) S S' ∧ S'[S.length]? = some (.lst (ws.map .str))) ?_ ?_
    · simp [-ss_cons, dVar, sizeLine_eq]
      refine w_draw hj2 (by decide) (by decide) fun k2 S3 hk2 hj3 hf3 => ?_
      have hf3' : FrG (· = j) S S3 := (hf.trans hf2.g).trans hf3.g
      have hn3 : S3[S.length]? = some (MO.lst (ws.map D.str)) := by
        rw [hf3.2 _ (by omega), hf2.2 _ (by omega)]; exact hn
      simp [-ss_cons, nD, c_eqi]
      split
      · rw [WpS_cons]
        simp [-ss_cons, dVar, sizeLine_eq, Pr.kindOk]
        refine w_draw hj3 (by decide) (by decide) fun k3 S4 hk3 hj4 hf4 => ?_
        have hr := rng1 (j := 1 + (k3 : Int)) (by omega) (by omega)
        simp [-ss_cons, nD, b_add, hr]
        refine Wp_comp (fun i acc S' => ∃ us : List Str, us.length = i ∧ (us.map (·.length)).sum = i ∧ acc = us.map .str ∧ Jr j S' ∧ Fr (· = j) S4 S') _ 0 [] S4 (by simp [sizeLine_eq]; omega) ⟨[], rfl, rfl, rfl, hj4, Fr.refl⟩ ?_ ?_
        · rintro q acc S5 hq ⟨us, hu, hv, rfl, hj5, hf5⟩
          refine ⟨stays_nil _, _, rfl, ?_⟩
          simp [tt_none, dVar]
          refine w_draw hj5 (by decide) (by decide) fun k5 S6 hk5 hj6 hf6 => ?_
          have hx := ix_str (S := S6) (z := alpha) (k := k5) (by rw [alpha_len]; omega) (by rw [sizeLine_eq]; decide +kernel)
          generalize alpha.cps.toList[k5]'_ = ch at hx
          rw [show Pw.index S6 (D.str (Str.ofString "abcdefghijklmnopqrstuvwxyz")) (D.int k5) = _ from hx]
          rw [R.opt_some, Wp_ok]
          refine ⟨us ++ [⟨#[ch]⟩], by simp; omega, ?_, by simp, hj6, hf5.trans hf6⟩
          rw [List.map_append, List.sum_append_nat, hv]
          show 0 + q + 1 = _
          omega
        · rintro acc S5 ⟨us, hu, hv, rfl, hj5, hf5⟩
          refine ⟨stays_nil _, ?_⟩
          simp at hu hv
          have hjn := joined (S := S5) (bx := false) (ws := us) (by omega) (by omega)
          simp [hjn]
          refine ⟨by omega, hj5, (hf3'.trans hf4.g).trans hf5.g, ?_⟩
          rw [hf5.2 _ (by omega), hf4.2 _ (by omega)]; exact hn3
      · simp
        exact ⟨hj3, hf3', hn3⟩
    · rintro e S4 ⟨w7, rfl, hj4, hf4, hn4⟩
      rw [WpS_cons]
      simp [-ss_cons, dVar, sizeLine_eq, kd_refl hn4, Pr.kindOk, (Sq.ref hn4).notinS]
      refine Wp.then (Q := fun d S' => S' = S4 ∧ ∃ w : Str, d = .str w) ?_ ?_
      · split
        · simp
          refine Wp.of_eq (comp_filter (enc := D.str) (g := D.str) (p := fun w => !decide (w ∈ ws)) (stays_nil _) frees [] (by rw [frees, List.length_map, alpha_len, sizeLine_eq]; decide) fun w hw => ⟨_, rfl, by simp [tt_some, dVar, (Sq.ref hn4).notinS], fun _ => by simp [dVar]⟩) ?_
          have hne := free_one (ws := ws) (by simp at hi; omega)
          rw [List.nil_append]
          cases hfr : frees.filter (fun w => !decide (w ∈ ws)) with
          | nil => exact absurd hfr hne
          | cons y ys =>
            have hl : (y :: ys).length ≤ frees.length := by rw [← hfr]; exact List.length_filter_le _ _
            have h26 : frees.length = 26 := by rw [frees, List.length_map, alpha_len]
            have hix := (Sq.lst ((y :: ys).map D.str) (S := S4)).ixm (k := 0) (by simp)
            rw [h26] at hl
            simp [sizeLine_eq] at hix hl ⊢
            simp [hix]
            omega
        · simp
      · rintro d S5 ⟨rfl, w, rfl⟩
        simp [kd_refl hn4]
        rw [p_app hn4 (by rw [sizeLine_eq, List.length_map]; simp at hi; omega)]
        simp
        refine ⟨ws ++ [w], by simp; omega, hj4.eq (List.getElem?_set_ne (by omega)), hf4.setNew (Nat.le_refl _), ?_⟩
        rw [List.getElem?_set_self (List.getElem?_eq_some_iff.mp hn4).1]
        simp
  · rintro e S1 ⟨ws, x6, x7, hw, rfl, hj1, hf1, hn1⟩
    refine ⟨stays_nil _, ?_⟩
    rw [WpS_cons]
    simp [-ss_cons, dVar, (Sq.ref hn1).tuple]
    refine Wp_close hf1 (fun l hl hA => hA ▸ hj1.low) ?_ fun hF hg => ⟨ws, rfl, by simpa using hw, ?_, hF⟩
    · show D.pures _ = true
      exact pures_map (fun _ => rfl) ws
    · exact hj1.eq (hg _ h.lt)
end
end Pw.Lw

set_option Elab.async false
set_option linter.all false
set_option maxRecDepth 100000
set_option maxHeartbeats 1000000
namespace Pw.Lw
open PySem PySem.Spec PyProof.Rows L2 Pw
section
variable {n : Nat} {S : Sto} {X : Xc → Sto → Prop}
theorem w_words' {j : Nat} {many : Nat} {Q : D → Sto → Prop} (h : Jr j S) (hm : many ≤ 20) (hq : ∀ (ws : List Str) (S2 : Sto), ws.length = many → Jr j S2 → Fr (· = j) S S2 → Q (.tup (ws.map .str)) S2) : Wp (cl (n + 2) 9 [.ref j, .int many] S) Q X := by
  refine (w_words (X := X) (n := n) h hm).mono ?_ (fun _ _ z => z)
  rintro d S2 ⟨ws, rfl, h1, h2, h3⟩
  exact hq ws S2 h1 h2 h3
/-- a sort of boxes -/
structure So where
  w : Str
  i : List Str
  o : List Str
def sT (l : List Str) : D := .tup (l.map .str)
def encSo (s : So) : D := .tup [.str s.w, sT s.i, sT s.o]
def So.Ok (s : So) : Prop := s.i.length ≤ 4 ∧ s.o.length ≤ 4
theorem pure_sT (l : List Str) : D.pure (sT l) = true := by
  show D.pures _ = true
  exact pures_map (fun _ => rfl) l
theorem pure_encSo (s : So) : D.pure (encSo s) = true := by
  show D.pures _ = true
  simp [D.pures, D.pure, pure_sT]
theorem w_stock {j : Nat} {Q : D → Sto → Prop} (h : Jr j S) (hq : ∀ (st : List So) (ks : List Str) (S2 : Sto), st ≠ [] → st.length ≤ 5 → ks ≠ [] → ks.length ≤ 3 → (∀ s ∈ st, s.Ok) → Jr j S2 → Fr (· = j) S S2 → Q (.tup [.tup (st.map encSo), sT ks]) S2) : Wp (cl (n + 3) 10 [.ref j] S) Q X := by
  refine Wp_call (F := f10) rfl rfl ?_
  unfold f10
  have hlt := h.lt
  rw [WpS_cons]
  simp [-ss_cons, dVar, sizeLine_eq]
  refine w_draw h (by decide) (by decide) fun k S1 hk hj1 hf1 => ?_
  simp [-ss_cons, b_add]
  rw [show (1 + (k : Int)) = ((1 + k : Nat) : Int) by omega]
  refine w_words' hj1 (by omega) fun ks S2 hks hj2 hf2 => ?_
  rw [WpS_cons]
  simp [-ss_cons, dVar, sizeLine_eq]
  rw [WpS_cons]
  simp [-ss_cons, dVar, sizeLine_eq]
  have hf12 := hf1.trans hf2
  have hl2 : S2.length = S.length := hf12.1
  refine w_draw (hj2.push _) (by decide) (by decide) fun k2 S3 hk2 hj3 hf3 => ?_
  simp [-ss_cons, b_add]
  rw [show (1 + (k2 : Int)) = ((1 + k2 : Nat) : Int) by omega]
  refine w_words' hj3 (by omega) fun ws S4 hws hj4 hf4 => ?_
  simp [-ss_cons]
  have hfG : FrG (· = j) S S4 := (hf12.g.trans (FrG.push _)).trans (hf3.trans hf4).g
  have hn4 : S4[S.length]? = some (.lst []) := by
    rw [hf4.2 _ (by omega), hf3.2 _ (by omega), ← hl2, List.getElem?_append_right (Nat.le_refl _), Nat.sub_self]
    rfl
  refine WpS_for (fun i e S' => ∃ (st : List So) (x3 x6 : Option D), st.length = i ∧ (∀ s ∈ st, s.Ok) ∧ e = [some (.ref j), some (sT ks), some (.ref S.length), x3, none, none, x6] ∧ Jr j S' ∧ FrG (· = j) S S' ∧ S'[S.length]? = some (.lst (st.map encSo))) ws 0 _ _ ?_ ?_ ?_
  · exact ⟨[], none, none, rfl, (fun _ h => nomatch h), by rw [← hl2]; rfl, hj4, hfG, hn4⟩
  · rintro i e S5 hi ⟨st, x3, x6, hst, hok, rfl, hj5, hf5, hn5⟩
    refine ⟨stays_nil _, ?_⟩
    simp [-ss_cons]
    rw [WpS_cons]
    simp [-ss_cons, dVar, sizeLine_eq]
    rw [rng1 (j := 2) (by decide) (by decide)]
    simp [-ss_cons]
    refine Wp_comp (fun q acc S' => ∃ us : List (List Str), us.length = q ∧ (∀ u ∈ us, u.length ≤ 4) ∧ acc = us.map sT ∧ Jr j S' ∧ Fr (· = j) S5 S') (List.range 2) 0 [] S5 (by simp [sizeLine_eq]) ⟨[], rfl, (fun _ h => nomatch h), rfl, hj5, Fr.refl⟩ ?_ ?_
    · rintro q acc S6 hq2 ⟨us, hu, hv, rfl, hj6, hf6⟩
      refine ⟨stays_nil _, _, rfl, ?_⟩
      simp [tt_none, dVar, sizeLine_eq]
      refine w_draw hj6 (by decide) (by decide) fun k5 S7 hk5 hj7 hf7 => ?_
      have h345 : ∃ m : Nat, Pw.index S7 (D.lst [D.int 3, D.int 4, D.int 5]) (D.int (k5 : Int)) = some (.int m) ∧ 0 < m ∧ m ≤ 5 := by
        have hx := (Sq.lst [D.int 3, D.int 4, D.int 5] (S := S7)).ix (k := k5) (by simp; omega)
        rw [hx]
        match k5, hk5 with
        | 0, _ => exact ⟨3, rfl, by decide, by decide⟩
        | 1, _ => exact ⟨4, rfl, by decide, by decide⟩
        | 2, _ => exact ⟨5, rfl, by decide, by decide⟩
      obtain ⟨m, hx, hm0, hm5⟩ := h345
      simp [hx]
      refine w_draw hj7 (by omega) (by omega) fun k6 S8 hk6 hj8 hf8 => ?_
      rw [rng1 (j := (k6 : Int)) (by omega) (by omega)]
      simp
      refine Wp_comp (fun p acc S' => ∃ u : List Str, u.length = p ∧ acc = u.map .str ∧ Jr j S' ∧ Fr (· = j) S8 S') (List.range k6) 0 [] S8 (by simp [sizeLine_eq]; omega) ⟨[], rfl, rfl, hj8, Fr.refl⟩ ?_ ?_
      · rintro p acc S9 hp ⟨u, hu9, rfl, hj9, hf9⟩
        refine ⟨stays_nil _, _, rfl, ?_⟩
        simp [tt_none, dVar, sT, lTup]
        refine w_draw hj9 (by omega) (by omega) fun k10 S10 hk10 hj10 hf10 => ?_
        have hx := (Sq.tup (ks.map .str) (S := S10)).ixm (k := k10) (by omega)
        rw [hx]
        simp
        exact ⟨u ++ [ks[k10]'(by omega)], by simp; omega, by simp, hj10, hf9.trans hf10⟩
      · rintro acc S9 ⟨u, hu9, rfl, hj9, hf9⟩
        refine ⟨stays_nil _, ?_⟩
        simp at hu9
        simp [tLst]
        refine ⟨by omega, us ++ [u], by simp; omega, ?_, by simp [sT], hj9, (hf6.trans hf7).trans (hf8.trans hf9)⟩
        intro v hv2
        rcases List.mem_append.mp hv2 with hv2 | hv2
        · exact hv v hv2
        · rw [List.mem_singleton.mp hv2]; omega
    · rintro acc S6 ⟨us, hu, hv, rfl, hj6, hf6⟩
      refine ⟨stays_nil _, ?_⟩
      obtain ⟨u1, u2, rfl⟩ : ∃ u1 u2, us = [u1, u2] := by
        match us, hu with
        | [u1, u2], _ => exact ⟨u1, u2, rfl⟩
      have hn6 : S6[S.length]? = some (.lst (st.map encSo)) := by
        rw [hf6.2 _ (by omega)]; exact hn5
      simp [-ss_cons]
      rw [WpS_cons]
      simp [-ss_cons, dVar, sizeLine_eq, kd_refl hn6, Pr.kindOk]
      have x0 : Pw.index S6 (D.lst [sT u1, sT u2]) (D.int 0) = some (sT u1) := rfl
      have x1 : Pw.index S6 (D.lst [sT u1, sT u2]) (D.int 1) = some (sT u2) := rfl
      simp [x0, x1, kd_refl hn6]
      rw [p_app hn6 (by rw [sizeLine_eq, List.length_map]; omega)]
      simp
      refine ⟨st ++ [⟨ws[i], u1, u2⟩], by simp; omega, ?_, hj6.eq (List.getElem?_set_ne (by omega)), (hf5.trans hf6.g).setNew (Nat.le_refl _), ?_⟩
      · intro s hs
        rcases List.mem_append.mp hs with hs | hs
        · exact hok s hs
        · rw [List.mem_singleton.mp hs]
          exact ⟨hv u1 (by simp), hv u2 (by simp)⟩
      · rw [List.getElem?_set_self (List.getElem?_eq_some_iff.mp hn6).1]
        simp [encSo]
  · rintro e S5 ⟨st, x3, x6, hst, hok, rfl, hj5, hf5, hn5⟩
    refine ⟨stays_nil _, ?_⟩
    rw [WpS_cons]
    simp [-ss_cons, dVar, sizeLine_eq, (Sq.ref hn5).tuple]
    refine Wp_close hf5 (fun l hl hA => hA ▸ hj5.low) ?_ fun hF hg => hq st ks _ ?_ ?_ ?_ ?_ hok ?_ hF
    · show D.pures _ = true
      have := pures_map pure_encSo st
      simp [D.pures, D.pure, pure_sT, this]
    · intro z
      rw [z] at hst
      simp at hst
      omega
    · omega
    · intro z
      rw [z] at hks
      simp at hks
      omega
    · omega
    · exact hj5.eq (hg _ h.lt)
end
end Pw.Lw

set_option Elab.async false
set_option linter.all false
set_option maxRecDepth 100000
set_option maxHeartbeats 1000000
namespace Pw.Lw
open PySem PySem.Spec PyProof.Rows L2 Pw
section
variable {n : Nat} {S : Sto} {X : Xc → Sto → Prop}
/-- the wires' list -/
abbrev Wl (w : Nat) (ws : List Str) (S : Sto) : Prop := S[w]? = some (.lst (ws.map .str))
abbrev JW (j w : Nat) : Nat → Prop := fun l => l = j ∨ l = w
theorem Wl.low {w : Nat} {ws : List Str} (h : Wl w ws S) : Low S w := Low.lst h (pures_map (fun _ => rfl) ws)
theorem c_eqnil {x : List D} : cmpop .eq (.lst x) (.lst []) S = if x.all D.nb then some (decide (x = [])) else cmpop .eq (.lst x) (.lst []) S := by
  split
  · rename_i h
    have hx : D.nbs x = true := by
      induction x with
      | nil => rfl
      | cons y ys ih =>
        rw [List.all_cons, Bool.and_eq_true] at h
        unfold D.nbs
        rw [h.1, ih h.2]; rfl
    have e := deq_nb (S := S) (a := .lst []) (b := .lst x) rfl hx (by decide)
    have e2 : deq S (.lst x) (.lst []) = deq S (.lst []) (.lst x) := by
      unfold deq pyd
      rw [rd_lst, rd_lst, toPy_nb (d := .lst x) hx, toPy_nb (d := .lst []) rfl]
      simp only
      rw [Nat.min_comm]
      have : PyData.eqv (D.py (.lst x)) (D.py (.lst [])) = PyData.eqv (D.py (.lst [])) (D.py (.lst x)) := by
        rw [Bool.eq_iff_iff, eqv_nb (a := .lst x) (b := .lst []) hx rfl, eqv_nb (a := .lst []) (b := .lst x) rfl hx]
        exact eq_comm
      rw [this]
    show deq S (.lst x) (.lst []) = _
    rw [e2, e]
    congr 1
    cases x <;> simp
  · rfl
theorem c_eqnil_n {x : List Nat} : cmpop .eq (.lst (x.map nD)) (.lst []) S = some (decide (x = [])) := by
  rw [c_eqnil, if_pos]
  · cases x <;> simp
  · rw [List.all_eq_true]
    intro d hd
    obtain ⟨k, _, rfl⟩ := List.mem_map.mp hd
    rfl
theorem w_wire {j w : Nat} {ws : List Str} {kind : Str} {fresh : Int} {Q : D → Sto → Prop} (h : Jr j S) (hw : Wl w ws S) (hjw : j ≠ w) (hl : ws.length ≤ 1000) (hf0 : 0 < fresh) (hf1 : fresh < 1073741824)
    (hq : ∀ (k : Nat) (ws2 : List Str) (S2 : Sto), ws2[k]? = some kind → (ws2 = ws ∨ ws2 = ws ++ [kind]) → Jr j S2 → Wl w ws2 S2 → Fr (JW j w) S S2 → Q (.int k) S2) : Wp (cl (n + 2) 11 [.ref j, .ref w, .str kind, .int fresh] S) Q X := by
  refine Wp_call (F := f11) rfl rfl ?_
  unfold f11
  have hlt := h.lt
  have hlw := (List.getElem?_eq_some_iff.mp hw).1
  rw [WpS_cons]
  simp [-ss_cons, dVar, sizeLine_eq, (Sq.ref hw).len]
  rw [rng1 (j := (ws.length : Int)) (by omega) (by omega)]
  simp [-ss_cons]
  refine Wp.of_eq (comp_filter (enc := fun (k : Nat) => D.int (k : Int)) (g := nD) (p := fun k => decide (ws.getD k ⟨#[]⟩ = kind)) (stays_nil _) (List.range ws.length) [] (by simp [sizeLine_eq]; omega) fun k hk => ⟨_, rfl, ?_, fun _ => by simp [dVar]⟩) ?_
  · have hk := List.mem_range.mp hk
    have hx := (Sq.ref hw).ixm hk
    simp [tt_some, dVar, hx, c_eqs]
    simp [List.getElem?_eq_getElem hk]
  rw [List.nil_append]
  refine ⟨?_, ?_⟩
  · rw [List.length_map]
    have := List.length_filter_le (fun k => decide (ws.getD k ⟨#[]⟩ = kind)) (List.range ws.length)
    rw [List.length_range] at this
    omega
  have hmem : ∀ k ∈ (List.range ws.length).filter (fun k => decide (ws.getD k ⟨#[]⟩ = kind)), ws[k]? = some kind := by
    intro k hk
    obtain ⟨h1, h2⟩ := List.mem_filter.mp hk
    have h1 := List.mem_range.mp h1
    have h2 := of_decide_eq_true h2
    rw [List.getD_eq_getElem?_getD, List.getElem?_eq_getElem h1] at h2
    rw [List.getElem?_eq_getElem h1]
    exact congrArg some h2
  have hlen : ((List.range ws.length).filter (fun k => decide (ws.getD k ⟨#[]⟩ = kind))).length ≤ ws.length := by
    have := List.length_filter_le (fun k => decide (ws.getD k ⟨#[]⟩ = kind)) (List.range ws.length)
    rwa [List.length_range] at this
  generalize (List.range ws.length).filter (fun k => decide (ws.getD k ⟨#[]⟩ = kind)) = th at hmem hlen
  -- a new one
  have hnew : ∀ S1, Jr j S1 → Wl w ws S1 → Fr (JW j w) S S1 → WpS (denSs (callN Fs Gn (n + 1)) Gn
            [.expr (.mth .append false (.v 1) [.v 2]), .ret (.bin .sub false (.pr .len false [.v 1]) (.k (.int 1)))]
            [some (.ref j), some (.ref w), some (.str kind), some (.int fresh), none, some (.lst (th.map nD))] S1) (fun _ _ => False) (fun d S' => Wp (closeR true S (SR.ret d S')) Q X) (fun x S' => Wp (closeR true S (SR.exc x [] S')) Q X) := by
    intro S1 hj1 hw1 hF1
    have hlw1 := (List.getElem?_eq_some_iff.mp hw1).1
    rw [WpS_cons]
    simp [-ss_cons, dVar, kd_refl hw1, Pr.kindOk]
    rw [p_app hw1 (by rw [sizeLine_eq, List.length_map]; omega)]
    simp [-ss_cons]
    rw [WpS_cons]
    have hw2 : Wl w (ws ++ [kind]) (S1.set w (.lst (ws.map .str ++ [.str kind]))) := by
      show _ = _
      rw [List.getElem?_set_self hlw1]; simp
    simp [-ss_cons, dVar, (Sq.ref hw2).len, b_sub]
    have hF2 : Fr (JW j w) S (S1.set w (.lst (ws.map .str ++ [.str kind]))) := hF1.trans (Fr.set (.inr rfl))
    have hj2 : Jr j (S1.set w (.lst (ws.map .str ++ [.str kind]))) := hj1.eq (List.getElem?_set_ne (Ne.symm hjw))
    refine Wp_close hF2.g (fun l hl hA => ?_) rfl fun hF hg => hq ws.length (ws ++ [kind]) _ (by simp) (.inr rfl) (hj2.eq (hg _ hlt)) (by show _ = _; rw [hg _ hlw]; exact hw2) hF
    rcases hA with rfl | rfl
    · exact hj2.low
    · exact hw2.low
  rw [WpS_cons]
  refine WpS.join (fun e S' => th ≠ [] ∧ e = [some (.ref j), some (.ref w), some (.str kind), some (.int fresh), none, some (.lst (th.map nD))] ∧ Jr j S' ∧ Wl w ws S' ∧ Fr (JW j w) S S') ?_ ?_
  · simp [-ss_cons, dVar, c_eqnil_n]
    by_cases hth : th = []
    · simp [-ss_cons, hth]
      subst hth
      exact (hnew S h hw Fr.refl).mono (fun _ _ z => z.elim) (fun _ _ z => z) (fun _ _ z => z)
    · simp [-ss_cons, hth]
      refine w_draw h hf0 hf1 fun k S1 hk hj1 hF1 => ?_
      have hw1 : Wl w ws S1 := by show _ = _; rw [hF1.2 w (Ne.symm hjw)]; exact hw
      have hF1' : Fr (JW j w) S S1 := hF1.mono fun l hl => .inl hl
      simp [-ss_cons, c_eqi]
      split
      · simp [-ss_cons, (Sq.ref hw1).len, c_lt]
        split
        · exact (hnew S1 hj1 hw1 hF1').mono (fun _ _ z => z.elim) (fun _ _ z => z) (fun _ _ z => z)
        · simp
          exact ⟨hj1, hw1, hF1'⟩
      · simp
        exact ⟨hj1, hw1, hF1'⟩
  · rintro e S1 ⟨hth, rfl, hj1, hw1, hF1⟩
    rw [WpS_cons]
    have hpos : 0 < th.length := List.length_pos_iff.mpr hth
    simp [-ss_cons, dVar, lLst]
    refine w_draw hj1 (by omega) (by omega) fun k S2 hk hj2 hF2 => ?_
    have hx := (Sq.lst (th.map nD) (S := S2)).ixm (k := k) (by omega)
    have hm := hmem (th[k]'(by omega)) (List.getElem_mem _)
    rw [hx]
    simp [nD]
    generalize th[k]'_ = kk at hm
    have hw2 : Wl w ws S2 := by show _ = _; rw [hF2.2 w (Ne.symm hjw)]; exact hw1
    have hF12 : Fr (JW j w) S S2 := hF1.trans (hF2.mono fun l hl => .inl hl)
    refine Wp_close hF12.g (fun l hl hA => ?_) rfl fun hF hg => hq kk ws _ hm (.inl rfl) (hj2.eq (hg _ hlt)) (by show _ = _; rw [hg _ hlw]; exact hw2) hF
    rcases hA with rfl | rfl
    · exact hj2.low
    · exact hw2.low
end
end Pw.Lw

set_option Elab.async false
set_option linter.all false
set_option maxRecDepth 100000
set_option maxHeartbeats 1000000
namespace Pw.Lw
open PySem PySem.Spec PyProof.Rows L2 Pw
section
variable {n : Nat} {S : Sto} {X : Xc → Sto → Prop}
/-- numbers of wires of these kinds -/
def At (ws : List Str) (b : List Nat) (ks : List Str) : Prop := (b.map fun k => ws[k]?) = ks.map some
theorem pre_get {ws ws2 : List Str} (h : ws <+: ws2) {k : Nat} {x : Str} (hk : ws[k]? = some x) : ws2[k]? = some x := by
  obtain ⟨t, rfl⟩ := h
  rw [List.getElem?_append_left (List.getElem?_eq_some_iff.mp hk).1]
  exact hk
theorem At.mono {ws ws2 : List Str} (h : ws <+: ws2) : ∀ {b : List Nat} {ks : List Str}, At ws b ks → At ws2 b ks
  | [], [], _ => rfl
  | [], _ :: _, h2 => by cases h2
  | _ :: _, [], h2 => by cases h2
  | k :: b, x :: ks, h2 => by
    have h3 : ws[k]? = some x ∧ At ws b ks := by
      unfold At at h2 ⊢
      rw [List.map_cons, List.map_cons] at h2
      injection h2 with a c
      exact ⟨a, c⟩
    unfold At
    rw [List.map_cons, List.map_cons, pre_get h h3.1]
    exact congrArg _ (At.mono h h3.2)
theorem At.snoc {ws : List Str} {b : List Nat} {ks : List Str} {k : Nat} {x : Str} (h : At ws b ks) (hk : ws[k]? = some x) : At ws (b ++ [k]) (ks ++ [x]) := by
  unfold At at h ⊢
  rw [List.map_append, List.map_append, h]
  simp [hk]
theorem At.len {ws : List Str} {b : List Nat} {ks : List Str} (h : At ws b ks) : b.length = ks.length := by
  have := congrArg List.length h
  simpa using this
theorem At.lt {ws : List Str} {b : List Nat} {ks : List Str} (h : At ws b ks) : ∀ k ∈ b, k < ws.length := by
  intro k hk
  have h1 : ws[k]? ∈ ks.map some := by
    rw [← h]
    exact List.mem_map.mpr ⟨k, hk, rfl⟩
  obtain ⟨x, _, hx⟩ := List.mem_map.mp h1
  exact (List.getElem?_eq_some_iff.mp hx.symm).1
theorem pure_nT (l : List Nat) : D.pure (nT l) = true := nb_pure _ (nb_nT l)
theorem pure_encB (b : Bx) : D.pure (encB b) = true := nb_pure _ (nb_encB b)
theorem w_box {j w : Nat} {ws : List Str} {s : So} {fresh : Int} {Q : D → Sto → Prop} (h : Jr j S) (hw : Wl w ws S) (hjw : j ≠ w) (hl : ws.length ≤ 900) (hs : s.Ok) (hf0 : 0 < fresh) (hf1 : fresh < 1073741824)
    (hq : ∀ (b : Bx) (ws2 : List Str) (S2 : Sto), b.w = s.w → At ws2 b.i s.i → At ws2 b.o s.o → ws <+: ws2 → ws2.length ≤ ws.length + 8 → Jr j S2 → Wl w ws2 S2 → Fr (JW j w) S S2 → Q (encB b) S2) : Wp (cl (n + 3) 12 [.ref j, .ref w, encSo s, .int fresh] S) Q X := by
  refine Wp_call (F := f12) rfl rfl ?_
  unfold f12
  have hlt := h.lt
  have hlw := (List.getElem?_eq_some_iff.mp hw).1
  rw [WpS_cons]
  have hsl : slice false (encSo s) (some 1) none S = .ok (.tup [sT s.i, sT s.o]) S := rfl
  simp [-ss_cons, dVar, sizeLine_eq, asInt, hsl]
  refine Wp_comp (enc := sT) (fun q acc S' => ∃ (us : List (List Nat)) (ws2 : List Str), us.length = q ∧ (∀ (p : Nat) (u : List Nat), us[p]? = some u → ∃ kk, [s.i, s.o][p]? = some kk ∧ At ws2 u kk) ∧ acc = us.map nT ∧ ws <+: ws2 ∧ ws2.length ≤ ws.length + 4 * q ∧ Jr j S' ∧ Wl w ws2 S' ∧ Fr (JW j w) S S') [s.i, s.o] 0 [] S (by simp [sizeLine_eq]) ⟨[], ws, rfl, (fun _ _ h => nomatch h), rfl, List.prefix_refl _, by omega, h, hw, Fr.refl⟩ ?_ ?_
  · rintro q acc S1 hq ⟨us, ws2, hu, hat, rfl, hpre, hlen, hj1, hw1, hF1⟩
    refine ⟨stays_nil _, _, rfl, ?_⟩
    have hq2 : q < 2 := hq
    have hside : ∃ kk, [s.i, s.o][q]? = some kk ∧ [s.i, s.o][q] = kk ∧ kk.length ≤ 4 := by
      match q, hq2 with
      | 0, _ => exact ⟨s.i, rfl, rfl, hs.1⟩
      | 1, _ => exact ⟨s.o, rfl, rfl, hs.2⟩
    obtain ⟨kk, hkk, hkk2, hkl⟩ := hside
    rw [hkk2]
    simp [tt_none, dVar, sT]
    refine Wp_comp (enc := D.str) (fun p acc S' => ∃ (b : List Nat) (ws3 : List Str), At ws3 b (kk.take p) ∧ acc = b.map nD ∧ ws2 <+: ws3 ∧ ws3.length ≤ ws2.length + p ∧ Jr j S' ∧ Wl w ws3 S' ∧ Fr (JW j w) S S') kk 0 [] S1 (by simp [sizeLine_eq]; omega) ⟨[], ws2, rfl, rfl, List.prefix_refl _, by omega, hj1, hw1, hF1⟩ ?_ ?_
    · rintro p acc S2 hp ⟨b, ws3, hb, rfl, hpre3, hlen3, hj2, hw2, hF2⟩
      refine ⟨stays_nil _, _, rfl, ?_⟩
      simp [tt_none, dVar, sT]
      refine w_wire hj2 hw2 hjw (by omega) hf0 hf1 fun k ws4 S3 hk4 he hj3 hw3 hF3 => ?_
      have hpre4 : ws3 <+: ws4 := by
        rcases he with rfl | rfl
        · exact List.prefix_refl _
        · exact List.prefix_append _ _
      refine ⟨b ++ [k], ws4, ?_, by simp, hpre3.trans hpre4, ?_, hj3, hw3, hF2.trans hF3⟩
      · rw [List.take_add_one, List.getElem?_eq_getElem hp]
        exact (At.mono hpre4 (by rwa [Nat.zero_add] at hb)).snoc hk4
      · rcases he with rfl | rfl
        · omega
        · simp; omega
    · rintro acc S2 ⟨b, ws3, hb, rfl, hpre3, hlen3, hj2, hw2, hF2⟩
      refine ⟨stays_nil _, ?_⟩
      rw [Nat.zero_add, List.take_length] at hb
      have hbl := hb.len
      simp [tLst, sizeLine_eq]
      refine ⟨by omega, us ++ [b], by simp; omega, ws3, ?_, by simp [nT], hpre.trans hpre3, by omega, hj2, hw2, hF2⟩
      intro p u hpu
      by_cases hp : p < us.length
      · rw [List.getElem?_append_left hp] at hpu
        obtain ⟨k2, h1, h2⟩ := hat p u hpu
        exact ⟨k2, h1, h2.mono hpre3⟩
      · rw [List.getElem?_append_right (by omega)] at hpu
        have hp0 : p - us.length = 0 := by
          have := (List.getElem?_eq_some_iff.mp hpu).1
          simp at this
          omega
        rw [hp0] at hpu
        injection hpu with hpu
        subst hpu
        have : p = q := by omega
        subst this
        exact ⟨kk, hkk, hb⟩
  · rintro acc S1 ⟨us, ws2, hu, hat, rfl, hpre, hlen, hj1, hw1, hF1⟩
    refine ⟨stays_nil _, ?_⟩
    obtain ⟨u1, u2, rfl⟩ : ∃ u1 u2, us = [u1, u2] := by
      match us, hu with
      | [u1, u2], _ => exact ⟨u1, u2, rfl⟩
    obtain ⟨k1, e1, a1⟩ := hat 0 u1 rfl
    obtain ⟨k2, e2, a2⟩ := hat 1 u2 rfl
    injection e1 with e1
    injection e2 with e2
    subst e1
    subst e2
    simp [-ss_cons]
    rw [WpS_cons]
    have x0 : Pw.index S1 (D.lst [nT u1, nT u2]) (D.int 0) = some (nT u1) := rfl
    have x1 : Pw.index S1 (D.lst [nT u1, nT u2]) (D.int 1) = some (nT u2) := rfl
    have xs : Pw.index S1 (encSo s) (D.int 0) = some (.str s.w) := rfl
    simp [-ss_cons, dVar, sizeLine_eq, x0, x1, xs]
    refine Wp_close hF1.g (fun l hl hA => ?_) (pure_encB ⟨s.w, u1, u2⟩) fun hF hg => hq ⟨s.w, u1, u2⟩ ws2 _ rfl a1 a2 hpre (by simp at hlen; omega) (hj1.eq (hg _ hlt)) (by show _ = _; rw [hg _ hlw]; exact hw1) hF
    rcases hA with rfl | rfl
    · exact hj1.low
    · exact hw1.low
end
end Pw.Lw

set_option Elab.async false
set_option linter.all false
set_option maxRecDepth 100000
set_option maxHeartbeats 1000000
namespace Pw.Lw
open PySem PySem.Spec PyProof.Rows L2 Pw
section
variable {n : Nat} {S : Sto} {X : Xc → Sto → Prop}
theorem c_nenil_ref {w : Nat} {ws : List Str} (h : Wl w ws S) : cmpop .ne (.ref w) (.lst []) S = some (!decide (ws = [])) := by
  have e : cmpop .eq (.lst (ws.map .str)) (.lst []) S = some (decide (ws = [])) := by
    rw [c_eqnil, if_pos]
    · cases ws <;> simp
    · rw [List.all_eq_true]
      intro d hd
      obtain ⟨k, _, rfl⟩ := List.mem_map.mp hd
      rfl
  have e2 : deq S (.ref w) (.lst []) = deq S (.lst (ws.map .str)) (.lst []) := by
    unfold deq pyd
    rw [rd_ref, h, rd_lst]
    rfl
  show (deq S (.ref w) (.lst [])).map _ = _
  rw [e2]
  rw [show deq S (.lst (ws.map .str)) (.lst []) = _ from e]
  rfl
theorem w_web {j : Nat} {st : List So} {ks : List Str} {most : Nat} {Q : D → Sto → Prop} (h : Jr j S) (hst : st ≠ []) (hst2 : st.length ≤ 100) (hso : ∀ s ∈ st, s.Ok) (hks : ks ≠ []) (hks2 : ks.length ≤ 100) (hm : most ≤ 20)
    (hq : ∀ (W : Wb) (S2 : Sto), W.Ok → W.bs.length ≤ most → W.ws.length ≤ 3 + 8 * most → Jr j S2 → Fr (· = j) S S2 → Q (encW W) S2) : Wp (cl (n + 4) 13 [.ref j, .tup (st.map encSo), sT ks, .int most] S) Q X := by
  refine Wp_call (F := f13) rfl rfl ?_
  unfold f13
  have hlt := h.lt
  have hpk : 0 < ks.length := List.length_pos_iff.mpr hks
  have hps : 0 < st.length := List.length_pos_iff.mpr hst
  rw [WpS_cons]
  simp [-ss_cons, dVar, sizeLine_eq]
  refine w_draw h (by decide) (by decide) fun k S1 hk hj1 hF1 => ?_
  rw [rng1 (j := (k : Int)) (by omega) (by omega)]
  simp [-ss_cons]
  refine Wp_comp (fun p acc S' => ∃ u : List Str, u.length = p ∧ acc = u.map .str ∧ Jr j S' ∧ Fr (· = j) S S') (List.range k) 0 [] S1 (by simp [sizeLine_eq]; omega) ⟨[], rfl, rfl, hj1, hF1⟩ ?_ ?_
  · rintro p acc S9 hp ⟨u, hu9, rfl, hj9, hf9⟩
    refine ⟨stays_nil _, _, rfl, ?_⟩
    simp [tt_none, dVar, sT, lTup]
    refine w_draw hj9 (by omega) (by omega) fun k10 S10 hk10 hj10 hf10 => ?_
    have hx := (Sq.tup (ks.map .str) (S := S10)).ixm (k := k10) (by omega)
    rw [hx]
    simp
    exact ⟨u ++ [ks[k10]'(by omega)], by simp; omega, by simp, hj10, hf9.trans hf10⟩
  rintro acc S2 ⟨ws0, hw0, rfl, hj2, hF2⟩
  refine ⟨stays_nil _, ?_⟩
  simp at hw0
  simp [-ss_cons]
  refine ⟨by omega, ?_⟩
  have hl2 : S2.length = S.length := hF2.1
  have hw3 : Wl S.length ws0 (S2 ++ [.lst (ws0.map .str)]) := by
    rw [← hl2]; exact get_last _
  have hj3 := hj2.push (.lst (ws0.map .str))
  have hG3 : FrG (· = j) S (S2 ++ [.lst (ws0.map .str)]) := hF2.g.trans (FrG.push _)
  have hlen3 : (S2 ++ [MO.lst (ws0.map .str)]).length = S.length + 1 := by simp [hl2]
  rw [hl2]
  generalize S2 ++ [MO.lst (ws0.map .str)] = S3 at hw3 hj3 hG3 hlen3
  have hjw : j ≠ S.length := by omega
  rw [WpS_cons]
  simp [-ss_cons, dVar, sizeLine_eq, b_add]
  refine w_draw hj3 (by omega) (by omega) fun k4 S4 hk4 hj4 hF4 => ?_
  rw [rng1 (j := (k4 : Int)) (by omega) (by omega)]
  simp [-ss_cons]
  refine Wp_comp (fun p acc S' => ∃ (bs : List Bx) (ws : List Str), bs.length = p ∧ acc = bs.map encB ∧ ws.length ≤ 3 + 8 * p ∧ (∀ b ∈ bs, (b.i.length ≤ 4 ∧ ∀ k ∈ b.i, k < ws.length) ∧ (b.o.length ≤ 4 ∧ ∀ k ∈ b.o, k < ws.length)) ∧ Jr j S' ∧ Wl S.length ws S' ∧ FrG (· = j) S S') (List.range k4) 0 [] S4 (by simp [sizeLine_eq]; omega) ⟨[], ws0, rfl, rfl, by omega, (fun _ h => nomatch h), hj4, by show _ = _; rw [hF4.2 _ (by omega)]; exact hw3, hG3.trans hF4.g⟩ ?_ ?_
  · rintro p acc S5 hp ⟨bs, ws, hbs, rfl, hws, hok, hj5, hw5, hG5⟩
    simp at hp
    refine ⟨stays_nil _, _, rfl, ?_⟩
    simp [tt_none, dVar, lTup]
    refine w_draw hj5 (by omega) (by omega) fun k6 S6 hk6 hj6 hF6 => ?_
    have hx := (Sq.tup (st.map encSo) (S := S6)).ixm (k := k6) (by omega)
    have hsok := hso (st[k6]'(by omega)) (List.getElem_mem _)
    rw [hx]
    generalize st[k6]'_ = s at hsok
    simp
    have hw6 : Wl S.length ws S6 := by show _ = _; rw [hF6.2 _ (by omega)]; exact hw5
    refine w_box hj6 hw6 hjw (by omega) hsok (by decide) (by decide) fun b ws2 S7 hbw hbi hbo hpre hlen hj7 hw7 hF7 => ?_
    have hple := hpre.length_le
    refine ⟨bs ++ [b], by simp; omega, by simp, ws2, by omega, ?_, hj7, hw7, (hG5.trans hF6.g).trans2 hF7.g ?_⟩
    · intro b2 hb2
      rcases List.mem_append.mp hb2 with hb2 | hb2
      · have := hok b2 hb2
        exact ⟨⟨this.1.1, fun k hk => by have := this.1.2 k hk; omega⟩, ⟨this.2.1, fun k hk => by have := this.2.2 k hk; omega⟩⟩
      · rw [List.mem_singleton.mp hb2]
        exact ⟨⟨by rw [hbi.len]; exact hsok.1, hbi.lt⟩, ⟨by rw [hbo.len]; exact hsok.2, hbo.lt⟩⟩
    · rintro l hl (rfl | rfl)
      · rfl
      · omega
  rintro acc S5 ⟨bs, ws, hbs, rfl, hws, hok, hj5, hw5, hG5⟩
  refine ⟨stays_nil _, ?_⟩
  simp at hbs hws
  have hmb : bs.length ≤ most := by omega
  simp [-ss_cons]
  refine ⟨by omega, ?_⟩
  rw [WpS_cons]
  simp [-ss_cons, dVar, sizeLine_eq]
  rw [rng1 (j := 2) (by decide) (by decide)]
  simp [-ss_cons]
  refine Wp_comp (fun q acc S' => ∃ us : List (List Nat), us.length = q ∧ (∀ u ∈ us, u.length ≤ 4 ∧ ∀ k ∈ u, k < ws.length) ∧ acc = us.map nT ∧ Jr j S' ∧ Fr (· = j) S5 S') (List.range 2) 0 [] S5 (by simp [sizeLine_eq]) ⟨[], rfl, (fun _ h => nomatch h), rfl, hj5, Fr.refl⟩ ?_ ?_
  · rintro q acc S6 hq2 ⟨us, hu, hv, rfl, hj6, hf6⟩
    refine ⟨stays_nil _, _, rfl, ?_⟩
    have hw6 : Wl S.length ws S6 := by show _ = _; rw [hf6.2 _ (by omega)]; exact hw5
    simp [tt_none, dVar, sizeLine_eq, c_nenil_ref hw6]
    refine Wp.then (Q := fun d S' => ∃ m : Nat, d = nD m ∧ m < 4 ∧ (m ≠ 0 → ws ≠ []) ∧ Jr j S' ∧ Fr (· = j) S5 S') ?_ ?_
    · split
      · rw [Wp_ok]
        exact ⟨0, rfl, by decide, fun z => absurd rfl z, hj6, hf6⟩
      · rename_i hne
        exact w_draw hj6 (by decide) (by decide) fun k7 S7 hk7 hj7 hF7 => ⟨k7, rfl, by omega, fun _ => hne, hj7, hf6.trans hF7⟩
    · intro d S7 hz
      obtain ⟨m, hd, hm4, hmw, hj7, hF7⟩ := hz
      subst hd
      rw [rng1 (j := (m : Int)) (by omega) (by omega)]
      simp
      refine Wp_comp (fun p acc S' => ∃ u : List Nat, u.length = p ∧ (∀ k ∈ u, k < ws.length) ∧ acc = u.map nD ∧ Jr j S' ∧ Fr (· = j) S5 S') (List.range m) 0 [] S7 (by simp [sizeLine_eq]; omega) ⟨[], rfl, (fun _ h => nomatch h), rfl, hj7, hF7⟩ ?_ ?_
      · rintro p acc S8 hp ⟨u, hu8, hv8, rfl, hj8, hf8⟩
        simp at hp
        have hne := hmw (by omega)
        have hpos : 0 < ws.length := List.length_pos_iff.mpr hne
        refine ⟨stays_nil _, _, rfl, ?_⟩
        have hw8 : Wl S.length ws S8 := by show _ = _; rw [hf8.2 _ (by omega)]; exact hw5
        simp [tt_none, dVar, (Sq.ref hw8).len]
        refine w_draw hj8 (by omega) (by omega) fun k10 S10 hk10 hj10 hf10 => ?_
        refine ⟨u ++ [k10], by simp; omega, ?_, by simp, hj10, hf8.trans hf10⟩
        intro k hk
        rcases List.mem_append.mp hk with hk | hk
        · exact hv8 k hk
        · rw [List.mem_singleton.mp hk]; omega
      · rintro acc S8 ⟨u, hu8, hv8, rfl, hj8, hf8⟩
        simp at hu8
        refine ⟨stays_nil _, ?_⟩
        simp [tLst]
        refine ⟨by omega, us ++ [u], by simp; omega, ?_, by simp [nT], hj8, hf8⟩
        intro v hv2
        rcases List.mem_append.mp hv2 with hv2 | hv2
        · exact hv v hv2
        · rw [List.mem_singleton.mp hv2]; exact ⟨by omega, hv8⟩
  · rintro acc S6 ⟨us, hu, hv, rfl, hj6, hf6⟩
    refine ⟨stays_nil _, ?_⟩
    obtain ⟨u1, u2, rfl⟩ : ∃ u1 u2, us = [u1, u2] := by
      match us, hu with
      | [u1, u2], _ => exact ⟨u1, u2, rfl⟩
    have hw6 : Wl S.length ws S6 := by show _ = _; rw [hf6.2 _ (by omega)]; exact hw5
    simp [-ss_cons]
    rw [WpS_cons]
    have x0 : Pw.index S6 (D.lst [nT u1, nT u2]) (D.int 0) = some (nT u1) := rfl
    have x1 : Pw.index S6 (D.lst [nT u1, nT u2]) (D.int 1) = some (nT u2) := rfl
    simp [-ss_cons, dVar, sizeLine_eq, x0, x1, tLst, (Sq.ref hw6).tuple]
    have h1 := hv u1 (by simp)
    have h2 := hv u2 (by simp)
    refine Wp_close (hG5.trans hf6.g) (fun l hl hA => hA ▸ hj6.low) (nb_pure _ (nb_encW ⟨ws, bs, u1, u2⟩)) fun hF hg => hq ⟨ws, bs, u1, u2⟩ _ ⟨by show ws.length ≤ _; omega, by show bs.length ≤ _; omega, ⟨by show u1.length ≤ _; omega, h1.2⟩, ⟨by show u2.length ≤ _; omega, h2.2⟩, fun b hb => ?_⟩ hmb (by show ws.length ≤ _; omega) (hj6.eq (hg _ hlt)) hF
    have := hok b hb
    exact ⟨⟨by omega, this.1.2⟩, ⟨by omega, this.2.2⟩⟩
end
end Pw.Lw

set_option Elab.async false
set_option linter.all false
set_option maxRecDepth 100000
set_option maxHeartbeats 1000000
namespace Pw.Lw
open PySem PySem.Spec PyProof.Rows L2 Pw
section
variable {n : Nat} {S : Sto} {X : Xc → Sto → Prop}
theorem w_order {j : Nat} {m : Nat} {Q : D → Sto → Prop} (h : Jr j S) (hm : m ≤ 1000)
    (hq : ∀ (ps : List Nat) (S2 : Sto), ps.Perm (List.range m) → Jr j S2 → Fr (· = j) S S2 → Q (nT ps) S2) : Wp (cl (n + 2) 16 [.ref j, .int m] S) Q X := by
  refine Wp_call (F := f16) rfl rfl ?_
  unfold f16
  have hlt := h.lt
  rw [WpS_cons]
  simp [-ss_cons, dVar, sizeLine_eq, p_rngL (show (m : Int) < 10000000 by omega)]
  refine ⟨by omega, ?_⟩
  rw [WpS_cons]
  simp [-ss_cons, dVar, sizeLine_eq]
  rw [rng1 (j := (m : Int)) (by omega) (by omega)]
  simp [-ss_cons]
  refine Wp_comp (fun p acc S' => ∃ gs left : List Nat, gs.length = p ∧ acc = gs.map nD ∧ (gs ++ left).Perm (List.range m) ∧ S'[S.length]? = some (.lst (left.map nD)) ∧ Jr j S' ∧ FrG (· = j) S S') (List.range m) 0 [] _ (by simp [sizeLine_eq]; omega) ⟨[], List.range m, rfl, rfl, List.Perm.refl _, by simp, h.push _, FrG.push _⟩ ?_ ?_
  · rintro p acc S1 hp ⟨gs, left, hgs, rfl, hperm, hn, hj, hG⟩
    simp at hp
    have hlen : gs.length + left.length = m := by
      have := hperm.length_eq
      simpa using this
    refine ⟨stays_nil _, _, rfl, ?_⟩
    simp [tt_none, dVar, (Sq.ref hn).len, kd_refl hn, Pr.kindOk]
    refine w_draw hj (by omega) (by omega) fun k S2 hk hj2 hF2 => ?_
    have hn2 : S2[S.length]? = some (.lst (left.map nD)) := by rw [hF2.2 _ (by omega)]; exact hn
    have hk' : k < left.length := by omega
    simp [kd_refl hn2]
    rw [p_popat hn2 (by rw [List.length_map]; exact hk') (by rw [List.length_map]; omega)]
    simp
    refine ⟨gs ++ [left[k]], by simp; omega, by simp, left.eraseIdx k, ?_, ?_, hj2.eq (List.getElem?_set_ne (by omega)), (hG.trans hF2.g).setNew (Nat.le_refl _)⟩
    · refine List.Perm.trans ?_ hperm
      rw [List.append_assoc]
      exact (perm_erase hk').append_left gs
    · rw [List.getElem?_set_self (List.getElem?_eq_some_iff.mp hn2).1, map_erase']
  · rintro acc S1 ⟨gs, left, hgs, rfl, hperm, hn, hj, hG⟩
    simp at hgs
    refine ⟨stays_nil _, ?_⟩
    have hlen : gs.length + left.length = m := by
      have := hperm.length_eq
      simpa using this
    have hl0 : left = [] := List.length_eq_zero_iff.mp (by omega)
    subst hl0
    rw [List.append_nil] at hperm
    simp [tLst]
    refine ⟨by omega, Wp_close hG (fun l hl hA => hA ▸ hj.low) (pure_nT gs) fun hF hg => hq gs _ hperm (hj.eq (hg _ hlt)) hF⟩
end
end Pw.Lw

set_option Elab.async false
set_option linter.all false
set_option maxRecDepth 100000
set_option maxHeartbeats 1000000
namespace Pw.Lw
open PySem PySem.Spec PyProof.Rows L2 Pw
section
variable {n : Nat} {S : Sto} {X : Xc → Sto → Prop}
/-- smaller than need be -/
structure Wb.Sm (w : Wb) : Prop where
  ok : w.Ok
  ws : w.ws.length ≤ 400
  bs : w.bs.length ≤ 400
open Classical in
theorem c_nent {l : List Nat} : cmpop .ne (nT l) (.tup []) S = some (!decide (l = [])) := by
  have e := deq_nb (S := S) (a := nT l) (b := .tup []) (nb_nT l) rfl (Nat.le_trans (dep_nT l) (by decide))
  simp only [cmpop, e, Option.map_some]
  congr 2
  cases l <;> simp [nT]
open Classical in
theorem c_neb {l : List Bx} : cmpop .ne (.tup (l.map encB)) (.tup []) S = some (!decide (l = [])) := by
  have hb : D.nb (.tup (l.map encB)) = true := nbs_map nb_encB l
  have hd : D.dep (.tup (l.map encB)) ≤ 60 := by
    show D.deps (l.map encB) + 1 ≤ 60
    have := deps_map (g := encB) (k := 2) dep_encB l
    omega
  have e := deq_nb (S := S) (a := .tup (l.map encB)) (b := .tup []) hb rfl hd
  simp only [cmpop, e, Option.map_some]
  congr 2
  cases l <;> simp
/-- a web put together -/
theorem encW_of {ws : List Str} {bs : List Bx} {l r : List Nat} : D.tup [.tup (ws.map .str), .tup (bs.map encB), nT l, nT r] = encW ⟨ws, bs, l, r⟩ := rfl
theorem kinds_comp {C : Nat → List D → Sto → R D} {e : Ev} {ws : List Str} {row : List Nat} (he : e[3]? = some (some (.tup (ws.map .str)))) (h9 : 12 < e.length) (hk : ∀ k ∈ row, k < ws.length) (hl : row.length ≤ 1000) :
    compLoop (.n 12) [12] ⟨row.map nD, []⟩ e (denT C Gn none) (den C Gn (.ix (.v 3) (.v 12))).v (row.map nD) [] S = .ok (row.map fun k => .str (ws.getD k ⟨#[]⟩)) S := by
  have z := comp_map (tg := .n 12) (own := [12]) (src := ⟨row.map nD, []⟩) (e0 := e) (t := denT C Gn none) (elt := (den C Gn (.ix (.v 3) (.v 12))).v) (enc := nD) (g := fun k => .str (ws.getD k ⟨#[]⟩)) (stays_nil _ (S := S)) row [] (by simpa using small hl) (fun k hk2 => by
    refine ⟨(e.set 12 none).set 12 (some (nD k)), by simp [Tg.put, wipeE, h9], rfl, ?_⟩
    have e1 : ((e.set 12 none).set 12 (some (nD k)))[3]? = some (some (.tup (ws.map .str))) := by
      rw [List.getElem?_set_ne (by decide), List.getElem?_set_ne (by decide)]; exact he
    have e2 : ((e.set 12 none).set 12 (some (nD k)))[12]? = some (some (nD k)) := by
      rw [List.getElem?_set_self (by simpa using h9)]
    have e3 := (Sq.tup (ws.map .str) (S := S)).ixd ⟨#[]⟩ (hk k hk2)
    simp only [v_ix, v_v, dVar, e1, e2, R.bind_ok, e3, R.opt_some])
  simpa using z
open Classical in
theorem c_eqstrs {a b : List Str} : cmpop .eq (.lst (a.map .str)) (.lst (b.map .str)) S = some (decide (D.lst (a.map .str) = .lst (b.map .str))) := by
  have hd : D.dep (.lst (a.map .str)) ≤ 60 := by
    show D.deps (a.map .str) + 1 ≤ 60
    have := deps_map (g := D.str) (k := 0) (fun _ => Nat.le_refl _) a
    omega
  have e := deq_nb (S := S) (a := .lst (a.map .str)) (b := .lst (b.map .str)) (nbs_map (fun _ => rfl) a) (nbs_map (fun _ => rfl) b) hd
  simp only [cmpop, e]
theorem w_near {j : Nat} {W : Wb} {so : D} {Q : D → Sto → Prop} (h : Jr j S) (hW : W.Sm)
    (hq : ∀ (W2 : Wb) (S2 : Sto), W2.Ok → Jr j S2 → Fr (· = j) S S2 → Q (encW W2) S2) : Wp (cl (n + 2) 20 [.ref j, so, encW W] S) Q X := by
  refine Wp_call (F := f20) rfl rfl ?_
  unfold f20
  have hlt := h.lt
  obtain ⟨ok, hws, hbs⟩ := hW
  have hend : ∀ (W2 : Wb) (S1 : Sto), W2.Ok → Jr j S1 → Fr (· = j) S S1 → Wp (closeR true S (.ret (encW W2) S1)) Q X := fun W2 S1 h1 h2 h3 => Wp_close h3.g (fun l hl hA => hA ▸ h2.low) (nb_pure _ (nb_encW W2)) fun hF hg => hq W2 _ h1 (h2.eq (hg _ hlt)) hF
  obtain ⟨ws, bs, l, r⟩ := W
  have okl := ok.l
  have okr := ok.r
  have okb := ok.b
  simp only at okl okr okb hws hbs
  rw [WpS_cons]
  simp [-ss_cons, dVar, sizeLine_eq, encW]
  rw [WpS_cons]
  simp [-ss_cons, dVar, sizeLine_eq]
  refine w_draw h (by decide) (by decide) fun way S1 hway hj1 hF1 => ?_
  simp [-ss_cons, lTup, p_mx]
  have hmx : ∃ m : Nat, (if (1 : Int) < (bs.length : Int) then (bs.length : Int) else 1) = (m : Int) ∧ 0 < m ∧ m ≤ 400 ∧ (bs ≠ [] → m ≤ bs.length) := by
    by_cases hb : (1 : Int) < (bs.length : Int)
    · exact ⟨bs.length, by rw [if_pos hb], by omega, hbs, fun _ => Nat.le_refl _⟩
    · refine ⟨1, by rw [if_neg hb]; rfl, by decide, by decide, fun hne => ?_⟩
      have := List.length_pos_iff.mpr hne
      omega
  obtain ⟨m, hm, hm0, hm4, hmb⟩ := hmx
  rw [hm]
  refine w_draw hj1 (by omega) (by omega) fun k S2 hk hj2 hF2 => ?_
  have hF := hF1.trans hF2
  -- 0
  rw [WpS_cons]
  refine WpS.join (fun e S' => S' = S2 ∧ e = [some (D.ref j), some so, some (encW ⟨ws, bs, l, r⟩), some (.tup (ws.map .str)), some (.tup (bs.map encB)), some (nT l), some (nT r), some (.int way), some (.int k), none, none, none, none]) ?_ ?_
  · simp [-ss_cons, dVar, c_eqi, c_nent]
    by_cases h0 : way = 0
    · simp [-ss_cons, h0]
      by_cases hl : l = []
      · simp [hl, encW]
      · simp [-ss_cons, hl]
        rw [WpS_cons]
        simp [-ss_cons, dVar, nT, sl_tup, b_addt, sizeLine_eq]
        rw [show (1 : Int) = ((1 : Nat) : Int) from rfl, cut_from, cut_to]
        refine ⟨?_, ?_⟩
        · simp; omega
        · rw [← List.map_drop, ← List.map_take, ← List.map_append]
          refine hend ⟨ws, bs, l.drop 1 ++ l.take 1, r⟩ S2 ⟨ok.ws, ok.bs, ⟨?_, ?_⟩, ok.r, ok.b⟩ hj2 hF
          · simp; omega
          · intro x hx
            rcases List.mem_append.mp hx with hx | hx
            · exact okl.2 x (List.mem_of_mem_drop hx)
            · exact okl.2 x (List.mem_of_mem_take hx)
    · simp [h0, encW]
  intro e S' hz
  obtain ⟨hS, he⟩ := hz
  subst hS
  subst he
  -- 1
  rw [WpS_cons]
  simp [-ss_cons, dVar, c_eqi]
  by_cases h1 : (way : Int) = 1
  · simp [-ss_cons, h1]
    rw [WpS_cons]
    simp [-ss_cons, dVar, sizeLine_eq]
    exact hend ⟨ws, bs, r, l⟩ S' ⟨ok.ws, ok.bs, ok.r, ok.l, ok.b⟩ hj2 hF
  simp [-ss_cons, h1]
  -- 2
  rw [WpS_cons]
  simp [-ss_cons, dVar, c_eqi]
  by_cases h2 : (way : Int) = 2
  · simp [-ss_cons, h2]
    rw [WpS_cons]
    simp [-ss_cons, dVar, sizeLine_eq, sl_tup, b_addt]
    rw [show (1 : Int) = ((1 : Nat) : Int) from rfl, cut_to]
    refine ⟨by simp; omega, ?_⟩
    rw [← List.map_take, ← List.map_append]
    have hle : ws.length ≤ (ws ++ ws.take 1).length := by simp
    refine hend ⟨ws ++ ws.take 1, bs, l, r⟩ S' ⟨by simp; omega, ok.bs, ⟨okl.1, fun k hk => Nat.lt_of_lt_of_le (okl.2 k hk) hle⟩, ⟨okr.1, fun k hk => Nat.lt_of_lt_of_le (okr.2 k hk) hle⟩, fun b hb => ?_⟩ hj2 hF
    have := okb b hb
    exact ⟨⟨this.1.1, fun k hk => Nat.lt_of_lt_of_le (this.1.2 k hk) hle⟩, ⟨this.2.1, fun k hk => Nat.lt_of_lt_of_le (this.2.2 k hk) hle⟩⟩
  simp [-ss_cons, h2]
  -- 3
  rw [WpS_cons]
  simp [-ss_cons, dVar, c_eqi, c_neb]
  have h45 : WpS
    (denSs (callN Fs Gn (n + 1)) Gn
      [SI.ite (E.cmp COp.eq (E.v 7) (E.k (D.int 4))) [SI.ret (E.tup [E.v 3, E.rev false (E.v 4), E.v 5, E.v 6])] [],
        SI.ite (E.cmp COp.eq (E.v 7) (E.k (D.int 5)))
          [SI.ret (E.tup [E.v 3, E.sl false (E.v 4) (some (E.k (D.int 1))) none, E.v 5, E.v 6])] [],
        SI.ret (E.v 2)]
      [some (D.ref j), some so, some (encW { ws := ws, bs := bs, l := l, r := r }), some (D.tup (List.map D.str ws)),
        some (D.tup (List.map encB bs)), some (nT l), some (nT r), some (D.int ↑way), some (D.int ↑k), none, none, none,
        none]
      S')
    (fun e S' => Wp (closeR true S (SR.nx e S')) Q X) (fun d S' => Wp (closeR true S (SR.ret d S')) Q X) (fun x S' =>
    Wp (closeR true S (SR.exc x [] S')) Q X) := by
    rw [WpS_cons]
    simp [-ss_cons, dVar, c_eqi]
    by_cases h4 : (way : Int) = 4
    · simp [-ss_cons, h4]
      rw [WpS_cons]
      simp [-ss_cons, dVar, sizeLine_eq, rv_tup]
      rw [← List.map_reverse]
      refine hend ⟨ws, bs.reverse, l, r⟩ S' ⟨ok.ws, by simpa using ok.bs, ok.l, ok.r, fun b hb => okb b (by simpa using hb)⟩ hj2 hF
    simp [-ss_cons, h4]
    rw [WpS_cons]
    simp [-ss_cons, dVar, c_eqi]
    by_cases h5 : (way : Int) = 5
    · simp [-ss_cons, h5]
      rw [WpS_cons]
      simp [-ss_cons, dVar, sizeLine_eq, sl_tup]
      rw [show (1 : Int) = ((1 : Nat) : Int) from rfl, cut_from, ← List.map_drop]
      refine hend ⟨ws, bs.drop 1, l, r⟩ S' ⟨ok.ws, by simp; omega, ok.l, ok.r, fun b hb => okb b (List.mem_of_mem_drop hb)⟩ hj2 hF
    simp [-ss_cons, h5]
    rw [WpS_cons]
    simp [-ss_cons, dVar]
    exact hend ⟨ws, bs, l, r⟩ S' ok hj2 hF
  by_cases h3 : (way : Int) = 3
  · obtain rfl : way = 3 := by omega
    by_cases hb : bs = []
    · subst hb
      simp [-ss_cons]
      exact h45
    · simp [-ss_cons, hb]
      have hkb : k < bs.length := by have := hmb hb; omega
      have hB := okb _ (getD_in default hkb)
      rw [WpS_cons]
      simp [-ss_cons, -List.getD_eq_getElem?_getD, dVar, (Sq.tup (bs.map encB)).ixd default hkb]
      generalize bs.getD k default = B at hB
      simp [-ss_cons, encB]
      rw [WpS_cons]
      have hBr : ∀ k ∈ B.i.reverse, k < ws.length := fun k hk => hB.1.2 k (by simpa using hk)
      simp [-ss_cons, -List.getD_eq_getElem?_getD, dVar, sizeLine_eq, nT, rv_tup]
      rw [kinds_comp rfl (by simp) hB.1.2 (by omega), Wp_ok, ← List.map_reverse, kinds_comp rfl (by simp) hBr (by simp; omega), Wp_ok]
      have f1 : B.i.map (fun k => D.str (ws.getD k ⟨#[]⟩)) = (B.i.map fun k => ws.getD k ⟨#[]⟩).map .str := by rw [List.map_map]; rfl
      have f2 : B.i.reverse.map (fun k => D.str (ws.getD k ⟨#[]⟩)) = (B.i.reverse.map fun k => ws.getD k ⟨#[]⟩).map .str := by rw [List.map_map]; rfl
      rw [f1, f2]
      simp [-ss_cons, -List.getD_eq_getElem?_getD, -List.map_map, -List.map_reverse, c_eqstrs]
      refine ⟨by omega, ?_⟩
      refine Wp.then (Q := fun d S2 => S2 = S' ∧ (d = nT B.i ∨ d = nT B.i.reverse)) ?_ ?_
      · split
        · exact (Wp_ok _).mpr ⟨rfl, .inl rfl⟩
        · exact (Wp_ok _).mpr ⟨rfl, .inr (by simp [nT])⟩
      intro d S2 hz
      obtain ⟨hS2, hd⟩ := hz
      subst hS2
      obtain ⟨row, hd, hrow, hrl⟩ : ∃ row : List Nat, d = nT row ∧ (∀ k ∈ row, k < ws.length) ∧ row.length ≤ 900 := by
        rcases hd with hd | hd
        · exact ⟨_, hd, hB.1.2, hB.1.1⟩
        · exact ⟨_, hd, hBr, by simpa using hB.1.1⟩
      subst hd
      rw [WpS_cons]
      simp [-ss_cons, dVar, sizeLine_eq, sl_tup, b_addt, nT, rv_tup, b_add]
      rw [show ((k : Int) + 1) = ((k + 1 : Nat) : Int) by omega, cut_from, cut_to]
      refine ⟨by simp; omega, by simp; omega, ?_⟩
      have e1 : (bs.map encB).take k ++ D.tup [D.str B.w, D.tup (row.map nD).reverse, D.tup (B.o.map nD)] :: (bs.map encB).drop (k + 1) = (bs.take k ++ ⟨B.w, row.reverse, B.o⟩ :: bs.drop (k + 1)).map encB := by
        simp [encB, nT]
      rw [e1]
      refine hend ⟨ws, bs.take k ++ ⟨B.w, row.reverse, B.o⟩ :: bs.drop (k + 1), l, r⟩ S2 ⟨ok.ws, by simp; omega, ok.l, ok.r, fun b hb => ?_⟩ hj2 hF
      rcases List.mem_append.mp hb with hb | hb
      · exact okb b (List.mem_of_mem_take hb)
      · rcases List.mem_cons.mp hb with hb | hb
        · rw [hb]
          exact ⟨⟨by simpa using hrl, fun k hk => hrow k (by simpa using hk)⟩, hB.2⟩
        · exact okb b (List.mem_of_mem_drop hb)
  · simp [-ss_cons, h3]
    exact h45
end
end Pw.Lw

set_option Elab.async false
set_option linter.all false
set_option maxRecDepth 100000
set_option maxHeartbeats 1000000
namespace Pw.Lw
open PySem PySem.Spec PyProof.Rows L2 Pw
section
variable {n : Nat} {S : Sto} {X : Xc → Sto → Prop}
/-- a short row of plain things -/
def Fl (m : Nat) (xs : List D) : Prop := (∀ y ∈ xs, D.val y = true ∧ D.pure y = true) ∧ xs.length ≤ m
theorem Fl.app {a b : Nat} {xs ys : List D} (h : Fl a xs) (h2 : Fl b ys) : Fl (a + b) (xs ++ ys) := ⟨fun y hy => by
  rcases List.mem_append.mp hy with hy | hy
  · exact h.1 y hy
  · exact h2.1 y hy, by rw [List.length_append]; have := h.2; have := h2.2; omega⟩
theorem Fl.cut {a : Nat} {xs : List D} {lo hi : Option Int} (h : Fl a xs) : Fl a (cutD xs lo hi) := ⟨fun y hy => h.1 y (cut_mem y hy), Nat.le_trans cut_len h.2⟩
theorem Fl.rev {a : Nat} {xs : List D} (h : Fl a xs) : Fl a xs.reverse := ⟨fun y hy => h.1 y (by simpa using hy), by simpa using h.2⟩
theorem Fl.nats {ps : List Nat} {a : Nat} (h : ps.length ≤ a) : Fl a (ps.map nD) := ⟨fun y hy => by obtain ⟨k, _, rfl⟩ := List.mem_map.mp hy; exact ⟨rfl, rfl⟩, by simpa using h⟩
theorem Fl.one {d : D} (h : D.val d = true) (hp : D.pure d = true) : Fl 1 [d] := ⟨fun y hy => by rw [List.mem_singleton.mp hy]; exact ⟨h, hp⟩, Nat.le_refl _⟩
theorem pures_all {xs : List D} (h : ∀ x ∈ xs, D.pure x = true) : D.pures xs = true := by
  induction xs with
  | nil => rfl
  | cons x xs ih =>
    unfold D.pures
    rw [h x (by simp), ih fun y hy => h y (List.mem_cons_of_mem _ hy)]
    rfl
theorem Fl.pures {a : Nat} {xs : List D} (h : Fl a xs) : D.pures xs = true := pures_all fun x hx => (h.1 x hx).2
/-- a part of what is tried -/
def Pt (d : D) : Prop := D.val d = true ∧ D.pure d = true ∧ ∀ ys, tupL d = some ys → Fl 900 ys
theorem Pt.tup {a : Nat} {xs : List D} (h : Fl a xs) (ha : a ≤ 900) : Pt (.tup xs) := ⟨rfl, h.pures, fun ys hy => by injection hy with hy; subst hy; exact ⟨h.1, Nat.le_trans h.2 ha⟩⟩
theorem Pt.lst {a : Nat} {xs : List D} (h : Fl a xs) : Pt (.lst xs) := ⟨rfl, h.pures, fun ys hy => by cases hy⟩
/-- what is tried -/
def Tr (d : D) : Prop := VOk d ∧ D.pure d = true
theorem Tr.tup {xs : List D} (h : ∀ x ∈ xs, Pt x) : Tr (.tup xs) := ⟨⟨rfl, fun ys hy x hx => by
  injection hy with hy
  subst hy
  exact ⟨(h x hx).1, fun zs hz => ⟨fun y hy => (((h x hx).2.2 zs hz).1 y hy).1, ((h x hx).2.2 zs hz).2⟩⟩⟩, pures_all fun x hx => (h x hx).2.1⟩
theorem Tr.lst {xs : List D} (h : ∀ x ∈ xs, Pt x) : Tr (.lst xs) := ⟨⟨rfl, fun ys hy => by cases hy⟩, pures_all fun x hx => (h x hx).2.1⟩
theorem Tr.of {d : D} (h1 : D.val d = true) (h2 : tupL d = none) (h3 : D.pure d = true) : Tr d := ⟨⟨h1, fun xs hx => by rw [h2] at hx; cases hx⟩, h3⟩
theorem Tr.two {x y : D} (h : Pt x) (h2 : Pt y) : Tr (.tup [x, y]) := Tr.tup fun z hz => by
  simp at hz
  rcases hz with rfl | rfl
  · exact h
  · exact h2
theorem mixed_comp {C : Nat → List D → Sto → R D} {e : Ev} {ps : List Nat} (h7 : 7 < e.length) (hl : ps.length ≤ 1000) : ∃ xs : List D, Fl ps.length xs ∧
    compLoop (.n 7) [7] ⟨ps.map nD, []⟩ e (denT C Gn none) (den C Gn (.ite (.cmp .lt (.v 7) (.k (.int 2))) (.cmp .eq (.v 7) (.k (.int 1))) (.v 7))).v (ps.map nD) [] S = .ok xs S := by
  refine ⟨ps.map fun (k : Nat) => if (k : Int) < 2 then D.bl (decide ((k : Int) = 1)) else nD k, ⟨fun y hy => ?_, by simp⟩, ?_⟩
  · obtain ⟨k, _, rfl⟩ := List.mem_map.mp hy
    split <;> exact ⟨rfl, rfl⟩
  have z := comp_map (tg := .n 7) (own := [7]) (src := ⟨ps.map nD, []⟩) (e0 := e) (t := denT C Gn none) (elt := (den C Gn (.ite (.cmp .lt (.v 7) (.k (.int 2))) (.cmp .eq (.v 7) (.k (.int 1))) (.v 7))).v) (enc := nD) (g := fun (k : Nat) => if (k : Int) < 2 then D.bl (decide ((k : Int) = 1)) else nD k) (stays_nil _ (S := S)) ps [] (by simpa using small hl) (fun k hk2 => by
    refine ⟨(e.set 7 none).set 7 (some (nD k)), by simp [Tg.put, wipeE, h7], rfl, ?_⟩
    have e2 : ((e.set 7 none).set 7 (some (nD k)))[7]? = some (some (nD k)) := by
      rw [List.getElem?_set_self (by simpa using h7)]
    generalize (e.set 7 none).set 7 (some (nD k)) = e' at e2
    simp [dVar, e2, c_lt, c_eqi]
    by_cases hk : (k : Int) < 2 <;> simp [hk])
  simpa using z
theorem mixed_w {C : Nat → List D → Sto → R D} {e : Ev} {ps : List Nat} {Q : List D → Sto → Prop} (h7 : 7 < e.length) (hl : ps.length ≤ 250) (hq : ∀ xs, Fl 250 xs → Q xs S) :
    Wp (compLoop (.n 7) [7] ⟨ps.map nD, []⟩ e (denT C Gn none) (den C Gn (.ite (.cmp .lt (.v 7) (.k (.int 2))) (.cmp .eq (.v 7) (.k (.int 1))) (.v 7))).v (ps.map nD) [] S) Q X := by
  obtain ⟨xs, a, b⟩ := mixed_comp (S := S) (C := C) (e := e) (ps := ps) h7 (by omega)
  rw [b, Wp_ok]
  exact hq xs ⟨a.1, Nat.le_trans a.2 hl⟩
theorem b_addnt (x y : List Nat) : nT (x ++ y) = .tup (x.map nD ++ y.map nD) := by simp [nT]
theorem w_values {j : Nat} {ps qs : List Nat} {Q : D → Sto → Prop} (h : Jr j S) (hp : ps.length ≤ 250) (hqs : qs.length ≤ 250)
    (hq : ∀ (vs : List D) (S2 : Sto), (∀ v ∈ vs, Tr v) → vs.length ≤ 100 → Jr j S2 → Fr (· = j) S S2 → Q (.lst vs) S2) : Wp (cl (n + 2) 21 [.ref j, .tup [nT ps, nT qs]] S) Q X := by
  refine Wp_call (F := f21) rfl rfl ?_
  unfold f21
  have hlt := h.lt
  have hp1 : Fl 250 (ps.map nD) := Fl.nats hp
  have hq1 : Fl 250 (qs.map nD) := Fl.nats hqs
  have l1 : ps.length = (ps.map nD).length := by simp
  have l2 : qs.length = (qs.map nD).length := by simp
  have mixp := fun (e : Ev) (h7 : 7 < e.length) (S : Sto) (Q : List D → Sto → Prop) (X : Xc → Sto → Prop) hz => mixed_w (S := S) (C := callN Fs Gn (n + 1)) (ps := ps) (X := X) (Q := Q) h7 hp hz
  have mixq := fun (e : Ev) (h7 : 7 < e.length) (S : Sto) (Q : List D → Sto → Prop) (X : Xc → Sto → Prop) hz => mixed_w (S := S) (C := callN Fs Gn (n + 1)) (ps := qs) (X := X) (Q := Q) h7 hqs hz
  rw [WpS_cons]
  simp [-ss_cons, dVar, sizeLine_eq]
  rw [WpS_cons]
  simp [-ss_cons, dVar, sizeLine_eq, nT, lTup, p_mx]
  have hmx : ∀ a : Nat, a ≤ 250 → ∃ m : Nat, (if (1 : Int) < (a : Int) then (a : Int) else 1) = (m : Int) ∧ 0 < m ∧ m ≤ 250 := by
    intro a ha
    by_cases hb : (1 : Int) < (a : Int)
    · exact ⟨a, by rw [if_pos hb], by omega, ha⟩
    · exact ⟨1, by rw [if_neg hb]; rfl, by decide, by decide⟩
  obtain ⟨m, hm, hm0, hm4⟩ := hmx ps.length hp
  obtain ⟨m2, hm2, hm20, hm24⟩ := hmx qs.length hqs
  rw [hm]
  refine w_draw h (by omega) (by omega) fun k S1 hk hj1 hF1 => ?_
  rw [hm2]
  refine w_draw hj1 (by omega) (by omega) fun k2 S2 hk2 hj2 hF2 => ?_
  have hF := hF1.trans hF2
  have hix0 : ∀ d : D, d = .tup (ps.map nD) → Pt d := fun d hd => hd ▸ Pt.tup hp1 (by decide)
  generalize ps.map nD = P at *
  generalize qs.map nD = R at *
  have lP := hp1.2
  have lR := hq1.2
  rw [WpS_cons]
  simp [-ss_cons, dVar, sizeLine_eq, rv_tup, sl_tup, b_addt]
  have c1 : ∀ a b, Fl 250 (cutD P a b) := fun a b => hp1.cut
  have c2 : ∀ a b, Fl 250 (cutD R a b) := fun a b => hq1.cut
  have P1 : Pt (.tup P) := Pt.tup hp1 (by decide)
  have R1 : Pt (.tup R) := Pt.tup hq1 (by decide)
  refine ⟨by have := (c1 (some 1) none).2; have := (c1 none (some 1)).2; omega, by have := (c2 (some 1) none).2; have := (c2 none (some 1)).2; omega, ?_⟩
  refine (fun (H : ∀ vs : List D, (∀ v ∈ vs, Tr v) → vs.length ≤ 5 → WpS (denSs _ _ _ [_, _, _, _, _, _, some (.lst vs), _] S2) _ _ _) => H _ ?_ (by simp)) ?_
  · simp only [List.forall_mem_cons, List.not_mem_nil, false_implies, implies_true, and_true]
    exact ⟨Tr.two P1 R1, Tr.two (Pt.tup hp1.rev (by decide)) R1, Tr.two P1 (Pt.tup hq1.rev (by decide)), Tr.two (Pt.tup ((c1 _ _).app (c1 _ _)) (by decide)) R1, Tr.two P1 (Pt.tup ((c2 _ _).app (c2 _ _)) (by decide))⟩
  intro vs hv hvl
  rw [WpS_cons]
  simp [-ss_cons, dVar, sizeLine_eq, rv_tup, sl_tup, b_addt, b_add, b_addl]
  have e1 := (c1 none (some (k : Int))).2
  have e2 := (c1 none (some 1)).2
  have e3 := (c1 (some ((k : Int) + 1)) none).2
  have e4 := (c2 none (some (k2 : Int))).2
  have e5 := (c2 (some ((k2 : Int) + 1)) none).2
  refine ⟨by omega, by omega, by omega, by omega, by omega, by omega, by omega, ?_⟩
  refine (fun (H : ∀ vs : List D, (∀ v ∈ vs, Tr v) → vs.length ≤ 9 → WpS (denSs _ _ _ [_, _, _, _, _, _, some (.lst vs), _] S2) _ _ _) => H _ ?_ (by simp; omega)) ?_
  · rw [List.forall_mem_append]
    refine ⟨hv, ?_⟩
    simp only [List.forall_mem_cons, List.not_mem_nil, false_implies, implies_true, and_true]
    have z1 : Fl 1 [D.int 0] := Fl.one rfl rfl
    have z2 : Fl 1 [D.int k2] := Fl.one rfl rfl
    exact ⟨Tr.two (Pt.tup ((c1 _ _).app ((c1 _ _).app (c1 _ _))) (by decide)) R1, Tr.two P1 (Pt.tup ((c2 _ _).app (z2.app (c2 _ _))) (by decide)), Tr.two (Pt.tup (hp1.app z1) (by decide)) R1, Tr.two P1 (Pt.tup (hq1.app z1) (by decide))⟩
  clear hv hvl vs
  intro vs hv hvl
  rw [WpS_cons]
  simp [-ss_cons, dVar, sizeLine_eq, b_addt, b_addl, tList]
  refine ⟨by omega, by omega, by omega, ?_⟩
  refine (fun (H : ∀ vs : List D, (∀ v ∈ vs, Tr v) → vs.length ≤ 20 → WpS (denSs _ _ _ [_, _, _, _, _, _, some (.lst vs), _] S2) _ _ _) => H _ ?_ (by simp; omega)) ?_
  · rw [List.forall_mem_append]
    refine ⟨hv, ?_⟩
    simp only [List.forall_mem_cons, List.not_mem_nil, false_implies, implies_true, and_true]
    have z0 : Pt (.tup []) := Pt.tup (a := 0) ⟨(fun _ h => nomatch h), Nat.le_refl _⟩ (by decide)
    refine ⟨Tr.of rfl rfl rfl, Tr.tup (fun _ h => nomatch h), Tr.lst ?_, Tr.two (Pt.lst hp1) R1, Tr.two P1 (Pt.lst hq1), Tr.tup ?_, Tr.two R1 P1, Tr.tup ?_, Tr.of rfl rfl rfl⟩
    · simp only [List.forall_mem_cons, List.not_mem_nil, false_implies, implies_true, and_true]
      exact ⟨P1, R1⟩
    · simp only [List.forall_mem_cons, List.not_mem_nil, false_implies, implies_true, and_true]
      exact P1
    · simp only [List.forall_mem_cons, List.not_mem_nil, false_implies, implies_true, and_true]
      exact ⟨P1, R1, z0⟩
  clear hv hvl vs
  intro vs hv hvl
  rw [WpS_cons]
  simp [-ss_cons, dVar, sizeLine_eq, b_addl, rv_tup]
  refine mixp _ (by simp) _ _ _ fun us hus => ?_
  have u1 := hus.2
  simp [-ss_cons, tLst]
  refine ⟨by omega, ?_⟩
  refine mixq _ (by simp) _ _ _ fun ts hts => ?_
  have t1 := hts.2
  refine ⟨by omega, by omega, ?_⟩
  refine (fun (H : ∀ vs : List D, (∀ v ∈ vs, Tr v) → vs.length ≤ 30 → WpS (denSs _ _ _ [_, _, _, _, _, _, some (.lst vs), _] S2) _ _ _) => H _ ?_ (by simp; omega)) ?_
  · rw [List.forall_mem_append]
    refine ⟨hv, ?_⟩
    simp only [List.forall_mem_cons, List.not_mem_nil, false_implies, implies_true, and_true]
    exact ⟨Tr.two (Pt.tup hus (by decide)) R1, Tr.two P1 (Pt.tup hts (by decide)), Tr.two (Pt.tup hp1.rev (by decide)) (Pt.tup hq1.rev (by decide))⟩
  clear hv hvl vs
  intro vs hv hvl
  rw [WpS_cons]
  simp [-ss_cons, dVar]
  exact Wp_close hF.g (fun l hl hA => hA ▸ hj2.low) (pures_all fun x hx => (hv x hx).2) fun hF hg => hq vs _ hv (by omega) (hj2.eq (hg _ hlt)) hF
end
end Pw.Lw

set_option Elab.async false
set_option linter.all false
set_option maxRecDepth 100000
set_option maxHeartbeats 1000000
namespace Pw.Lw
open PySem PySem.Spec PyProof.Rows L2 Pw
section
variable {n : Nat} {S : Sto} {X : Xc → Sto → Prop}
theorem full_ord {m : Nat} {ps : List Nat} (hp : ps.Perm (List.range m)) : ordV m (nT ps) = true := by
  have hf := Full.of hp
  show ordB m (ps.map nD) = true
  unfold ordB
  simp only [Bool.and_eq_true, decide_eq_true_eq]
  refine ⟨⟨by rw [List.length_map]; exact hf.len, ?_⟩, ?_⟩
  · rw [List.all_eq_true]
    intro d hd
    obtain ⟨k, hk, rfl⟩ := List.mem_map.mp hd
    have := hf.lt k hk
    simp [inR]
    omega
  · have e : (ps.map nD).map intOf = ps.map fun (k : Nat) => (k : Int) := by rw [List.map_map]; rfl
    rw [e]
    refine List.Perm.eq_of_pairwise (le := fun a b : Int => a ≤ b) (fun _ _ _ _ a b => Int.le_antisymm a b) ?_ ?_ ?_
    · have := List.pairwise_mergeSort (le := fun a b : Int => decide (a ≤ b)) (fun a b c h1 h2 => by simp at *; omega) (fun a b => by simp; omega) (ps.map fun (k : Nat) => (k : Int))
      exact this.imp fun h => by simpa using h
    · rw [List.pairwise_map]
      exact List.pairwise_lt_range.imp fun h => by omega
    · exact (List.mergeSort_perm _ _).trans (hp.map _)
theorem judge_lead {w : Wb} {ps qs : List Nat} (hp : ps.Perm (List.range w.ws.length)) (hq : qs.Perm (List.range w.bs.length)) : judge w (ledW w ps qs) (.tup [nT ps, nT qs]) = true := by
  have fp := Full.of hp
  have fq := Full.of hq
  unfold judge
  simp only [Bool.and_eq_true, decide_eq_true_eq, natsOf_nT]
  exact ⟨⟨⟨⟨by simp [ledW, fp.len], by simp [ledW, fq.len]⟩, full_ord hp⟩, full_ord hq⟩, trivial⟩
/-- a web beside itself -/
def shB (m : Nat) (b : Bx) : Bx := ⟨b.w, b.i.map (· + m), b.o.map (· + m)⟩
def twice (w : Wb) : Wb := ⟨w.ws ++ w.ws, w.bs ++ w.bs.map (shB w.ws.length), [], []⟩
theorem twice_ok {w : Wb} (h : w.Ok) (h1 : w.ws.length ≤ 100) (h2 : w.bs.length ≤ 100) : (twice w).Ok := by
  refine ⟨by simp [twice]; omega, by simp [twice]; omega, ⟨by simp [twice], fun k hk => by simp [twice] at hk⟩, ⟨by simp [twice], fun k hk => by simp [twice] at hk⟩, fun b hb => ?_⟩
  have hlen : (twice w).ws.length = w.ws.length + w.ws.length := by simp [twice]
  rw [hlen]
  rcases List.mem_append.mp hb with hb | hb
  · have := h.b b hb
    exact ⟨⟨this.1.1, fun k hk => by have := this.1.2 k hk; omega⟩, ⟨this.2.1, fun k hk => by have := this.2.2 k hk; omega⟩⟩
  · obtain ⟨c, hc, rfl⟩ := List.mem_map.mp hb
    have := h.b c hc
    refine ⟨⟨by simpa [shB] using this.1.1, fun k hk => ?_⟩, ⟨by simpa [shB] using this.2.1, fun k hk => ?_⟩⟩
    · obtain ⟨q, hq, rfl⟩ := List.mem_map.mp hk
      have := this.1.2 q hq
      omega
    · obtain ⟨q, hq, rfl⟩ := List.mem_map.mp hk
      have := this.2.2 q hq
      omega
/-- [at + len(web[0]) for at in row] -/
theorem shift_comp {C : Nat → List D → Sto → R D} {e : Ev} {w : Wb} {row : List Nat} (h5 : e[5]? = some (some (encW w))) (h9 : 9 < e.length) (hl : row.length ≤ 1000) :
    compLoop (.n 9) [9] ⟨row.map nD, []⟩ e (denT C Gn none) (den C Gn (.bin .add false (.v 9) (.pr .len false [(.ix (.v 5) (.k (.int 0)))]))).v (row.map nD) [] S = .ok ((row.map (· + w.ws.length)).map nD) S := by
  have z := comp_map (tg := .n 9) (own := [9]) (src := ⟨row.map nD, []⟩) (e0 := e) (t := denT C Gn none) (elt := (den C Gn (.bin .add false (.v 9) (.pr .len false [(.ix (.v 5) (.k (.int 0)))]))).v) (enc := nD) (g := fun k => nD (k + w.ws.length)) (stays_nil _ (S := S)) row [] (by simpa using small hl) (fun k hk2 => by
    refine ⟨(e.set 9 none).set 9 (some (nD k)), by simp [Tg.put, wipeE, h9], rfl, ?_⟩
    have e1 : ((e.set 9 none).set 9 (some (nD k)))[5]? = some (some (encW w)) := by
      rw [List.getElem?_set_ne (by decide), List.getElem?_set_ne (by decide)]; exact h5
    have e2 : ((e.set 9 none).set 9 (some (nD k)))[9]? = some (some (nD k)) := by
      rw [List.getElem?_set_self (by simpa using h9)]
    generalize (e.set 9 none).set 9 (some (nD k)) = e' at e1 e2
    simp [dVar, e1, e2, ix_w0, lTup, b_add])
  rw [List.map_map]
  simpa [Function.comp_def] using z
theorem len16 {α : Type} {l : List α} (h : l.length = 16) : ∃ a b c d e f g h i j k m n o p q, l = [a, b, c, d, e, f, g, h, i, j, k, m, n, o, p, q] := by
  match l, h with
  | [a, b, c, d, e, f, g, h, i, j, k, m, n, o, p, q], _ => exact ⟨_, _, _, _, _, _, _, _, _, _, _, _, _, _, _, _, rfl⟩
theorem w_law (ns : List Int) (hns : ns.length ≤ 63) : Wp (cl (n + 10) 22 [.lst (ns.map .int)] S) (fun d _ => d = .bl true) X := by
  refine Wp_call (F := f22) rfl rfl ?_
  unfold f22
  have hend : ∀ S', S.length ≤ S'.length → Wp (closeR true S (.ret (.bl true) S')) (fun d _ => d = .bl true) X := by
    intro S' hS
    show Wp (.ok (close S S' (.bl true)).1 (close S S' (.bl true)).2) _ _
    rw [Wp_ok]
    unfold close
    split
    · rfl
    · have : frz S.length S' (.bl true) = some (.bl true) := frz1_pure rfl
      rw [this]
      simp only
      split <;> rfl
  rw [WpS_cons]
  simp [-ss_cons, dVar, sizeLine_eq, sl_lst, b_addl]
  rw [show (15 : Int) = ((15 : Nat) : Int) from rfl, cut_to, ← List.map_take]
  refine ⟨by simp; omega, by simp; omega, ?_⟩
  have hsrc : D.int 233 :: List.map D.int (ns.take 15) = (233 :: ns.take 15).map .int := rfl
  rw [hsrc]
  refine WpS_for (fun i e S' => e.length = 16 ∧ S.length ≤ S'.length) (233 :: ns.take 15) 0 _ _ ⟨rfl, Nat.le_refl _⟩ ?_ ?_
  · rintro i e S1 hi ⟨he, hS1⟩
    refine ⟨stays_nil _, ?_⟩
    obtain ⟨y0, y1, y2, y3, y4, y5, y6, y7, y8, y9, y10, y11, y12, y13, y14, y15, rfl⟩ := len16 he
    simp [-ss_cons]
    generalize (233 :: ns.take 15)[i]'_ = cell
    rw [WpS_cons]
    simp [-ss_cons, dVar]
    obtain ⟨a, b, hjar⟩ := s_jar (n := n + 8) (S := S1) cell
    refine Wp.of_eq hjar ?_
    have hj1 : Jr S1.length (S1 ++ [.lst [.int a, .int b]]) := ⟨a, b, get_last _⟩
    have hl1 : S.length ≤ (S1 ++ [MO.lst [.int a, .int b]]).length := by simp; omega
    generalize S1 ++ [MO.lst [.int a, .int b]] = S2 at hj1 hl1
    generalize S1.length = j at hj1
    rw [WpS_cons]
    simp [-ss_cons, dVar]
    refine w_stock hj1 fun st ks S3 hst hst5 hks hks3 hso hj3 hF3 => ?_
    simp [-ss_cons]
    rw [WpS_cons]
    simp [-ss_cons, dVar]
    refine w_web (most := 6) hj3 hst (by omega) hso hks (by omega) (by decide) fun W S4 hW hWb hWw hj4 hF4 => ?_
    have hl4 : S.length ≤ S4.length := by rw [hF4.1, hF3.1]; exact hl1
    rw [WpS_cons]
    refine WpS.join (fun e S' => ∃ (W2 : Wb) (z10 : Option D), W2.Ok ∧ W2.ws.length ≤ 200 ∧ W2.bs.length ≤ 200 ∧ e = [y0, some (.int cell), some (.ref j), some (.tup (st.map encSo)), some (sT ks), some (encW W2), y6, y7, y8, y9, z10, y11, y12, y13, y14, y15] ∧ Jr j S' ∧ S.length ≤ S'.length) ?_ ?_
    · simp [-ss_cons, dVar]
      refine w_draw hj4 (by decide) (by decide) fun k S5 hk hj5 hF5 => ?_
      have hl5 : S.length ≤ S5.length := by rw [hF5.1]; exact hl4
      simp [-ss_cons, c_eqi, c_lt, ix_w0, ix_w1, lTup]
      refine Wp.then (Q := fun _ S' => S' = S5) ?_ ?_
      · split
        · split
          · exact (Wp_ok _).mpr rfl
          · exact (Wp_ok _).mpr rfl
        · exact (Wp_ok _).mpr rfl
      intro t S6 hS6
      subst hS6
      cases t with
      | false =>
        simp
        exact ⟨W, hW, by omega, by omega, rfl, hj5, hl5⟩
      | true =>
        simp [-ss_cons]
        rw [WpS_cons]
        simp [-ss_cons, dVar, sizeLine_eq, ix_w1]
        have okb := hW.b
        refine Wp.of_eq (comp_map (enc := encB) (g := fun b => encB (shB W.ws.length b)) (stays_nil _) W.bs [] (by simp [sizeLine_eq]; omega) fun B hB => ?_) ?_
        · have h1 := okb B hB
          refine ⟨[y0, some (.int cell), some (.ref j), some (.tup (st.map encSo)), some (sT ks), some (encW W), some (.str B.w), some (nT B.i), some (nT B.o), y9, y10, y11, y12, y13, y14, y15], rfl, rfl, ?_⟩
          have e1 := fun (e : Ev) (h5 : e[5]? = some (some (encW W))) (h9 : 9 < e.length) => shift_comp (S := S6) (C := callN Fs Gn (n + 9)) (row := B.i) h5 h9 (by omega)
          have e2 := fun (e : Ev) (h5 : e[5]? = some (some (encW W))) (h9 : 9 < e.length) => shift_comp (S := S6) (C := callN Fs Gn (n + 9)) (row := B.o) h5 h9 (by omega)
          have m1 := mkL_f (S := S6) (xs := (B.i.map (· + W.ws.length)).map nD) (small (by simp; omega))
          have m2 := mkL_f (S := S6) (xs := (B.o.map (· + W.ws.length)).map nD) (small (by simp; omega))
          simp [-List.map_map, dVar, src_nT, e1, e2, m1, m2, tLst, sizeLine_eq]
          rfl
        rw [List.nil_append]
        refine ⟨by simp; omega, ?_⟩
        rw [WpS_cons]
        have hmul : binop .mul false (.tup (W.ws.map .str)) (.int 2) S6 = .ok (.tup (List.replicate (2 : Int).toNat (W.ws.map D.str)).flatten) S6 := by
          show (if 2 ≤ (2 : Int) ∧ (2 : Int) ≤ 1000 ∧ (W.ws.map D.str).length ≤ 1000 then R.ok (D.tup (List.replicate (2 : Int).toNat (W.ws.map D.str)).flatten) S6 else .bad) = _
          rw [if_pos ⟨by decide, by decide, by simp; omega⟩]
        simp [-ss_cons, dVar, sizeLine_eq, ix_w0, ix_w1, hmul, tLst, b_addt]
        refine ⟨by omega, twice W, twice_ok hW (by omega) (by omega), by simp [twice]; omega, by simp [twice]; omega, ?_, hj5, hl5⟩
        simp [twice, encW, nT, Function.comp_def]
    · rintro e S5 ⟨W2, z10, hW2, hw2, hb2, he2, hj5, hl5⟩
      subst he2
      rw [WpS_cons]
      simp [-ss_cons, dVar, sizeLine_eq, ix_w0, ix_w1, lTup]
      refine w_order hj5 (by omega) fun ps S6 hps hj6 hF6 => ?_
      refine w_order hj6 (by omega) fun qs S7 hqs hj7 hF7 => ?_
      have fp := Full.of hps
      have fq := Full.of hqs
      have hl7 : S.length ≤ S7.length := by rw [hF7.1, hF6.1]; exact hl5
      rw [WpS_cons]
      have x0 : Pw.index S7 (D.tup [nT ps, nT qs]) (D.int 0) = some (nT ps) := rfl
      have x1 : Pw.index S7 (D.tup [nT ps, nT qs]) (D.int 1) = some (nT qs) := rfl
      have hled := s_lawled (n := n + 8) (S := S7) W2 ps qs fp fq hW2
      have hO : (ledW W2 ps qs).Ok := ledW_ok hW2 fp fq
      have hOw : (ledW W2 ps qs).ws.length = W2.ws.length := by simp [ledW, fp.len]
      have hOb : (ledW W2 ps qs).bs.length = W2.bs.length := by simp [ledW, fq.len]
      have hjd := judge_lead (w := W2) hps hqs
      generalize ledW W2 ps qs = O at *
      simp only [cl] at hled
      simp [-ss_cons, dVar, x0, x1, hled]
      have hv1 : VOk (.tup [nT ps, nT qs]) := (Tr.two (Pt.tup (Fl.nats (a := 250) (by rw [fp.len]; omega)) (by decide)) (Pt.tup (Fl.nats (a := 250) (by rw [fq.len]; omega)) (by decide))).1
      have hisl := s_isl (n := n + 3) (S := S7) W2 O hW2 hO _ hv1
      simp only [cl] at hisl
      rw [hjd] at hisl
      rw [WpS_cons]
      simp [-ss_cons, dVar, hisl, isop]
      rw [WpS_cons]
      simp [-ss_cons, dVar]
      rw [rng1 (j := 3) (by decide) (by decide)]
      simp [-ss_cons]
      refine WpS_for (fun _ e S' => ∃ z13 z14 z15 : Option D, e = [y0, some (.int cell), some (.ref j), some (.tup (st.map encSo)), some (sT ks), some (encW W2), y6, y7, y8, y9, z10, some (.tup [nT ps, nT qs]), some (encW O), z13, z14, z15] ∧ Jr j S' ∧ S.length ≤ S'.length) (List.range 3) 0 _ _ ⟨_, _, _, rfl, hj7, hl7⟩ ?_ ?_
      · rintro q e S8 hq ⟨z13, z14, z15, he, hj8, hl8⟩
        subst he
        refine ⟨stays_nil _, ?_⟩
        simp [-ss_cons]
        rw [WpS_cons]
        simp [-ss_cons, dVar]
        refine w_near hj8 ⟨hO, by omega, by omega⟩ fun W3 S9 hW3 hj9 hF9 => ?_
        rw [WpS_cons]
        simp [-ss_cons, dVar]
        refine w_values hj9 (by rw [fp.len]; omega) (by rw [fq.len]; omega) fun vs S10 hvs hvl hj10 hF10 => ?_
        simp [-ss_cons]
        have hl10 : S.length ≤ S10.length := by rw [hF10.1, hF9.1]; exact hl8
        rw [show vs = vs.map id by simp]
        refine WpS_for (enc := id) (fun _ e S' => ∃ z15 : Option D, e = [y0, some (.int cell), some (.ref j), some (.tup (st.map encSo)), some (sT ks), some (encW W2), y6, y7, y8, y9, z10, some (.tup [nT ps, nT qs]), some (encW O), some (.int q), some (encW W3), z15] ∧ S' = S10) vs 0 _ _ ⟨_, rfl, rfl⟩ ?_ ?_
        · rintro r e S11 hr ⟨z15, he, hS11⟩
          subst he
          subst hS11
          refine ⟨stays_nil _, ?_⟩
          have hv := (hvs _ (List.getElem_mem hr)).1
          simp [-ss_cons]
          generalize vs[r] = v at hv
          have i1 := s_isl (n := n + 3) (S := S11) W2 W3 hW2 hW3 v hv
          have i2 := s_leads (n := n + 3) (S := S11) W2 W3 hW2 hW3 v hv
          have i3 := same_bl (n := n + 8) (S := S11) (judge W2 W3 v) (judge W2 W3 v)
          simp only [cl] at i1 i2 i3
          rw [WpS_cons]
          simp [-ss_cons, dVar, i1, i2, i3]
        · rintro e S11 ⟨z15, he, hS11⟩
          subst he
          subst hS11
          refine ⟨stays_nil _, ?_⟩
          simp
          exact ⟨hj10, hl10⟩
      · rintro e S8 ⟨z13, z14, z15, he, hj8, hl8⟩
        subst he
        refine ⟨stays_nil _, ?_⟩
        simp
        exact hl8
  · rintro e S1 ⟨he, hS1⟩
    refine ⟨stays_nil _, ?_⟩
    rw [WpS_cons]
    simp [-ss_cons]
    exact hend S1 hS1
theorem pure_law : ∀ ns : List Int, ns.length ≤ 63 → ∃ S, callN (fsOf L) (fun _ => none) 200 22 [.lst (ns.map .int)] [] = .ok (.bl true) S := by
  intro ns hns
  obtain ⟨d, S, h1, h2⟩ := Wp.ex (w_law (n := 190) (S := []) (X := NoX) ns hns)
  subst h2
  exact ⟨S, h1⟩
end
end Pw.Lw

set_option Elab.async false
set_option linter.all false
set_option maxRecDepth 100000
set_option maxHeartbeats 0
namespace Pw.Lw
open PySem PySem.Spec PyProof.Rows L2 Pw
theorem cAll : ∀ d ∈ L, fdB 40 L KS d = true := by
  intro d hd
  simp only [L, List.mem_cons, List.not_mem_nil, or_false] at hd
  rcases hd with rfl | rfl | rfl | rfl | rfl | rfl | rfl | rfl | rfl | rfl | rfl | rfl | rfl | rfl | rfl | rfl | rfl | rfl | rfl | rfl | rfl | rfl | rfl
  · exact c0
  · exact c1
  · exact c2
  · exact c3
  · exact c4
  · exact c5
  · exact c6
  · exact c7
  · exact c8
  · exact c9
  · exact c10
  · exact c11
  · exact c12
  · exact c13
  · exact c14
  · exact c15
  · exact c16
  · exact c17
  · exact c18
  · exact c19
  · exact c20
  · exact c21
  · exact c22
/-! ## the head -/
def fn : List He.DefD := fnD L
def fa : List He.Fa := faD L
abbrev RWR : PySem.W.OpenRow := PySem.W.OpenLaw.row PySem.Challenge.rw_wirewebs_k44_leadings_judged
abbrev hk : PySem.W.Hook := He.hookD 4 fa fn
def ob (s : PySem.W.SharedT) : He.AlD := He.obsDG 4 fa fn (HandSHeadRun.getT s)
theorem ob_eq (s : PySem.W.SharedT) : ob s = hk.obs s.abs := He.obsDG_eq (HandSHeadRun.getT_eq s)
theorem run (w : World) : HandSHeadRun.RunEq RWR (PySem.W.view RWR.prog [25]) hk ob 4000 ["is_integer", "is_between", "is_tuple_of", "is_order", "led", "is_leading", "_law_jar", "_law_drawn", "_law_same", "_law_words", "_law_stock", "_law_wire", "_law_box", "_law_web", "_law_rule", "_law_book", "_law_order", "_law_led", "_law_numbers", "_law_leads", "_law_near", "_law_values"] w := by
  intro os
  kernel_rfl
end Pw.Lw

set_option Elab.async false
set_option linter.all false
set_option maxRecDepth 100000
set_option maxHeartbeats 0
open PySem PySem.W PySem.Calls PyProof.Rows
theorem PySem.Challenge.cw_wirewebs_k44_leadings_judged_holds : PySem.Challenge.rw_wirewebs_k44_leadings_judged.Holds := by
  w_on; o_law
  refine HandSHeadRun.head_any (r := OpenLaw.row PySem.Challenge.rw_wirewebs_k44_leadings_judged) (q := view (OpenLaw.row PySem.Challenge.rw_wirewebs_k44_leadings_judged).prog [25]) (H := Pw.Lw.hk) (ob := Pw.Lw.ob) (M := 4000) (loose := ["is_integer", "is_between", "is_tuple_of", "is_order", "led", "is_leading", "_law_jar", "_law_drawn", "_law_same", "_law_words", "_law_stock", "_law_wire", "_law_box", "_law_web", "_law_rule", "_law_book", "_law_order", "_law_led", "_law_numbers", "_law_leads", "_law_near", "_law_values"]) (d := HandSHeadRun.topDef (OpenLaw.row PySem.Challenge.rw_wirewebs_k44_leadings_judged).prog 25) (kwd := []) Pw.Lw.ob_eq
    (by kernel_rfl) (fun s => by kernel_rfl) Pw.Lw.run (by kernel_rfl) (by kernel_rfl) (by kernel_rfl) (by rfl) (by first | assumption | decide +kernel) (by decide +kernel) ⟨rfl, rfl, rfl, rfl, rfl, by decide +kernel⟩ ?hw ?hc
  case hw => w_witness2
  case hc =>
    refine Pw.walk_ofX (l := PySem.Challenge.rw_wirewebs_k44_leadings_judged) (n := 63) (k := 200) (x := "script") rfl (by decide) (by kernel_rfl) ⟨rfl, by decide, by decide⟩ ?F
    intro w mg fa h Y G hmg0
    obtain ⟨K, KX, c⟩ := Y
    have hmg : mg ("law" : PySem.Str) = some (.ref fa) := by
      have e : (HandSHeadRun.topDef (OpenLaw.row PySem.Challenge.rw_wirewebs_k44_leadings_judged).prog 25).name = ("law" : PySem.Str) := by kernel_rfl
      rw [← e]
      exact hmg0
    exact Pw.walk_pure (L := Pw.Lw.L) (KS := Pw.Lw.KS) (G := fun _ => none) (nf := 40) (fl := 22) (dl := Pw.Lw.d22) rfl rfl KX G hmg c Pw.Lw.cAll Pw.Lw.bAll Pw.Lw.kAll Pw.Lw.pure_law

